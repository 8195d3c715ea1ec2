import PyProof.Rows.All
import Wide.All
import OpenK.AllK
import Wide.FinOn
import HandS.ForMost
import HandS.Exc
import HandS.TryOnly
import HandS.ExcOwn
import HandS.WordsExc
import HandS.Lambda
import HandS.AnyAll
import HandS.Wide
import HandS.Deep
import HandS.TupAny
import HandS.Style
import HandS.WideBits
import PyProof.GenCompD
import PyProof.CollectWalk
import PyProof.TupleOfGen
import HandS.SortOrd
import HandS.Iter
import HandS.Zip
import HandS.Small
import KE.GoesMore
import KE.GoesNew
import KE.GoesEnumKw
import HandS.Defaults
import HandS.HeadHook1
import HandS.HeadHook2
import HandS.HeadHook3
import HandS.HeadHook4
import HandS.HeadWalk
import KE.KStateDown
import HandS.Head0
import HandS.Head1
import HandS.Head2
import HandS.HeadEnd
import PySem.Challenge.RW_riskstack_k03_money_over_years
set_option Elab.async false
set_option linter.all false
set_option maxRecDepth 100000
set_option maxHeartbeats 4000000
namespace R
open PySem L2

/-- a value: tuples by value, what may change by its place in the store -/
inductive Dv where
  | non
  | bl (b : Bool)
  | int (i : Int)
  | str (x : Str)
  | tup (ds : List Dv)
  | ref (n : Nat)
  /-- a list that nothing writes, by value -/
  | cst (ds : List Dv)
  /-- a list of the written part -/
  | wri (ds : List Dv)
  /-- a dict that nothing writes, by value: its keys, its values -/
  | dic (ks : List Key) (ds : List Dv)
  | dct (ks : List (List Key)) (ds : List Dv)

/-- what stands in the store -/
inductive Ob where
  /-- a list -/
  | lst (ds : List Dv)
  /-- a list that is only read -/
  | fro (ds : List Dv)
  /-- a dict of int and text keys; of tuple keys -/
  | dic (kvs : List (Key × Dv))
  | dct (kvs : List (List Key × Dv))
  /-- an instance of the class numbered c -/
  | ins (c : Nat) (fs : List (Str × Dv))
  /-- nothing is known -/
  | gone
abbrev Sto := List Ob

/-- what the run leans on: the written part, the classes' and the errors' addresses, the tables of code objects -/
structure Cfg where
  K : PySem.W.Frag
  cls : Nat → Addr
  exc : Nat → Addr
  lam : List (Addr × Str)

/-- a list that nothing writes; one of the written part -/
def SqC (H : Hp) (a : Addr) (xs : List V) : Prop := ∃ o, H a = some (.frz o (.lst xs))
def SqW (K : PySem.W.Frag) (a : Addr) (xs : List V) : Prop := SqL K (fun _ => none) a xs
theorem SqC.sql {K : PySem.W.Frag} {H : Hp} {a : Addr} {xs : List V} (h : SqC H a xs) : SqL K H a xs := let ⟨o, h⟩ := h; .inl (.inr ⟨o, h⟩)
theorem SqW.sql {K : PySem.W.Frag} {H : Hp} {a : Addr} {xs : List V} (h : SqW K a xs) : SqL K H a xs := by
  rcases h with h | h
  · rcases h with h | ⟨o, h⟩ <;> cases h
  · exact .inr h
mutual
def Rep (K : PySem.W.Frag) (p : List Addr) (H : Hp) : Dv → V → Prop
  | .non, v => v = .non
  | .bl b, v => v = .bl b
  | .int i, v => v = .int i
  | .str x, v => v = .str x
  | .ref n, v => ∃ a, p[n]? = some a ∧ v = .ref a
  | .tup ds, v => ∃ a xs, v = .ref a ∧ SqT K H a xs ∧ RepL K p H ds xs
  | .cst ds, v => ∃ a xs, v = .ref a ∧ SqC H a xs ∧ RepL K p H ds xs
  | .wri ds, v => ∃ a xs, v = .ref a ∧ SqW K a xs ∧ RepL K p H ds xs
  | .dic ks ds, v => ∃ a xs, v = .ref a ∧ (∃ o, H a = some (.frz o (.dK (ks.zip xs)))) ∧ ks.length = ds.length ∧ RepL K p H ds xs
  | .dct ks ds, v => ∃ a xs, v = .ref a ∧ (∃ o, H a = some (.frz o (.dT (ks.zip xs)))) ∧ ks.length = ds.length ∧ RepL K p H ds xs
def RepL (K : PySem.W.Frag) (p : List Addr) (H : Hp) : List Dv → List V → Prop
  | [], xs => xs = []
  | d :: ds, xs => ∃ x r, xs = x :: r ∧ Rep K p H d x ∧ RepL K p H ds r
end

/-- keys with values -/
def RepK {κ : Type} (K : PySem.W.Frag) (p : List Addr) (H : Hp) : List (κ × Dv) → List (κ × V) → Prop
  | [], xs => xs = []
  | d :: ds, xs => ∃ x r, xs = (d.1, x) :: r ∧ Rep K p H d.2 x ∧ RepK K p H ds r

/-- what values lean on stays -/
structure GrowW (p : List Addr) (H : Hp) (p' : List Addr) (H' : Hp) : Prop where
  pre : ∀ (n : Nat) (a : Addr), p[n]? = some a → p'[n]? = some a
  tup : ∀ a xs, H a = some (.tup xs) → H' a = some (.tup xs)
  frz : ∀ a o u, H a = some (.frz o u) → H' a = some (.frz o u)
/-- the abstract heap grows: tuples and what is locked stay -/
structure Grow (p : List Addr) (H : Hp) (p' : List Addr) (H' : Hp) : Prop where
  pre : ∀ (n : Nat) (a : Addr), p[n]? = some a → p'[n]? = some a
  tup : ∀ a xs, H a = some (.tup xs) → H' a = some (.tup xs)
  frz : ∀ a o u, H a = some (.frz o u) → H' a = some (.frz o u)
  ext : ∀ a f, H a = some (.ext f) → H' a = some (.ext f)
  fre : ∀ a, a ∈ p' → a ∈ p ∨ ∀ o, H a = some o → ∃ ps, o = .tbl ps
  oth : ∀ a o, H a = some o → (∀ ps, o ≠ .tbl ps) → a ∉ p → H' a = some o
theorem Grow.refl (p : List Addr) (H : Hp) : Grow p H p H := ⟨fun _ _ h => h, fun _ _ h => h, fun _ _ _ h => h, fun _ _ h => h, fun _ h => .inl h, fun _ _ h _ _ => h⟩
theorem Grow.w {p p' : List Addr} {H H' : Hp} (g : Grow p H p' H') : GrowW p H p' H' := ⟨g.pre, g.tup, g.frz⟩
theorem Grow.trans {p p1 p2 : List Addr} {H H1 H2 : Hp} (a : Grow p H p1 H1) (b : Grow p1 H1 p2 H2) : Grow p H p2 H2 :=
  ⟨fun n x h => b.pre n x (a.pre n x h), fun x xs h => b.tup x xs (a.tup x xs h), fun x o u h => b.frz x o u (a.frz x o u h), fun x f h => b.ext x f (a.ext x f h), fun x h => by
    rcases b.fre x h with h | h
    · exact a.fre x h
    · by_cases hx : x ∈ p
      · exact .inl hx
      · refine .inr fun o e => ?_
        by_cases ht : ∃ ps, o = .tbl ps
        · exact ht
        · exact h o (a.oth x o e (fun ps z => ht ⟨ps, z⟩) hx),
   fun x o h t n => b.oth x o (a.oth x o h t n) t fun m => by
    rcases a.fre x m with z | z
    · exact n z
    · obtain ⟨ps, e⟩ := z o h
      exact t ps e⟩
section
variable {K : PySem.W.Frag} {p p' : List Addr} {H H' : Hp}
theorem GrowW.rd {a : Addr} {xs : List V} (g : GrowW p H p' H') (h : Rd H a (.tup xs)) : Rd H' a (.tup xs) := by
  rcases h with h | ⟨o, h⟩
  · exact .inl (g.tup a xs h)
  · exact .inr ⟨o, g.frz a o _ h⟩
theorem GrowW.sqC {a : Addr} {xs : List V} (g : GrowW p H p' H') (h : SqC H a xs) : SqC H' a xs := let ⟨o, h⟩ := h; ⟨o, g.frz a o _ h⟩
theorem GrowW.sqT {a : Addr} {xs : List V} (g : GrowW p H p' H') (h : SqT K H a xs) : SqT K H' a xs := by
  rcases h with h | h
  · exact .inl (g.rd h)
  · exact .inr h
mutual
theorem Rep.growW (g : GrowW p H p' H') : ∀ {d : Dv} {v : V}, Rep K p H d v → Rep K p' H' d v
  | .non, _, h => by simpa [Rep] using h
  | .bl _, _, h => by simpa [Rep] using h
  | .int _, _, h => by simpa [Rep] using h
  | .str _, _, h => by simpa [Rep] using h
  | .ref n, v, h => by
    simp only [Rep] at h ⊢
    obtain ⟨a, e, q⟩ := h
    exact ⟨a, g.pre n a e, q⟩
  | .tup ds, v, h => by
    simp only [Rep] at h ⊢
    obtain ⟨a, xs, e, q, r⟩ := h
    exact ⟨a, xs, e, g.sqT q, RepL.growW g r⟩
  | .cst ds, v, h => by
    simp only [Rep] at h ⊢
    obtain ⟨a, xs, e, q, r⟩ := h
    exact ⟨a, xs, e, g.sqC q, RepL.growW g r⟩
  | .wri ds, v, h => by
    simp only [Rep] at h ⊢
    obtain ⟨a, xs, e, q, r⟩ := h
    exact ⟨a, xs, e, q, RepL.growW g r⟩
  | .dic ks ds, v, h => by
    simp only [Rep] at h ⊢
    obtain ⟨a, xs, e, ⟨o, q⟩, l, r⟩ := h
    exact ⟨a, xs, e, ⟨o, g.frz a o _ q⟩, l, RepL.growW g r⟩
  | .dct ks ds, v, h => by
    simp only [Rep] at h ⊢
    obtain ⟨a, xs, e, ⟨o, q⟩, l, r⟩ := h
    exact ⟨a, xs, e, ⟨o, g.frz a o _ q⟩, l, RepL.growW g r⟩
theorem RepL.growW (g : GrowW p H p' H') : ∀ {ds : List Dv} {xs : List V}, RepL K p H ds xs → RepL K p' H' ds xs
  | [], _, h => by simpa [RepL] using h
  | d :: ds, xs, h => by
    simp only [RepL] at h ⊢
    obtain ⟨x, r, e, q, t⟩ := h
    exact ⟨x, r, e, Rep.growW g q, RepL.growW g t⟩
end
theorem RepK.growW {κ : Type} (g : GrowW p H p' H') : ∀ {ds : List (κ × Dv)} {xs : List (κ × V)}, RepK K p H ds xs → RepK K p' H' ds xs
  | [], _, h => by simpa [RepK] using h
  | d :: ds, xs, h => by
    simp only [RepK] at h ⊢
    obtain ⟨x, r, e, q, t⟩ := h
    exact ⟨x, r, e, Rep.growW g q, RepK.growW g t⟩

theorem Rep.grow {d : Dv} {v : V} (g : Grow p H p' H') (h : Rep K p H d v) : Rep K p' H' d v := Rep.growW g.w h
theorem RepL.grow {ds : List Dv} {xs : List V} (g : Grow p H p' H') (h : RepL K p H ds xs) : RepL K p' H' ds xs := RepL.growW g.w h
theorem RepK.grow {κ : Type} {ds : List (κ × Dv)} {xs : List (κ × V)} (g : Grow p H p' H') (h : RepK K p H ds xs) : RepK K p' H' ds xs := RepK.growW g.w h
theorem Grow.rd {a : Addr} {xs : List V} (g : Grow p H p' H') (h : Rd H a (.tup xs)) : Rd H' a (.tup xs) := g.w.rd h
theorem Grow.sqC {a : Addr} {xs : List V} (g : Grow p H p' H') (h : SqC H a xs) : SqC H' a xs := g.w.sqC h
theorem Grow.sqT {a : Addr} {xs : List V} (g : Grow p H p' H') (h : SqT K H a xs) : SqT K H' a xs := g.w.sqT h

theorem RepL.nil : RepL K p H [] [] := by simp [RepL]
theorem RepL.cons {d : Dv} {x : V} {ds : List Dv} {xs : List V} (h : Rep K p H d x) (t : RepL K p H ds xs) : RepL K p H (d :: ds) (x :: xs) := by
  simp only [RepL]; exact ⟨x, xs, rfl, h, t⟩
theorem RepL.length : ∀ {ds : List Dv} {xs : List V}, RepL K p H ds xs → xs.length = ds.length
  | [], xs, h => by simp only [RepL] at h; simp [h]
  | d :: ds, xs, h => by
    simp only [RepL] at h
    obtain ⟨x, r, e, _, t⟩ := h
    rw [e, List.length_cons, List.length_cons, RepL.length t]
theorem RepL.get : ∀ {ds : List Dv} {xs : List V} {i : Nat} {d : Dv}, RepL K p H ds xs → ds[i]? = some d → ∃ x, xs[i]? = some x ∧ Rep K p H d x
  | [], _, i, d, _, e => by simp at e
  | c :: ds, xs, 0, d, h, e => by
    simp only [RepL] at h
    obtain ⟨x, r, rfl, q, _⟩ := h
    simp at e
    subst e
    exact ⟨x, rfl, q⟩
  | c :: ds, xs, i + 1, d, h, e => by
    simp only [RepL] at h
    obtain ⟨x, r, rfl, _, t⟩ := h
    obtain ⟨y, h1, h2⟩ := RepL.get (i := i) (d := d) t (by simpa using e)
    exact ⟨y, by simpa using h1, h2⟩
theorem RepL.get' : ∀ {ds : List Dv} {xs : List V} {i : Nat} {x : V}, RepL K p H ds xs → xs[i]? = some x → ∃ d, ds[i]? = some d ∧ Rep K p H d x
  | [], xs, i, x, h, e => by simp only [RepL] at h; simp [h] at e
  | c :: ds, xs, 0, x, h, e => by
    simp only [RepL] at h
    obtain ⟨y, r, rfl, q, _⟩ := h
    simp at e
    subst e
    exact ⟨c, rfl, q⟩
  | c :: ds, xs, i + 1, x, h, e => by
    simp only [RepL] at h
    obtain ⟨y, r, rfl, _, t⟩ := h
    obtain ⟨d, h1, h2⟩ := RepL.get' (i := i) (x := x) t (by simpa using e)
    exact ⟨d, by simpa using h1, h2⟩
theorem RepL.append : ∀ {ds es : List Dv} {xs ys : List V}, RepL K p H ds xs → RepL K p H es ys → RepL K p H (ds ++ es) (xs ++ ys)
  | [], es, xs, ys, h, q => by simp only [RepL] at h; subst h; exact q
  | d :: ds, es, xs, ys, h, q => by
    simp only [RepL] at h
    obtain ⟨x, r, rfl, a, t⟩ := h
    exact RepL.cons a (RepL.append t q)
theorem RepL.set : ∀ {ds : List Dv} {xs : List V} {i : Nat} {d : Dv} {x : V}, RepL K p H ds xs → Rep K p H d x → RepL K p H (ds.set i d) (xs.set i x)
  | [], xs, i, d, x, h, q => by simp only [RepL] at h; subst h; simp [RepL]
  | c :: ds, xs, 0, d, x, h, q => by
    simp only [RepL] at h
    obtain ⟨y, r, rfl, a, t⟩ := h
    exact RepL.cons q t
  | c :: ds, xs, i + 1, d, x, h, q => by
    simp only [RepL] at h
    obtain ⟨y, r, rfl, a, t⟩ := h
    exact RepL.cons a (RepL.set t q)
theorem RepL.take : ∀ {ds : List Dv} {xs : List V} (n : Nat), RepL K p H ds xs → RepL K p H (ds.take n) (xs.take n)
  | _, _, 0, _ => RepL.nil
  | [], xs, n + 1, h => by simp only [RepL] at h; subst h; simp [RepL]
  | d :: ds, xs, n + 1, h => by
    simp only [RepL] at h
    obtain ⟨y, r, rfl, a, t⟩ := h
    exact RepL.cons a (RepL.take n t)
theorem RepL.drop : ∀ {ds : List Dv} {xs : List V} (n : Nat), RepL K p H ds xs → RepL K p H (ds.drop n) (xs.drop n)
  | _, _, 0, h => h
  | [], xs, n + 1, h => by simp only [RepL] at h; subst h; simp [RepL]
  | d :: ds, xs, n + 1, h => by
    simp only [RepL] at h
    obtain ⟨y, r, rfl, a, t⟩ := h
    exact RepL.drop n t
theorem RepL.reverse : ∀ {ds : List Dv} {xs : List V}, RepL K p H ds xs → RepL K p H ds.reverse xs.reverse
  | [], xs, h => by simp only [RepL] at h; subst h; simp [RepL]
  | d :: ds, xs, h => by
    simp only [RepL] at h
    obtain ⟨y, r, rfl, a, t⟩ := h
    rw [List.reverse_cons, List.reverse_cons]
    exact RepL.append (RepL.reverse t) (RepL.cons a RepL.nil)
end

/-- an object as it lies -/
def ObR (G : Cfg) (p : List Addr) (H : Hp) (a : Addr) : Ob → Prop
  | .lst ds => ∃ xs, H a = some (.lst xs) ∧ RepL G.K p H ds xs
  | .fro ds => ∃ o xs, H a = some (.frz o (.lst xs)) ∧ RepL G.K p H ds xs
  | .dic kvs => ∃ xs, H a = some (.dK xs) ∧ RepK G.K p H kvs xs
  | .dct kvs => ∃ xs, H a = some (.dT xs) ∧ RepK G.K p H kvs xs
  | .ins c fs => ∃ dx xs, H a = some (.ins (G.cls c) dx xs) ∧ RepK G.K p H fs xs
  | .gone => True
/-- the tables of the code objects -/
structure TabsOk (G : Cfg) (H : Hp) : Prop where
  lam : LamX.Tabs G.lam H
structure Sim (G : Cfg) (p : List Addr) (st : Sto) (H : Hp) : Prop where
  len : p.length = st.length
  inj : ∀ (n m : Nat) a, p[n]? = some a → p[m]? = some a → n = m
  obj : ∀ (n : Nat) a o, p[n]? = some a → st[n]? = some o → ObR G p H a o
  nul : ∀ a, a ∈ p → H a ≠ none
  tab : TabsOk G H
  ntab : ∀ a ps, a ∈ p → H a ≠ some (.tbl ps)
  ntup : ∀ a xs, a ∈ p → H a ≠ some (.tup xs)
end R

/-! R2: how a run over plain data is a reading; names, constants, operators. -/
namespace L2
theorem PE.fit {X : Cx} {e : PySem.Expr} {t t' : TE} (h : PE X e t) (k : ∀ σ H Q, t' σ H Q → t σ H Q) : PE X e t' := ⟨fun pins s σ H Q I q => h.run pins s σ H Q I (k σ H Q q)⟩
theorem PT.fit {X : Cx} {e : PySem.Expr} {t t' : TT} (h : PT X e t) (k : ∀ σ H Q, t' σ H Q → t σ H Q) : PT X e t' := ⟨fun pins s σ H Q I q => h.run pins s σ H Q I (k σ H Q q)⟩
theorem PA.fit {X : Cx} {e : List PySem.Expr} {t t' : TA} (h : PA X e t) (k : ∀ σ H Q, t' σ H Q → t σ H Q) : PA X e t' := ⟨fun pos pins s σ H Q I q => h.run pos pins s σ H Q I (k σ H Q q)⟩
theorem PS.fit {X : Cx} {e : PySem.Stmt} {t t' : TS} (h : PS X e t) (k : ∀ D σ H, t' D σ H → t D σ H) : PS X e t' := ⟨fun pins s σ H D I q => h.run pins s σ H D I (k D σ H q)⟩
theorem PSs.fit {X : Cx} {e : List PySem.Stmt} {t t' : TS} (h : PSs X e t) (k : ∀ D σ H, t' D σ H → t D σ H) : PSs X e t' := ⟨fun pins s σ H D I q => h.run pins s σ H D I (k D σ H q)⟩
end L2
namespace R
open PySem L2

/-- what may be written -/
def Soft : HO → Prop
  | .lst _ => True
  | .dK _ => True
  | .dT _ => True
  | .ins _ _ _ => True
  | _ => False
theorem soft_ntup {u : HO} (s : Soft u) (xs : List V) : u ≠ .tup xs := fun e => by rw [e] at s; exact s
theorem soft_nfrz {u : HO} (s : Soft u) (o : Obj) (w : HO) : u ≠ .frz o w := fun e => by rw [e] at s; exact s
theorem soft_ntbl {u : HO} (s : Soft u) (ps : Array Value) : u ≠ .tbl ps := fun e => by rw [e] at s; exact s
theorem soft_next {u : HO} (s : Soft u) (f : Heap → Prop) : u ≠ .ext f := fun e => by rw [e] at s; exact s

section
variable {G : Cfg} {K : PySem.W.Frag} {p p' : List Addr} {st : Sto} {H H' : Hp} {a q : Addr} {o u : HO}
theorem Grow.new (hn : H q = none) : Grow p H p (upd H q o) :=
  ⟨fun _ _ h => h, fun b xs h => by rw [upd_ne (ne_of_none h hn)]; exact h, fun b x y h => by rw [upd_ne (ne_of_none h hn)]; exact h, fun b f h => by rw [upd_ne (ne_of_none h hn)]; exact h,
   fun _ h => .inl h, fun b x h _ _ => by rw [upd_ne (ne_of_none h hn)]; exact h⟩
theorem Grow.soft (h : H a = some u) (s : Soft u) (m : a ∈ p) : Grow p H p (upd H a o) :=
  ⟨fun _ _ h => h, fun b xs e => by rw [upd_ne (ne_of e h (fun z => soft_ntup s xs z.symm))]; exact e,
   fun b x y e => by rw [upd_ne (ne_of e h (fun z => soft_nfrz s x y z.symm))]; exact e, fun b f e => by rw [upd_ne (ne_of e h (fun z => soft_next s f z.symm))]; exact e,
   fun _ h => .inl h, fun b x e _ n => by rw [upd_ne (fun z => n (by rw [z]; exact m))]; exact e⟩
/-- a new thing, tracked -/
theorem Grow.more1 (hn : H q = none) : Grow p H (p ++ [q]) (upd H q o) := by
  have g := Grow.new (p := p) (o := o) hn
  refine ⟨fun n a h => by rw [List.getElem?_append_left (List.getElem?_eq_some_iff.mp h).1]; exact h, g.tup, g.frz, g.ext, fun b h => ?_, g.oth⟩
  rcases List.mem_append.mp h with h | h
  · exact .inl h
  · rw [List.mem_singleton.mp h]
    refine .inr fun o e => ?_
    rw [hn] at e
    cases e
/-- a thing that was not there, and is not in the store, changes -/
theorem Grow.over {p0 : List Addr} {H0 : Hp} (g : Grow p0 H0 p H) (hn : H0 a = none) : Grow p0 H0 p (upd H a o) :=
  ⟨g.pre, fun b xs e => by rw [upd_ne (ne_of_none e hn)]; exact g.tup b xs e, fun b x y e => by rw [upd_ne (ne_of_none e hn)]; exact g.frz b x y e, fun b f e => by rw [upd_ne (ne_of_none e hn)]; exact g.ext b f e,
   g.fre, fun b x e t m => by rw [upd_ne (ne_of_none e hn)]; exact g.oth b x e t m⟩
theorem GrowW.soft (h : H a = some u) (s : Soft u) : GrowW p H p (upd H a o) :=
  ⟨fun _ _ h => h, fun b xs e => by rw [upd_ne (ne_of e h (fun z => soft_ntup s xs z.symm))]; exact e,
   fun b x y e => by rw [upd_ne (ne_of e h (fun z => soft_nfrz s x y z.symm))]; exact e⟩
theorem TabsOk.same (t : TabsOk G H) (e : ∀ b o, H b = some o → (∀ x, ¬ Soft x → o = x → H' b = some o)) : TabsOk G H' := by
  have e1 : ∀ b ps, H b = some (.tbl ps) → H' b = some (.tbl ps) := fun b ps h => e b _ h (.tbl ps) (fun z => z) rfl
  have e2 : ∀ b f, H b = some (.ext f) → H' b = some (.ext f) := fun b f h => e b _ h (.ext f) (fun z => z) rfl
  refine ⟨fun x hx => ?_⟩
  obtain ⟨ps, h1, h2, h3⟩ := t.lam x hx
  refine ⟨ps, e1 _ _ h1, h2, fun pos cv hc => ?_⟩
  obtain ⟨c, e3, e4⟩ := h3 pos cv hc
  exact ⟨c, e3, e2 _ _ e4⟩
theorem TabsOk.new (t : TabsOk G H) (hn : H q = none) : TabsOk G (upd H q o) :=
  t.same fun b x h _ _ _ => by rw [upd_ne (ne_of_none h hn)]; exact h
theorem TabsOk.soft (t : TabsOk G H) (h : H a = some u) (s : Soft u) : TabsOk G (upd H a o) :=
  t.same fun b x e y ny z => by
    rw [upd_ne (ne_of e h fun w => ny (by rw [← z, w]; exact s))]; exact e
theorem ObR.keepW (g : GrowW p H p' H') (e : H' a = H a) : ∀ {o : Ob}, ObR G p H a o → ObR G p' H' a o
  | .lst _, ⟨xs, h, r⟩ => ⟨xs, by rw [e]; exact h, r.growW g⟩
  | .fro _, ⟨o, xs, h, r⟩ => ⟨o, xs, by rw [e]; exact h, r.growW g⟩
  | .dic _, ⟨xs, h, r⟩ => ⟨xs, by rw [e]; exact h, r.growW g⟩
  | .dct _, ⟨xs, h, r⟩ => ⟨xs, by rw [e]; exact h, r.growW g⟩
  | .ins _ _, ⟨dx, xs, h, r⟩ => ⟨dx, xs, by rw [e]; exact h, r.growW g⟩
  | .gone, _ => trivial
theorem ObR.keep (g : Grow p H p' H') (e : H' a = H a) {o : Ob} (r : ObR G p H a o) : ObR G p' H' a o := ObR.keepW g.w e r
theorem Sim.at (S : Sim G p st H) {n : Nat} {o : Ob} (h : st[n]? = some o) : ∃ a, p[n]? = some a ∧ ObR G p H a o := by
  have hl : n < p.length := by rw [S.len]; exact (List.getElem?_eq_some_iff.mp h).1
  exact ⟨p[n], List.getElem?_eq_getElem hl, S.obj n _ o (List.getElem?_eq_getElem hl) h⟩
/-- a new thing beside, not in the store -/
theorem Sim.beside (S : Sim G p st H) (hn : H q = none) : Sim G p st (upd H q o) := by
  have ne : ∀ b, b ∈ p → b ≠ q := fun b hb z => S.nul b hb (by rw [z]; exact hn)
  refine ⟨S.len, S.inj, fun n a x h1 h2 => ?_, fun b hb => ?_, S.tab.new hn, fun b ps hb => ?_, fun b xs hb => ?_⟩
  · exact ObR.keep (Grow.new hn) (upd_ne (ne a (List.mem_of_getElem? h1))) (S.obj n a x h1 h2)
  · rw [upd_ne (ne b hb)]; exact S.nul b hb
  · rw [upd_ne (ne b hb)]; exact S.ntab b ps hb
  · rw [upd_ne (ne b hb)]; exact S.ntup b xs hb
theorem Sim.alloc (S : Sim G p st H) (hn : H q = none) (s : Soft o) {x : Ob} (hx : ObR G (p ++ [q]) (upd H q o) q x) : Sim G (p ++ [q]) (st ++ [x]) (upd H q o) := by
  have ne : ∀ b, b ∈ p → b ≠ q := fun b hb z => S.nul b hb (by rw [z]; exact hn)
  have B := S.beside (o := o) hn
  have g : Grow p H (p ++ [q]) (upd H q o) := Grow.more1 hn
  have cases : ∀ (n : Nat) b, (p ++ [q])[n]? = some b → (n < p.length ∧ p[n]? = some b) ∨ (n = p.length ∧ b = q) := fun n b h => by
    by_cases hl : n < p.length
    · rw [List.getElem?_append_left hl] at h
      exact .inl ⟨hl, h⟩
    · rw [List.getElem?_append_right (by omega)] at h
      have hz : n - p.length = 0 := by
        have := (List.getElem?_eq_some_iff.mp h).1
        simp at this
        omega
      rw [hz] at h
      simp at h
      exact .inr ⟨by omega, h.symm⟩
  refine ⟨by simp [S.len], fun n m b h1 h2 => ?_, fun n b y h1 h2 => ?_, fun b hb => ?_, B.tab, fun b ps hb => ?_, fun b xs hb => ?_⟩
  · rcases cases n b h1 with ⟨l1, e1⟩ | ⟨l1, e1⟩
    · rcases cases m b h2 with ⟨l2, e2⟩ | ⟨l2, e2⟩
      · exact S.inj n m b e1 e2
      · exact absurd e2 (ne b (List.mem_of_getElem? e1))
    · rcases cases m b h2 with ⟨l2, e2⟩ | ⟨l2, e2⟩
      · exact absurd e1 (ne b (List.mem_of_getElem? e2))
      · omega
  · rcases cases n b h1 with ⟨l1, e1⟩ | ⟨l1, e1⟩
    · rw [List.getElem?_append_left (by rw [← S.len]; exact l1)] at h2
      exact ObR.keep g (upd_ne (ne b (List.mem_of_getElem? e1))) (S.obj n b y e1 h2)
    · have : st.length = n := by rw [← S.len]; exact l1.symm
      rw [List.getElem?_append_right (by omega), ← this] at h2
      simp at h2
      rw [e1, ← h2]
      exact hx
  · rcases List.mem_append.mp hb with hb | hb
    · exact B.nul b hb
    · rw [List.mem_singleton.mp hb, upd_same]; exact fun z => nomatch z
  · rcases List.mem_append.mp hb with hb | hb
    · exact B.ntab b ps hb
    · rw [List.mem_singleton.mp hb, upd_same]; exact fun z => soft_ntbl s ps (Option.some.inj z)
  · rcases List.mem_append.mp hb with hb | hb
    · exact B.ntup b xs hb
    · rw [List.mem_singleton.mp hb, upd_same]; exact fun z => soft_ntup s xs (Option.some.inj z)
theorem Sim.set (S : Sim G p st H) {n : Nat} (hp : p[n]? = some a) (ha : H a = some u) (su : Soft u) (so : Soft o) {x : Ob} (hx : ObR G p (upd H a o) a x) : Sim G p (st.set n x) (upd H a o) := by
  refine ⟨by simp [S.len], S.inj, fun m b y h1 h2 => ?_, fun b hb => ?_, S.tab.soft ha su, fun b ps hb => ?_, fun b xs hb => ?_⟩
  · by_cases hm : m = n
    · subst hm
      rw [hp] at h1
      cases h1
      have hl : m < st.length := by rw [← S.len]; exact (List.getElem?_eq_some_iff.mp hp).1
      rw [List.getElem?_set_self hl] at h2
      cases h2
      exact hx
    · rw [List.getElem?_set_ne (Ne.symm hm)] at h2
      have hb : b ≠ a := fun z => hm (S.inj m n b h1 (by rw [z]; exact hp))
      exact ObR.keep (Grow.soft ha su (List.mem_of_getElem? hp)) (upd_ne hb) (S.obj m b y h1 h2)
  · by_cases hb2 : b = a
    · rw [hb2, upd_same]; exact fun z => nomatch z
    · rw [upd_ne hb2]; exact S.nul b hb
  · by_cases hb2 : b = a
    · rw [hb2, upd_same]; exact fun z => soft_ntbl so ps (Option.some.inj z)
    · rw [upd_ne hb2]; exact S.ntab b ps hb
  · by_cases hb2 : b = a
    · rw [hb2, upd_same]; exact fun z => soft_ntup so xs (Option.some.inj z)
    · rw [upd_ne hb2]; exact S.ntup b xs hb
/-- a thing that is not in the store changes -/
theorem Sim.untr (S : Sim G p st H) (ha : H a = some u) (su : Soft u) (n : a ∉ p) : Sim G p st (upd H a o) := by
  have ne : ∀ b, b ∈ p → b ≠ a := fun b hb z => n (by rw [← z]; exact hb)
  refine ⟨S.len, S.inj, fun m b y h1 h2 => ?_, fun b hb => ?_, S.tab.soft ha su, fun b ps hb => ?_, fun b xs hb => ?_⟩
  · exact ObR.keepW (GrowW.soft ha su) (upd_ne (ne b (List.mem_of_getElem? h1))) (S.obj m b y h1 h2)
  · rw [upd_ne (ne b hb)]; exact S.nul b hb
  · rw [upd_ne (ne b hb)]; exact S.ntab b ps hb
  · rw [upd_ne (ne b hb)]; exact S.ntup b xs hb
/-- a thing beside the store comes into it -/
theorem Sim.track (S : Sim G p st H) (ha : H a = some u) (su : Soft u) (n : a ∉ p) {x : Ob} (hx : ObR G (p ++ [a]) H a x) : Sim G (p ++ [a]) (st ++ [x]) H := by
  have g : GrowW p H (p ++ [a]) H := ⟨fun n a h => by rw [List.getElem?_append_left (List.getElem?_eq_some_iff.mp h).1]; exact h, fun _ _ h => h, fun _ _ _ h => h⟩
  have cases : ∀ (k : Nat) b, (p ++ [a])[k]? = some b → (k < p.length ∧ p[k]? = some b) ∨ (k = p.length ∧ b = a) := fun k b h => by
    by_cases hl : k < p.length
    · rw [List.getElem?_append_left hl] at h
      exact .inl ⟨hl, h⟩
    · rw [List.getElem?_append_right (by omega)] at h
      have hz : k - p.length = 0 := by
        have := (List.getElem?_eq_some_iff.mp h).1
        simp at this
        omega
      rw [hz] at h
      simp at h
      exact .inr ⟨by omega, h.symm⟩
  refine ⟨by simp [S.len], fun k m b h1 h2 => ?_, fun k b y h1 h2 => ?_, fun b hb => ?_, S.tab, fun b ps hb => ?_, fun b xs hb => ?_⟩
  · rcases cases k b h1 with ⟨l1, e1⟩ | ⟨l1, e1⟩
    · rcases cases m b h2 with ⟨l2, e2⟩ | ⟨l2, e2⟩
      · exact S.inj k m b e1 e2
      · exact absurd (List.mem_of_getElem? e1) (by rw [e2]; exact n)
    · rcases cases m b h2 with ⟨l2, e2⟩ | ⟨l2, e2⟩
      · exact absurd (List.mem_of_getElem? e2) (by rw [e1]; exact n)
      · omega
  · rcases cases k b h1 with ⟨l1, e1⟩ | ⟨l1, e1⟩
    · rw [List.getElem?_append_left (by rw [← S.len]; exact l1)] at h2
      exact ObR.keepW g rfl (S.obj k b y e1 h2)
    · have : st.length = k := by rw [← S.len]; exact l1.symm
      rw [List.getElem?_append_right (by omega), ← this] at h2
      simp at h2
      rw [e1, ← h2]
      exact hx
  · rcases List.mem_append.mp hb with hb | hb
    · exact S.nul b hb
    · rw [List.mem_singleton.mp hb, ha]; exact fun z => nomatch z
  · rcases List.mem_append.mp hb with hb | hb
    · exact S.ntab b ps hb
    · rw [List.mem_singleton.mp hb, ha]; exact fun z => soft_ntbl su ps (Option.some.inj z)
  · rcases List.mem_append.mp hb with hb | hb
    · exact S.ntup b xs hb
    · rw [List.mem_singleton.mp hb, ha]; exact fun z => soft_ntup su xs (Option.some.inj z)
/-- a thing that is not in the store stays outside -/
theorem Grow.out (g : Grow p H p' H') (ha : H a = some u) (su : Soft u) (n : a ∉ p) : H' a = some u ∧ a ∉ p' := by
  have nt : ∀ ps, u ≠ .tbl ps := fun ps => soft_ntbl su ps
  refine ⟨g.oth a u ha nt n, fun m => ?_⟩
  rcases g.fre a m with z | z
  · exact n z
  · obtain ⟨ps, e⟩ := z u ha
    exact nt ps e
end

/-! ### runs -/
inductive Res (α : Type) where
  | ok (a : α)
  | exc (c : Nat)
/-- a run's end: none where the run is not told -/
abbrev Mo (α : Type) := Option (Res α × Sto)
abbrev Ls := List (Option Dv)
abbrev SE := Ls → Sto → Mo Dv
abbrev SA := Ls → Sto → Mo (List Dv)
def Mo.bind {α β : Type} (m : Mo α) (k : α → Sto → Mo β) : Mo β :=
  match m with
  | some (.ok a, st) => k a st
  | some (.exc c, st) => some (.exc c, st)
  | none => none
def rOk {α : Type} (a : α) (st : Sto) : Mo α := some (.ok a, st)

/-- the names' values -/
def RepS (G : Cfg) (p : List Addr) (H : Hp) (ls : Ls) (σ : L2.St) : Prop :=
  ls.length = σ.length ∧ ∀ (i : Nat) d, ls[i]? = some (some d) → ∃ v, σ[i]? = some (some v) ∧ Rep G.K p H d v
/-- a run that is told, and what is wanted behind it -/
def Pend (G : Cfg) (E : XK) {α β : Type} (rep : List Addr → Hp → α → β → Prop) (p : List Addr) (H : Hp) (m : Mo α) (Q : β → Hp → Prop) : Prop :=
  ∃ r st', m = some (r, st') ∧ ∀ p' H', Grow p H p' H' → Sim G p' st' H' → match r with
    | .ok a => ∀ b, rep p' H' a b → Q b H'
    | .exc c => E (.ref (G.exc c)) none H'
/-- the reading of a run -/
def tM (G : Cfg) (E : XK) {α β : Type} (rep : List Addr → Hp → α → β → Prop) (f : Ls → Sto → Mo α) (σ : L2.St) (H : Hp) (Q : β → Hp → Prop) : Prop :=
  ∃ p ls st, Sim G p st H ∧ RepS G p H ls σ ∧ Pend G E rep p H (f ls st) Q
abbrev rD (G : Cfg) : List Addr → Hp → Dv → V → Prop := fun p H => Rep G.K p H
abbrev rL (G : Cfg) : List Addr → Hp → List Dv → List V → Prop := fun p H => RepL G.K p H
abbrev rB : List Addr → Hp → Bool → Bool → Prop := fun _ _ a b => a = b
def tE (G : Cfg) (E : XK) (f : SE) : TE := tM G E (rD G) f
def tA (G : Cfg) (E : XK) (f : SA) : TA := tM G E (rL G) f
def tT (G : Cfg) (E : XK) (f : Ls → Sto → Mo Bool) : TT := tM G E rB f
section
variable {G : Cfg} {E : XK} {α β γ δ : Type} {p p' : List Addr} {H H' : Hp} {st : Sto} {ls : Ls} {σ : L2.St}
theorem RepS.grow (g : Grow p H p' H') (h : RepS G p H ls σ) : RepS G p' H' ls σ := ⟨h.1, fun i d e => let ⟨v, a, b⟩ := h.2 i d e; ⟨v, a, b.grow g⟩⟩
theorem Pend.mono {rep : List Addr → Hp → α → β → Prop} {m : Mo α} {Q Q' : β → Hp → Prop} (h : Pend G E rep p H m Q) (k : ∀ b H', Q b H' → Q' b H') : Pend G E rep p H m Q' := by
  obtain ⟨r, st', e, f⟩ := h
  refine ⟨r, st', e, fun p' H' g S => ?_⟩
  have z := f p' H' g S
  cases r with
  | ok a => exact fun b hb => k b H' (z b hb)
  | exc c => exact z
theorem Pend.bind {rep : List Addr → Hp → α → β → Prop} {rep' : List Addr → Hp → γ → δ → Prop} {m : Mo α} {k : α → Sto → Mo γ} {Q : δ → Hp → Prop} (h : Pend G E rep' p H (m.bind k) Q) :
    Pend G E rep p H m fun b H1 => ∃ p1 st1 a, Sim G p1 st1 H1 ∧ Grow p H p1 H1 ∧ rep p1 H1 a b ∧ Pend G E rep' p1 H1 (k a st1) Q := by
  obtain ⟨r, st', e, f⟩ := h
  cases m with
  | none => exact (nomatch e)
  | some m =>
    rcases m with ⟨⟨a⟩ | ⟨c⟩, st1⟩
    · have e' : k a st1 = some (r, st') := e
      exact ⟨.ok a, st1, rfl, fun p1 H1 g1 S1 b hb => ⟨p1, st1, a, S1, g1, hb, r, st', e', fun p2 H2 g2 S2 => f p2 H2 (g1.trans g2) S2⟩⟩
    · have e' : (some (Res.exc c, st1) : Mo γ) = some (r, st') := e
      cases e'
      exact ⟨.exc _, _, rfl, fun p1 H1 g1 S1 => f p1 H1 g1 S1⟩
/-- the same, what is wanted told from an earlier heap -/
theorem Pend.bindA {p0 : List Addr} {H0 : Hp} {rep : List Addr → Hp → α → β → Prop} {rep' : List Addr → Hp → γ → δ → Prop} {m : Mo α} {k : α → Sto → Mo γ} {Q : δ → Hp → Prop} (h : Pend G E rep' p0 H0 (m.bind k) Q) (g : Grow p0 H0 p H) :
    Pend G E rep p H m fun b H1 => ∃ p1 st1 a, Sim G p1 st1 H1 ∧ Grow p H p1 H1 ∧ rep p1 H1 a b ∧ Pend G E rep' p0 H0 (k a st1) Q := by
  obtain ⟨r, st', e, f⟩ := h
  cases m with
  | none => exact (nomatch e)
  | some m =>
    rcases m with ⟨⟨a⟩ | ⟨c⟩, st1⟩
    · have e' : k a st1 = some (r, st') := e
      exact ⟨.ok a, st1, rfl, fun p1 H1 g1 S1 b hb => ⟨p1, st1, a, S1, g1, hb, r, st', e', f⟩⟩
    · have e' : (some (Res.exc c, st1) : Mo γ) = some (r, st') := e
      cases e'
      exact ⟨.exc _, _, rfl, fun p1 H1 g1 S1 => f p1 H1 (g.trans g1) S1⟩
theorem tM_bindA {p0 : List Addr} {H0 : Hp} {rep : List Addr → Hp → α → β → Prop} {rep' : List Addr → Hp → γ → δ → Prop} {f : Ls → Sto → Mo α} {k : α → Sto → Mo γ} {Q : δ → Hp → Prop} (S : Sim G p st H) (L : RepS G p H ls σ) (g0 : Grow p0 H0 p H) (h : Pend G E rep' p0 H0 ((f ls st).bind k) Q)
    {Q' : β → Hp → Prop} (hk : ∀ p1 st1 a b H1, Sim G p1 st1 H1 → Grow p H p1 H1 → RepS G p1 H1 ls σ → rep p1 H1 a b → Pend G E rep' p0 H0 (k a st1) Q → Q' b H1) : tM G E rep f σ H Q' :=
  ⟨p, ls, st, S, L, (Pend.bindA (rep := rep) h g0).mono fun b H1 ⟨p1, st1, a, S1, g1, ra, q⟩ => hk p1 st1 a b H1 S1 g1 (L.grow g1) ra q⟩
/-- it is through -/
theorem Pend.now {rep : List Addr → Hp → α → β → Prop} {a : α} {b : β} {Q : β → Hp → Prop} (h : Pend G E rep p H (rOk a st) Q) (S : Sim G p' st H') (g : Grow p H p' H') (r : rep p' H' a b) : Q b H' := by
  obtain ⟨r1, st1, e, f⟩ := h
  cases e
  exact f p' H' g S b r
/-- one run, then another -/
theorem tM_bind {rep : List Addr → Hp → α → β → Prop} {rep' : List Addr → Hp → γ → δ → Prop} {f : Ls → Sto → Mo α} {k : α → Sto → Mo γ} {Q : δ → Hp → Prop} (S : Sim G p st H) (L : RepS G p H ls σ) (h : Pend G E rep' p H ((f ls st).bind k) Q)
    {Q' : β → Hp → Prop} (hk : ∀ p1 st1 a b H1, Sim G p1 st1 H1 → Grow p H p1 H1 → RepS G p1 H1 ls σ → rep p1 H1 a b → Pend G E rep' p1 H1 (k a st1) Q → Q' b H1) : tM G E rep f σ H Q' :=
  ⟨p, ls, st, S, L, (Pend.bind (rep := rep) h).mono fun b H1 ⟨p1, st1, a, S1, g1, ra, q⟩ => hk p1 st1 a b H1 S1 g1 (L.grow g1) ra q⟩

/-! ### names, constants -/
def eVar (i : Nat) : SE := fun ls st => match ls[i]? with
  | some (some d) => rOk d st
  | _ => none
def eC (d : Dv) : SE := fun _ st => rOk d st
variable {X : Cx} {a b : Expr} {fa fb : SE} {pos : Pos}
theorem r_var {i : Nat} {x : Str} (h : PE X (.Name x pos) (tVar i)) : PE X (.Name x pos) (tE G E (eVar i)) := by
  refine h.fit fun σ H Q ⟨p, ls, st, S, L, q⟩ => ?_
  unfold eVar at q
  cases e : ls[i]? with
  | none => rw [e] at q; obtain ⟨_, _, z, _⟩ := q; cases z
  | some o =>
    cases o with
    | none => rw [e] at q; obtain ⟨_, _, z, _⟩ := q; cases z
    | some d =>
      rw [e] at q
      obtain ⟨v, h1, h2⟩ := L.2 i d e
      exact ⟨v, h1, q.now S (Grow.refl _ _) h2⟩
theorem r_int {i j} : PE X (.Constant (.int i) j pos) (tE G E (eC (.int i))) := pe_int.fit fun σ H Q ⟨p, ls, st, S, L, q⟩ => q.now S (Grow.refl _ _) (by simp [rD, Rep])
theorem r_bl {b j} : PE X (.Constant (.bool b) j pos) (tE G E (eC (.bl b))) := pe_bl.fit fun σ H Q ⟨p, ls, st, S, L, q⟩ => q.now S (Grow.refl _ _) (by simp [rD, Rep])
theorem r_non {j} : PE X (.Constant .none j pos) (tE G E (eC .non)) := pe_non.fit fun σ H Q ⟨p, ls, st, S, L, q⟩ => q.now S (Grow.refl _ _) (by simp [rD, Rep])
theorem r_str {x j} : PE X (.Constant (.str x) j pos) (tE G E (eC (.str x))) := pe_str.fit fun σ H Q ⟨p, ls, st, S, L, q⟩ => q.now S (Grow.refl _ _) (by simp [rD, Rep])
/-- a module's name: an int, a text, a tuple of the written part -/
theorem r_glob {x : Str} {u : Value} {v : V} {d : Dv} (hg : Gl X x) (hm : X.mg x = some u) (r : RelV v u) (hr : ∀ p H, Rep G.K p H d v) (hd : (x == ("__debug__" : Str)) = false := by decide) : PE X (.Name x pos) (tE G E (eC d)) :=
  (pe_glob hg hm r hd).fit fun σ H Q ⟨p, ls, st, S, L, q⟩ => q.now S (Grow.refl _ _) (hr _ _)

/-! ### arguments, displays -/
def aNil : SA := fun _ st => rOk [] st
def aCons (f : SE) (g : SA) : SA := fun ls st => (f ls st).bind fun x st1 => (g ls st1).bind fun xs st2 => rOk (x :: xs) st2
theorem r_anil : PA X [] (tA G E aNil) := pa_nil.fit fun σ H Q ⟨p, ls, st, S, L, q⟩ => q.now S (Grow.refl _ _) RepL.nil
theorem r_acons {es : List Expr} {g : SA} (ha : PE X a (tE G E fa)) (hr : PA X es (tA G E g)) (hs : starEach (a :: es) X.env = (false, eval a X.env) :: starEach es X.env := by rfl) : PA X (a :: es) (tA G E (aCons fa g)) :=
  (pa_cons ha hr hs).fit fun σ H Q ⟨p, ls, st, S, L, q⟩ => tM_bind S L q fun p1 st1 x v H1 S1 g1 L1 r1 q1 => tM_bind S1 L1 q1 fun p2 st2 xs vs H2 S2 g2 L2' r2 q2 =>
    q2.now S2 (Grow.refl _ _) (RepL.cons (r1.grow g2) r2)
def eTup (g : SA) : SE := fun ls st => (g ls st).bind fun xs st1 => if xs.length ≤ sizeLine then rOk (.tup xs) st1 else none
def eLst (g : SA) : SE := fun ls st => (g ls st).bind fun xs st1 => if xs.length ≤ sizeLine then some (.ok (.ref st1.length), st1 ++ [.lst xs]) else none
theorem Pend.ifT {rep : List Addr → Hp → α → β → Prop} {c : Prop} [Decidable c] {m : Mo α} {Q : β → Hp → Prop} (h : Pend G E rep p H (if c then m else none) Q) : c ∧ Pend G E rep p H m Q := by
  by_cases hc : c
  · rw [if_pos hc] at h; exact ⟨hc, h⟩
  · rw [if_neg hc] at h; obtain ⟨_, _, z, _⟩ := h; cases z
theorem Sim.last (S : Sim G p st H) {q : Addr} : (p ++ [q])[st.length]? = some q := by rw [← S.len]; simp
theorem Pend.newLst {xs : List Dv} {vs : List V} {q : Addr} {Q : V → Hp → Prop} (h : Pend G E (rD G) p H (some (.ok (.ref st.length), st ++ [.lst xs])) Q) (S : Sim G p st H) (r : RepL G.K p H xs vs) (hq : H q = none) : Q (.ref q) (upd H q (.lst vs)) := by
  have g : Grow p H (p ++ [q]) (upd H q (.lst vs)) := Grow.more1 hq
  have S' : Sim G (p ++ [q]) (st ++ [.lst xs]) (upd H q (.lst vs)) := S.alloc (o := .lst vs) hq True.intro ⟨vs, upd_same, RepL.grow g r⟩
  exact Pend.now (rep := rD G) (a := .ref st.length) h S' g ⟨q, S.last, rfl⟩
theorem r_tup {es : List Expr} {g : SA} {k} (h : PA X es (tA G E g)) : PE X (.Tuple es k pos) (tE G E (eTup g)) :=
  (pe_tup h).fit fun σ H Q ⟨p, ls, st, S, L, q⟩ => tM_bind S L q fun p1 st1 xs vs H1 S1 g1 L1 r1 q1 => by
    obtain ⟨hz, q1⟩ := q1.ifT
    refine ⟨by rw [RepL.length r1]; exact hz, fun a ha => ?_⟩
    exact q1.now (S1.beside ha) (Grow.new ha) ⟨a, vs, rfl, SqT.of upd_same, RepL.grow (Grow.new ha) r1⟩
theorem r_lst {es : List Expr} {g : SA} (h : PA X es (tA G E g)) : PE X (.List es pos) (tE G E (eLst g)) :=
  (pe_lst h).fit fun σ H Q ⟨p, ls, st, S, L, q⟩ => tM_bind S L q fun p1 st1 xs vs H1 S1 g1 L1 r1 q1 => by
    obtain ⟨hz, q1⟩ := q1.ifT
    exact ⟨by rw [RepL.length r1]; exact hz, fun a ha => q1.newLst S1 r1 ha⟩

/-! ### what is made is locked at once: by value -/
def tFrz (t : TE) : TE := fun σ H Q => t σ H fun v H1 => Q v H1 ∨ ∃ d u, H1 d = some u ∧ Mut (some u) ∧ ∀ od, Q v (upd H1 d (.frz od u))
theorem pe_frz {e : Expr} {t : TE} (h : PE X e t) : PE X e (tFrz t) := by
  refine ⟨fun pins s σ H Q I hw => ?_⟩
  refine thn (h.run pins s σ H _ I hw) fun v s1 ⟨x, H1, I1, r, q⟩ => ?_
  rcases q with q | ⟨d, u, hd, mu, q⟩
  · exact ⟨x, H1, I1, r, q⟩
  · obtain ⟨od, I2⟩ := I1.lock hd mu
    exact ⟨x, _, I2, r, q od⟩
def orFrzS (D : Ends) : Ends := { D with nx := fun σ H1 => D.nx σ H1 ∨ ∃ d u, H1 d = some u ∧ Mut (some u) ∧ ∀ od, D.nx σ (upd H1 d (.frz od u)) }
def tFrzS (t : TS) : TS := fun D σ H => t (orFrzS D) σ H
theorem ps_frz {e : Stmt} {t : TS} (h : PS X e t) : PS X e (tFrzS t) := by
  refine ⟨fun pins s σ H D I hw => ?_⟩
  refine thn (h.run pins s σ H _ I hw) fun f s1 q => ?_
  cases f with
  | next =>
    obtain ⟨σ', H', I2, q⟩ := q
    rcases q with q | ⟨d, u, hd, mu, q⟩
    · exact ⟨σ', H', I2, q⟩
    · obtain ⟨od, I3⟩ := I2.lock hd mu
      exact ⟨σ', _, I3, q od⟩
  | brk => exact q
  | cont => exact q
  | ret v => exact q
/-- a new list, locked: by value -/
theorem Pend.newCst {xs : List Dv} {vs : List V} {q : Addr} {Q : V → Hp → Prop} (h : Pend G E (rD G) p H (rOk (.cst xs) st) Q) (S : Sim G p st H) (r : RepL G.K p H xs vs) (hq : H q = none) :
    Q (.ref q) (upd H q (.lst vs)) ∨ ∃ d u, upd H q (.lst vs) d = some u ∧ Mut (some u) ∧ ∀ od, Q (.ref q) (upd (upd H q (.lst vs)) d (.frz od u)) := by
  refine .inr ⟨q, .lst vs, upd_same, trivial, fun od => ?_⟩
  rw [upd_upd]
  exact h.now (S.beside hq) (Grow.new hq) (by simp only [rD, Rep]; exact ⟨q, vs, rfl, ⟨od, upd_same⟩, RepL.grow (Grow.new hq) r⟩)
def eCst (g : SA) : SE := fun ls st => (g ls st).bind fun xs st1 => if xs.length ≤ sizeLine then rOk (.cst xs) st1 else none
theorem r_cst {es : List Expr} {g : SA} (h : PA X es (tA G E g)) : PE X (.List es pos) (tE G E (eCst g)) :=
  (pe_frz (pe_lst h)).fit fun σ H Q ⟨p, ls, st, S, L, q⟩ => tM_bind S L q fun p1 st1 xs vs H1 S1 g1 L1 r1 q1 => by
    obtain ⟨hz, q1⟩ := q1.ifT
    exact ⟨by rw [RepL.length r1]; exact hz, fun a ha => q1.newCst S1 r1 ha⟩

/-! ### operators by values -/
abbrev F2 := Dv → Dv → Sto → Mo Dv
def OpS (G : Cfg) (E : XK) (f : F2) (r : R2) : Prop := ∀ p st H x y u v Q, Sim G p st H → Rep G.K p H x u → Rep G.K p H y v → Pend G E (rD G) p H (f x y st) Q → r u v H Q
def eOp (f : F2) (fa fb : SE) : SE := fun ls st => (fa ls st).bind fun x st1 => (fb ls st1).bind fun y st2 => f x y st2
theorem tE_op {f : F2} {r : R2} (hf : OpS G E f r) : ∀ σ H Q, tE G E (eOp f fa fb) σ H Q → tOp r (tE G E fa) (tE G E fb) σ H Q := fun σ H Q ⟨p, ls, st, S, L, q⟩ =>
  tM_bind S L q fun p1 st1 x u H1 S1 g1 L1 r1 q1 => tM_bind S1 L1 q1 fun p2 st2 y v H2 S2 g2 _ r2 q2 => hf p2 st2 H2 x y u v Q S2 (r1.grow g2) r2 q2
theorem tE_opQ {f : F2} {r : R2} {Q Q' : VK} (hf : ∀ p st H x y u v, Sim G p st H → Rep G.K p H x u → Rep G.K p H y v → Pend G E (rD G) p H (f x y st) Q → r u v H Q') : ∀ σ H, tE G E (eOp f fa fb) σ H Q → tOp r (tE G E fa) (tE G E fb) σ H Q' := fun σ H ⟨p, ls, st, S, L, q⟩ =>
  tM_bind S L q fun p1 st1 x u H1 S1 g1 L1 r1 q1 => tM_bind S1 L1 q1 fun p2 st2 y v H2 S2 g2 _ r2 q2 => hf p2 st2 H2 x y u v S2 (r1.grow g2) r2 q2
theorem r_op {op : Operator} {f : F2} {r : R2} (ho : OpR X (binaryOp op) r) (hf : OpS G E f r) (ha : PE X a (tE G E fa)) (hb : PE X b (tE G E fb)) : PE X (.BinOp a op b pos) (tE G E (eOp f fa fb)) := (pe_op ho ha hb).fit (tE_op hf)
theorem r_cmp {op : CmpOp} {f : F2} {r : R2} (ho : OpR X (compareOp op) r) (hm : behindInMarks op b = false) (hf : OpS G E f r) (ha : PE X a (tE G E fa)) (hb : PE X b (tE G E fb)) : PE X (.Compare a [op] [b] pos) (tE G E (eOp f fa fb)) := (pe_cmpR ho ha hb hm).fit (tE_op hf)
/-- of two ints -/
def opI (C : Int → Int → Prop) [∀ i j, Decidable (C i j)] (g : Int → Int → Dv) : F2 := fun x y st => match x, y with
  | .int i, .int j => if C i j then rOk (g i j) st else none
  | _, _ => none
theorem rep_int {K : PySem.W.Frag} {i : Int} {v : V} (h : Rep K p H (.int i) v) : v = .int i := by simpa [Rep] using h
theorem rep_str {K : PySem.W.Frag} {i : Str} {v : V} (h : Rep K p H (.str i) v) : v = .str i := by simpa [Rep] using h
theorem rep_bl {K : PySem.W.Frag} {i : Bool} {v : V} (h : Rep K p H (.bl i) v) : v = .bl i := by simpa [Rep] using h
theorem Pend.no {rep : List Addr → Hp → α → β → Prop} {Q : β → Hp → Prop} {Z : Prop} (h : Pend G E rep p H none Q) : Z := by obtain ⟨_, _, z, _⟩ := h; cases z
theorem ops_I {C : Int → Int → Prop} [∀ i j, Decidable (C i j)] {g : Int → Int → Dv} {g' : Int → Int → V} {C' : Int → Int → Prop} (hC : ∀ i j, C i j → C' i j) (hg : ∀ i j p H, Rep G.K p H (g i j) (g' i j)) : OpS G E (opI C g) (rI C' g') := by
  intro p st H x y u v Q S r1 r2 q
  unfold opI at q
  split at q
  · rename_i i j
    obtain ⟨hc, q⟩ := q.ifT
    exact ⟨i, j, rep_int r1, rep_int r2, hC i j hc, q.now S (Grow.refl _ _) (hg i j _ _)⟩
  · exact q.no
theorem ops_I0 {C : Int → Int → Prop} [∀ i j, Decidable (C i j)] {g : Int → Int → Dv} {g' : Int → Int → V} (hg : ∀ i j p H, Rep G.K p H (g i j) (g' i j)) : OpS G E (opI C g) (rI0 g') := by
  intro p st H x y u v Q S r1 r2 q
  unfold opI at q
  split at q
  · rename_i i j
    obtain ⟨_, q⟩ := q.ifT
    exact ⟨i, j, rep_int r1, rep_int r2, q.now S (Grow.refl _ _) (hg i j _ _)⟩
  · exact q.no
end
end R

/-! R3: more operators; tests; subscripts; statements; calls. -/
namespace R
open PySem L2
section
variable {G : Cfg} {E : XK} {X : Cx} {p p' : List Addr} {H H' : Hp} {st : Sto} {ls : Ls} {σ : L2.St} {a b c : Expr} {fa fb fc : SE} {pos : Pos}

/-! ### reading the store -/
def lstAt (st : Sto) (n : Nat) : Option (List Dv) := match st[n]? with
  | some (.lst ds) => some ds
  | some (.fro ds) => some ds
  | _ => none
theorem Sim.seqL (S : Sim G p st H) {n : Nat} {ds : List Dv} {v : V} (h : lstAt st n = some ds) (r : Rep G.K p H (.ref n) v) : ∃ a xs, v = .ref a ∧ SqL G.K H a xs ∧ RepL G.K p H ds xs := by
  obtain ⟨a, ha, rfl⟩ : ∃ a, p[n]? = some a ∧ v = .ref a := by simpa [Rep] using r
  unfold lstAt at h
  cases e : st[n]? with
  | none => rw [e] at h; cases h
  | some o =>
    obtain ⟨b, hb, q⟩ := S.at e
    rw [ha] at hb
    cases hb
    rw [e] at h
    cases o with
    | lst ds' => cases h; obtain ⟨xs, h1, h2⟩ := q; exact ⟨a, xs, rfl, SqL.of h1, h2⟩
    | fro ds' => cases h; obtain ⟨o, xs, h1, h2⟩ := q; exact ⟨a, xs, rfl, .inl (.inr ⟨o, h1⟩), h2⟩
    | dic _ => cases h
    | dct _ => cases h
    | ins _ _ => cases h
    | gone => cases h
def asL (st : Sto) : Dv → Option (List Dv)
  | .ref n => lstAt st n
  | .cst ds => some ds
  | .wri ds => some ds
  | _ => none
/-- a list that is no written one -/
def asR (st : Sto) : Dv → Option (List Dv)
  | .ref n => lstAt st n
  | .cst ds => some ds
  | _ => none
theorem Sim.lstM (S : Sim G p st H) {n : Nat} {ds : List Dv} {v : V} (h : st[n]? = some (.lst ds)) (r : Rep G.K p H (.ref n) v) : ∃ a xs, v = .ref a ∧ p[n]? = some a ∧ H a = some (.lst xs) ∧ RepL G.K p H ds xs := by
  obtain ⟨a, ha, rfl⟩ : ∃ a, p[n]? = some a ∧ v = .ref a := by simpa [Rep] using r
  obtain ⟨b, hb, q⟩ := S.at h
  rw [ha] at hb
  cases hb
  obtain ⟨xs, h1, h2⟩ := q
  exact ⟨a, xs, rfl, ha, h1, h2⟩
theorem rep_cst {K : PySem.W.Frag} {ds : List Dv} {v : V} (h : Rep K p H (.cst ds) v) : ∃ a xs, v = .ref a ∧ SqC H a xs ∧ RepL K p H ds xs := by simpa [Rep] using h
theorem rep_wri {K : PySem.W.Frag} {ds : List Dv} {v : V} (h : Rep K p H (.wri ds) v) : ∃ a xs, v = .ref a ∧ SqW K a xs ∧ RepL K p H ds xs := by simpa [Rep] using h
theorem rep_dic {K : PySem.W.Frag} {ks : List Key} {ds : List Dv} {v : V} (h : Rep K p H (.dic ks ds) v) : ∃ a xs, v = .ref a ∧ (∃ o, H a = some (.frz o (.dK (ks.zip xs)))) ∧ ks.length = ds.length ∧ RepL K p H ds xs := by simpa [Rep] using h
theorem rep_dct {K : PySem.W.Frag} {ks : List (List Key)} {ds : List Dv} {v : V} (h : Rep K p H (.dct ks ds) v) : ∃ a xs, v = .ref a ∧ (∃ o, H a = some (.frz o (.dT (ks.zip xs)))) ∧ ks.length = ds.length ∧ RepL K p H ds xs := by simpa [Rep] using h
theorem Sim.asL (S : Sim G p st H) {d : Dv} {ds : List Dv} {v : V} (h : asL st d = some ds) (r : Rep G.K p H d v) : ∃ a xs, v = .ref a ∧ SqL G.K H a xs ∧ RepL G.K p H ds xs := by
  cases d with
  | ref n => exact S.seqL h r
  | cst es =>
    cases h
    obtain ⟨a, xs, e, hq, l⟩ := rep_cst r
    exact ⟨a, xs, e, hq.sql, l⟩
  | wri es =>
    cases h
    obtain ⟨a, xs, e, hq, l⟩ := rep_wri r
    exact ⟨a, xs, e, hq.sql, l⟩
  | _ => cases h
theorem Sim.asR (S : Sim G p st H) {d : Dv} {ds : List Dv} {v : V} (h : asR st d = some ds) (r : Rep G.K p H d v) : ∃ a xs, v = .ref a ∧ Rd H a (.lst xs) ∧ RepL G.K p H ds xs := by
  cases d with
  | ref n =>
    obtain ⟨a, ha, rfl⟩ : ∃ a, p[n]? = some a ∧ v = .ref a := by simpa [Rep] using r
    have h : lstAt st n = some ds := h
    unfold lstAt at h
    cases e : st[n]? with
    | none => rw [e] at h; cases h
    | some o =>
      obtain ⟨b, hb, q⟩ := S.at e
      rw [ha] at hb
      cases hb
      rw [e] at h
      cases o with
      | lst ds' => cases h; obtain ⟨xs, h1, h2⟩ := q; exact ⟨a, xs, rfl, .inl h1, h2⟩
      | fro ds' => cases h; obtain ⟨o, xs, h1, h2⟩ := q; exact ⟨a, xs, rfl, .inr ⟨o, h1⟩, h2⟩
      | dic _ => cases h
      | dct _ => cases h
      | ins _ _ => cases h
      | gone => cases h
  | cst es =>
    cases h
    obtain ⟨a, xs, e, ⟨o, hq⟩, l⟩ := rep_cst r
    exact ⟨a, xs, e, .inr ⟨o, hq⟩, l⟩
  | _ => cases h
theorem rep_tup {K : PySem.W.Frag} {ds : List Dv} {v : V} (h : Rep K p H (.tup ds) v) : ∃ a xs, v = .ref a ∧ SqT K H a xs ∧ RepL K p H ds xs := by simpa [Rep] using h

/-! ### + - * // % -/
def newL (ds : List Dv) (st : Sto) : Mo Dv := some (.ok (.ref st.length), st ++ [.lst ds])
def opAdd : F2 := fun x y st => match x, y with
  | .int i, .int j => rOk (.int (i + j)) st
  | .str x, .str y => if x.length + y.length ≤ sizeLine then rOk (.str (x ++ y)) st else none
  | .tup x, .tup y => if x.length + y.length ≤ sizeLine then rOk (.tup (x ++ y)) st else none
  | x, y => match asR st x, asR st y with
    | some xs, some ys => if xs.length + ys.length ≤ sizeLine then rOk (.cst (xs ++ ys)) st else none
    | _, _ => none
def rCatR : R2 := fun x y H Q => ∃ l b xs zs, x = .ref l ∧ y = .ref b ∧ Rd H l (.lst xs) ∧ Rd H b (.lst zs) ∧ xs.length + zs.length ≤ sizeLine ∧ ∀ p, H p = none → Q (.ref p) (upd H p (.lst (xs ++ zs)))
theorem lstR {pins : List (Addr × Obj)} {s : Shared} {l : Addr} {xs : List V} (I : Inv X pins σ H s) (hH : Rd H l (.lst xs)) : xs.length ≤ sizeLine ∧ ∃ (its : List Value) (n : Nat), Vals xs its ∧ xs.length = its.length ∧ s.heap.get? l = some { cls := .type "list", data := .seq its.toArray n } := by
  obtain ⟨z, its, n, r, e⟩ := hH.ok I.hok
  exact ⟨z, its, n, r, r.length, e⟩
theorem op_catR : OpR X (binaryOp .Add) rCatR := by
  intro pins s σ H x y v u Q I rx ry h
  obtain ⟨l, b, xs, zs, rfl, rfl, hH, hB, hz, q⟩ := h
  cases rx
  cases ry
  obtain ⟨z, its, n, r, hl, e⟩ := lstR I hH
  obtain ⟨z2, its2, n2, r2, hl2, e2⟩ := lstR I hB
  refine PySem.P.add_list e e2 ?_ (by rw [List.size_toArray, List.size_toArray]; omega)
  have ea : its.toArray ++ its2.toArray = (its ++ its2).toArray := by simp
  rw [ea]
  exact ⟨.ref _, _, I.lnew (t' := s.toks) (r.append r2) (by rw [List.length_append]; omega), rfl, q _ I.fresh⟩
def rRepR : R2 := fun x y H Q => ∃ l k xs, x = .ref l ∧ y = .int k ∧ Rd H l (.lst xs) ∧ -(2 ^ 63) ≤ k ∧ k < 2 ^ 63 ∧ xs.length * k.toNat ≤ sizeLine ∧
  ∀ p, H p = none → Q (.ref p) (upd H p (.lst (List.replicate k.toNat xs).flatten))
theorem Pend.weakQ {rep : List Addr → Hp → Dv → V → Prop} {m : Mo Dv} {Q Q' : V → Hp → Prop} (h : Pend G E rep p H m Q) (k : ∀ b H', Q b H' → Q' b H') : Pend G E rep p H m Q' := h.mono k
theorem r_add (hK : G.K = X.K := by rfl) (ha : PE X a (tE G E fa)) (hb : PE X b (tE G E fb)) : PE X (.BinOp a .Add b pos) (tE G E (eOp opAdd fa fb)) := by
  refine (pe_frz (pe_op (((op_add.or op_add_str).or op_catA).or op_catR) ha hb)).fit fun σ H Q h => ?_
  refine tE_opQ (Q' := fun v H1 => Q v H1 ∨ ∃ d u, H1 d = some u ∧ Mut (some u) ∧ ∀ od, Q v (upd H1 d (.frz od u))) (fun p st H x y u v S r1 r2 q => ?_) σ H h
  unfold opAdd at q
  split at q
  · exact .inl (.inl (.inl ⟨_, _, rep_int r1, rep_int r2, .inl (q.now S (Grow.refl _ _) (by simp [rD, Rep]))⟩))
  · obtain ⟨hz, q⟩ := q.ifT
    exact .inl (.inl (.inr ⟨_, _, rep_str r1, rep_str r2, hz, .inl (q.now S (Grow.refl _ _) (by simp [rD, Rep]))⟩))
  · rename_i d1 d2
    obtain ⟨hz, q⟩ := q.ifT
    obtain ⟨a, xs, rfl, ha, la⟩ := rep_tup r1
    obtain ⟨b, ys, rfl, hb, lb⟩ := rep_tup r2
    rw [hK] at ha hb
    refine .inl (.inr ⟨a, b, xs, ys, rfl, rfl, ha, hb, by rw [RepL.length la, RepL.length lb]; exact hz, fun e => ?_, fun e1 e2 => ?_, fun e1 e2 q' hq => ?_⟩)
    · subst e
      have : d1 = [] := by have := RepL.length la; simpa using this.symm
      subst this
      exact .inl (q.now S (Grow.refl _ _) r2)
    · subst e2
      have : d2 = [] := by have := RepL.length lb; simpa using this.symm
      subst this
      rw [List.append_nil] at q
      exact .inl (q.now S (Grow.refl _ _) r1)
    · exact .inl (q.now (S.beside hq) (Grow.new hq) ⟨q', xs ++ ys, rfl, SqT.of upd_same, RepL.append (RepL.grow (Grow.new hq) la) (RepL.grow (Grow.new hq) lb)⟩)
  · split at q
    · rename_i h1 h2
      obtain ⟨hz, q⟩ := q.ifT
      obtain ⟨a, xs, rfl, ha, la⟩ := S.asR h1 r1
      obtain ⟨b, ys, rfl, hb, lb⟩ := S.asR h2 r2
      exact .inr ⟨a, b, xs, ys, rfl, rfl, ha, hb, by rw [RepL.length la, RepL.length lb]; exact hz, fun q' hq => q.newCst S (RepL.append la lb) hq⟩
    · exact q.no
instance decT (i j : Int) : Decidable ((fun _ _ : Int => True) i j) := .isTrue trivial
abbrev opSub : F2 := opI (fun _ _ => True) fun i j => .int (i - j)
theorem r_sub (ha : PE X a (tE G E fa)) (hb : PE X b (tE G E fb)) : PE X (.BinOp a .Sub b pos) (tE G E (eOp opSub fa fb)) := r_op op_sub (ops_I0 fun _ _ _ _ => by simp [Rep]) ha hb
instance decMul (i j : Int) : Decidable (CMulW i j) := by unfold CMulW; infer_instance
instance decMulX (i j : Int) : Decidable (CMulX i j) := by unfold CMulX; infer_instance
instance decDiv (i j : Int) : Decidable (CDivW i j) := by unfold CDivW; infer_instance
instance decMod (i j : Int) : Decidable ((fun _ j : Int => 0 < j) i j) := by infer_instance
instance decPow (i j : Int) : Decidable (CPow i j) := by unfold CPow; infer_instance
def opMul : F2 := fun x y st => match x, y with
  | .int i, .int j => if CMulX i j then rOk (.int (i * j)) st else none
  | x, .int k => match asR st x with
    | some ds => if -(2 ^ 63) ≤ k ∧ k < 2 ^ 63 ∧ ds.length * k.toNat ≤ sizeLine then rOk (.cst (List.replicate k.toNat ds).flatten) st else none
    | none => none
  | _, _ => none
theorem RepL.rep {K : PySem.W.Frag} {ds : List Dv} {xs : List V} (h : RepL K p H ds xs) : ∀ n : Nat, RepL K p H (List.replicate n ds).flatten (List.replicate n xs).flatten
  | 0 => RepL.nil
  | n + 1 => by
    rw [List.replicate_succ, List.replicate_succ, List.flatten_cons, List.flatten_cons]
    exact RepL.append h (RepL.rep h n)
theorem op_repR : OpR X (binaryOp .Mult) rRepR := by
  intro pins s σ H x y v u Q I rx ry h
  obtain ⟨l, k, xs, rfl, rfl, hH, h1, h2, hz, q⟩ := h
  cases rx
  obtain ⟨t, rfl⟩ := ry
  obtain ⟨z, its, n, r, hl, e⟩ := lstR I hH
  have hlen : its.toArray.size * k.toNat ≤ sizeLine := by rw [List.size_toArray, ← hl]; exact hz
  have hcap : ¬ its.toArray.size * k.toNat > (2 ^ 63 - 1) / 8 := by
    have : (sizeLine : Nat) ≤ (2 ^ 63 - 1) / 8 := by decide
    omega
  have hfit : ¬ (!Builtin.List.listFitsIndex k) = true := by
    rw [fitsIndex_both h1 h2]
    exact Bool.false_ne_true
  have hlong : ¬ Builtin.List.listTooLong (its.toArray.size * k.toNat) = true := by
    rw [notLongL hlen]
    exact Bool.false_ne_true
  have hnew : List.foldl (fun x1 x2 => x1 ++ x2) #[] (List.replicate (if its.toArray.isEmpty = true then 0 else k.toNat) its.toArray) = (List.replicate k.toNat its).flatten.toArray := by
    have f0 : ∀ m : Nat, List.foldl (fun x1 x2 => x1 ++ x2) #[] (List.replicate m its.toArray) = (List.replicate m its).flatten.toArray := fun m => by
      have := foldl_rep its m []
      rw [List.nil_append] at this
      exact this
    rw [f0]
    cases its with
    | nil => simp
    | cons a r' => rw [if_neg (by simp)]
  refine wpAny_binaryOp_repeat_ref (T := "list") (U := "int") (by decide) ⟨_, e, rfl⟩ (fun s' => typeIs_int s' k t) noFill_list_mul F.fills_int_mul F.slot_int_rmul repeat_list F.slot_int_index.lookup
    (call_meets F.slot_int_rmul (typeIs_int s k t) F.entry_int_rmul (F.args_int_rmul_2 _ _) (int___rmul___int_list k t l its.toArray n)
      ⟨e, rfl, ⟨_, e, rfl⟩, call_meets F.slot_list_mul ⟨_, e, rfl⟩ F.entry_list_mul (F.args_list_mul_2 _ _) (AutoListH.list___mul___list_int_3 l its.toArray n k t hfit hcap hlong) ⟨e, ?_⟩⟩)
  rw [hnew]
  exact ⟨.ref _, _, I.lnew (t' := s.toks) (r.rep k.toNat) (by rw [PyProof.Rows.lm_len_rep_flat, Nat.mul_comm]; exact hz), rfl, q _ I.fresh⟩
theorem r_mul (ha : PE X a (tE G E fa)) (hb : PE X b (tE G E fb)) : PE X (.BinOp a .Mult b pos) (tE G E (eOp opMul fa fb)) := by
  refine (pe_frz (pe_op (op_mulX.or op_repR) ha hb)).fit fun σ H Q h => ?_
  refine tE_opQ (Q' := fun v H1 => Q v H1 ∨ ∃ d u, H1 d = some u ∧ Mut (some u) ∧ ∀ od, Q v (upd H1 d (.frz od u))) (fun p st H x y u v S r1 r2 q => ?_) σ H h
  unfold opMul at q
  split at q
  · obtain ⟨hz, q⟩ := q.ifT
    exact .inl ⟨_, _, rep_int r1, rep_int r2, hz, .inl (q.now S (Grow.refl _ _) (by simp [rD, Rep]))⟩
  · split at q
    · rename_i h1
      obtain ⟨⟨z1, z2, z3⟩, q⟩ := q.ifT
      obtain ⟨a, xs, rfl, ha, la⟩ := S.asR h1 r1
      exact .inr ⟨a, _, xs, rfl, rep_int r2, ha, z1, z2, by rw [RepL.length la]; exact z3, fun q' hq => q.newCst S (RepL.rep la _) hq⟩
    · exact q.no
  · exact q.no
abbrev opDiv : F2 := opI CDivW fun i j => .int (i / j)
theorem r_div (ha : PE X a (tE G E fa)) (hb : PE X b (tE G E fb)) : PE X (.BinOp a .FloorDiv b pos) (tE G E (eOp opDiv fa fb)) := r_op op_fdivW (ops_I (fun _ _ h => h) fun _ _ _ _ => by simp [Rep]) ha hb
abbrev opMod : F2 := opI (fun _ j => 0 < j) fun i j => .int (i % j)
theorem r_mod (ha : PE X a (tE G E fa)) (hb : PE X b (tE G E fb)) : PE X (.BinOp a .Mod b pos) (tE G E (eOp opMod fa fb)) := r_op op_mod (ops_I (fun _ _ h => h) fun _ _ _ _ => by simp [Rep]) ha hb
abbrev opPow : F2 := opI CPow fun i j => .int (i ^ j.toNat)
theorem r_pow (ha : PE X a (tE G E fa)) (hb : PE X b (tE G E fb)) : PE X (.BinOp a .Pow b pos) (tE G E (eOp opPow fa fb)) := r_op op_pow (ops_I (fun _ _ h => h) fun _ _ _ _ => by simp [Rep]) ha hb
/-! ### < <= > >= -/
abbrev opLt : F2 := opI (fun _ _ => True) fun i j => .bl (decide (i < j))
abbrev opLe : F2 := opI (fun _ _ => True) fun i j => .bl (decide (i ≤ j))
abbrev opGt : F2 := opI (fun _ _ => True) fun i j => .bl (decide (j < i))
abbrev opGe : F2 := opI (fun _ _ => True) fun i j => .bl (decide (j ≤ i))
theorem r_lt (ha : PE X a (tE G E fa)) (hb : PE X b (tE G E fb)) : PE X (.Compare a [.Lt] [b] pos) (tE G E (eOp opLt fa fb)) := r_cmp op_lt (nomark _) (ops_I0 fun _ _ _ _ => by simp [Rep]) ha hb
theorem r_le (ha : PE X a (tE G E fa)) (hb : PE X b (tE G E fb)) : PE X (.Compare a [.LtE] [b] pos) (tE G E (eOp opLe fa fb)) := r_cmp op_le (nomark _) (ops_I0 fun _ _ _ _ => by simp [Rep]) ha hb
theorem r_gt (ha : PE X a (tE G E fa)) (hb : PE X b (tE G E fb)) : PE X (.Compare a [.Gt] [b] pos) (tE G E (eOp opGt fa fb)) := r_cmp op_gt (nomark _) (ops_I0 fun _ _ _ _ => by simp [Rep]) ha hb
theorem r_ge (ha : PE X a (tE G E fa)) (hb : PE X b (tE G E fb)) : PE X (.Compare a [.GtE] [b] pos) (tE G E (eOp opGe fa fb)) := r_cmp op_ge (nomark _) (ops_I0 fun _ _ _ _ => by simp [Rep]) ha hb

/-! ### == and != of data -/
def mapO {α β : Type} (f : α → Option β) : List α → Option (List β)
  | [] => some []
  | x :: xs => match f x, mapO f xs with
    | some y, some ys => some (y :: ys)
    | _, _ => none
def toP : Nat → Sto → Dv → Option PyData
  | 0, _, _ => none
  | n + 1, st, d => match d with
    | .non => some .none
    | .bl b => some (.bool b)
    | .int i => some (.int i)
    | .str x => some (.str x)
    | .tup ds => (mapO (toP n st) ds).map .tuple
    | .cst ds => (mapO (toP n st) ds).map .list
    | .wri ds => (mapO (toP n st) ds).map .list
    | .dic _ _ => none
    | .dct _ _ => none
    | .ref k => match lstAt st k with
      | some ds => (mapO (toP n st) ds).map .list
      | none => none
theorem toP_dp (S : Sim G p st H) : ∀ (n : Nat) (d : Dv) (v : V) (x : PyData), toP n st d = some x → Rep G.K p H d v → Dp G.K H v x
  | 0, _, _, _, h, _ => nomatch h
  | n + 1, d, v, x, h, r => by
    have all : ∀ (ds : List Dv) (vs : List V) (xs : List PyData), mapO (toP n st) ds = some xs → RepL G.K p H ds vs → DpAll G.K H vs xs := by
      intro ds
      induction ds with
      | nil =>
        intro vs xs h r
        cases h
        simp only [RepL] at r
        subst r
        exact .nil
      | cons d ds ih =>
        intro vs xs h r
        simp only [RepL] at r
        obtain ⟨v, vs, rfl, r1, r2⟩ := r
        unfold mapO at h
        split at h
        · rename_i y ys e1 e2
          cases h
          exact .cons (toP_dp S n d v y e1 r1) (ih vs ys e2 r2)
        · cases h
    unfold toP at h
    split at h
    · cases h; simp only [Rep] at r; subst r; exact .non
    · cases h; simp only [Rep] at r; subst r; exact .bl _
    · cases h; simp only [Rep] at r; subst r; exact .int _
    · cases h; simp only [Rep] at r; subst r; exact .str _
    · obtain ⟨ys, e1, rfl⟩ := Option.map_eq_some_iff.mp h
      obtain ⟨a, xs, rfl, ha, la⟩ := rep_tup r
      exact .tup ha (all _ _ _ e1 la)
    · obtain ⟨ys, e1, rfl⟩ := Option.map_eq_some_iff.mp h
      obtain ⟨a, xs, rfl, ha, la⟩ := rep_cst r
      exact .lst ha.sql (all _ _ _ e1 la)
    · obtain ⟨ys, e1, rfl⟩ := Option.map_eq_some_iff.mp h
      obtain ⟨a, xs, rfl, ha, la⟩ := rep_wri r
      exact .lst ha.sql (all _ _ _ e1 la)
    · cases h
    · cases h
    · split at h
      · rename_i ds e0
        obtain ⟨ys, e1, rfl⟩ := Option.map_eq_some_iff.mp h
        obtain ⟨a, xs, rfl, ha, la⟩ := S.seqL e0 r
        exact .lst ha (all _ _ _ e1 la)
      · cases h
/-- how deep data is looked at -/
abbrev deepN : Nat := 9
def eqP (x y : Dv) (st : Sto) : Option Bool := match toP deepN st x, toP deepN st y with
  | some a, some b => if SeqAt.shaped a = true ∧ SeqAt.shaped b = true then some (PyData.eqv a b) else none
  | _, _ => none
def opEq : F2 := fun x y st => match eqP x y st with
  | some b => rOk (.bl b) st
  | none => none
def opNe : F2 := fun x y st => match eqP x y st with
  | some b => rOk (.bl (!b)) st
  | none => none
theorem eqP_is (S : Sim G p st H) {x y : Dv} {u v : V} {b : Bool} (h : eqP x y st = some b) (r1 : Rep G.K p H x u) (r2 : Rep G.K p H y v) : ∃ d e, Dp G.K H u d ∧ Dp G.K H v e ∧ SeqAt.shaped d = true ∧ SeqAt.shaped e = true ∧ b = PyData.eqv d e := by
  unfold eqP at h
  split at h
  · rename_i d e h1 h2
    split at h
    · rename_i hs
      cases h
      exact ⟨d, e, toP_dp S _ _ _ _ h1 r1, toP_dp S _ _ _ _ h2 r2, hs.1, hs.2, rfl⟩
    · cases h
  · cases h
theorem r_eq (hu : X.A.units + 64 < cLine) (ha : PE X a (tE G E fa)) (hb : PE X b (tE G E fb)) (hK : G.K = X.K := by rfl) : PE X (.Compare a [.Eq] [b] pos) (tE G E (eOp opEq fa fb)) := by
  refine r_cmp (op_eqD hu) (nomark _) ?_ ha hb
  intro p st H x y u v Q S r1 r2 q
  unfold opEq at q
  split at q
  · rename_i b e
    obtain ⟨d1, d2, h1, h2, s1, s2, rfl⟩ := eqP_is S e r1 r2
    rw [hK] at h1 h2
    exact ⟨d1, d2, h1, h2, s1, s2, q.now S (Grow.refl _ _) (by simp [rD, Rep])⟩
  · exact q.no
theorem r_ne (hu : X.A.units + 64 < cLine) (ha : PE X a (tE G E fa)) (hb : PE X b (tE G E fb)) (hK : G.K = X.K := by rfl) : PE X (.Compare a [.NotEq] [b] pos) (tE G E (eOp opNe fa fb)) := by
  refine r_cmp (op_neD hu) (nomark _) ?_ ha hb
  intro p st H x y u v Q S r1 r2 q
  unfold opNe at q
  split at q
  · rename_i b e
    obtain ⟨d1, d2, h1, h2, s1, s2, rfl⟩ := eqP_is S e r1 r2
    rw [hK] at h1 h2
    exact ⟨d1, d2, h1, h2, s1, s2, q.now S (Grow.refl _ _) (by simp [rD, Rep])⟩
  · exact q.no

/-! ### is None; - -/
def isNon : Dv → Bool
  | .non => true
  | _ => false
def eIsN (fa : SE) : SE := fun ls st => (fa ls st).bind fun x st1 => rOk (.bl (isNon x)) st1
def eNotN (fa : SE) : SE := fun ls st => (fa ls st).bind fun x st1 => rOk (.bl (!isNon x)) st1
theorem rep_non {K : PySem.W.Frag} {x : Dv} {v : V} (r : Rep K p H x v) : decide (v = .non) = isNon x := by
  cases x with
  | non => simp only [Rep] at r; subst r; rfl
  | bl _ => simp only [Rep] at r; subst r; rfl
  | int _ => simp only [Rep] at r; subst r; rfl
  | str _ => simp only [Rep] at r; subst r; rfl
  | tup _ => obtain ⟨a, xs, rfl, _⟩ := rep_tup r; rfl
  | cst _ => obtain ⟨a, xs, rfl, _⟩ := rep_cst r; rfl
  | wri _ => obtain ⟨a, xs, rfl, _⟩ := rep_wri r; rfl
  | dic _ _ => obtain ⟨a, xs, rfl, _⟩ := rep_dic r; rfl
  | dct _ _ => obtain ⟨a, xs, rfl, _⟩ := rep_dct r; rfl
  | ref _ => obtain ⟨a, _, rfl⟩ : ∃ a, p[_]? = some a ∧ v = .ref a := by simpa [Rep] using r
             rfl
theorem r_isN {j pos'} (ha : PE X a (tE G E fa)) : PE X (.Compare a [.Is] [.Constant .none j pos'] pos) (tE G E (eIsN fa)) :=
  (pe_cmp (pc_isN ha) rfl).fit fun σ H Q ⟨p, ls, st, S, L, q⟩ => tM_bind S L q fun p1 st1 x v H1 S1 g1 L1 r1 q1 => q1.now S1 (Grow.refl _ _) (by simp only [rD, Rep, rep_non r1])
theorem r_notN {j pos'} (ha : PE X a (tE G E fa)) : PE X (.Compare a [.IsNot] [.Constant .none j pos'] pos) (tE G E (eNotN fa)) :=
  (pe_cmp (pc_notN ha) rfl).fit fun σ H Q ⟨p, ls, st, S, L, q⟩ => tM_bind S L q fun p1 st1 x v H1 S1 g1 L1 r1 q1 => q1.now S1 (Grow.refl _ _) (by simp only [rD, Rep, rep_non r1])
def eNeg (fa : SE) : SE := fun ls st => (fa ls st).bind fun x st1 => match x with
  | .int i => rOk (.int (-i)) st1
  | _ => none
theorem r_neg (ha : PE X a (tE G E fa)) : PE X (.UnaryOp .USub a pos) (tE G E (eNeg fa)) :=
  (pe_un un_neg ha).fit fun σ H Q ⟨p, ls, st, S, L, q⟩ => tM_bind S L q fun p1 st1 x v H1 S1 g1 L1 r1 q1 => by
    split at q1
    · exact ⟨_, rep_int r1, q1.now S1 (Grow.refl _ _) (by simp [rD, Rep])⟩
    · exact q1.no

/-! ### tests -/
def bB (fa : SE) : Ls → Sto → Mo Bool := fun ls st => (fa ls st).bind fun x st1 => match x with
  | .bl b => rOk b st1
  | _ => none
theorem r_test (ha : PE X a (tE G E fa)) (he : ∀ whole, isTrue a X.env whole = (do let v ← whole; standAt a.pos; holding [v] (truthy v)) := by intro _; rfl) : PT X a (tT G E (bB fa)) :=
  (pt_val ha he).fit fun σ H Q ⟨p, ls, st, S, L, q⟩ => tM_bind S L q fun p1 st1 x v H1 S1 g1 L1 r1 q1 => by
    split at q1
    · exact ⟨_, rep_bl r1, q1.now S1 (Grow.refl _ _) rfl⟩
    · exact q1.no
abbrev SB := Ls → Sto → Mo Bool
def bNot (t : SB) : SB := fun ls st => (t ls st).bind fun x st1 => rOk (!x) st1
def bAnd (t u : SB) : SB := fun ls st => (t ls st).bind fun x st1 => if x = true then u ls st1 else rOk false st1
def bOr (t u : SB) : SB := fun ls st => (t ls st).bind fun x st1 => if x = true then rOk true st1 else u ls st1
variable {t u : SB} {rest : List Expr}
theorem r_tnot (ha : PT X a (tT G E t)) : PT X (.UnaryOp .Not a pos) (tT G E (bNot t)) :=
  (pt_not ha).fit fun σ H Q ⟨p, ls, st, S, L, q⟩ => tM_bind S L q fun p1 st1 x v H1 S1 g1 L1 r1 q1 => by
    have e : x = v := r1
    subst e
    exact q1.now S1 (Grow.refl _ _) rfl
theorem PW.fit {e : Expr} {t t' : TT} (h : PW X e t) (k : ∀ σ H Q, t' σ H Q → t σ H Q) : PW X e t' := ⟨fun wh pins s σ H Q I q => h.run wh pins s σ H Q I (k σ H Q q)⟩
theorem r_wand (ha : PT X a (tT G E t)) (hb : PW X (.BoolOp .And (b :: rest) pos) (tT G E u)) : PW X (.BoolOp .And (a :: b :: rest) pos) (tT G E (bAnd t u)) :=
  PW.fit (pw_and ha hb) fun σ H Q ⟨p, ls, st, S, L, q⟩ => tM_bind S L q fun p1 st1 x v H1 S1 g1 L1 r1 q1 => by
    have e : x = v := r1
    subst e
    cases x with
    | true => exact ⟨p1, ls, st1, S1, L1, q1⟩
    | false => exact q1.now S1 (Grow.refl _ _) rfl
theorem r_wor (ha : PT X a (tT G E t)) (hb : PW X (.BoolOp .Or (b :: rest) pos) (tT G E u)) : PW X (.BoolOp .Or (a :: b :: rest) pos) (tT G E (bOr t u)) :=
  PW.fit (pw_or ha hb) fun σ H Q ⟨p, ls, st, S, L, q⟩ => tM_bind S L q fun p1 st1 x v H1 S1 g1 L1 r1 q1 => by
    have e : x = v := r1
    subst e
    cases x with
    | false => exact ⟨p1, ls, st1, S1, L1, q1⟩
    | true => exact q1.now S1 (Grow.refl _ _) rfl
/-- and, or, not as values -/
def eAnd (fa fb : SE) : SE := fun ls st => (bB fa ls st).bind fun x st1 => if x = true then fb ls st1 else rOk (.bl false) st1
def eOr (fa fb : SE) : SE := fun ls st => (bB fa ls st).bind fun x st1 => if x = true then rOk (.bl true) st1 else fb ls st1
def eNot (fa : SE) : SE := fun ls st => (bB fa ls st).bind fun x st1 => rOk (.bl (!x)) st1
theorem Mo.assoc {α β γ : Type} {m : Mo α} {k : α → Sto → Mo β} {l : β → Sto → Mo γ} : (m.bind k).bind l = m.bind fun a st => (k a st).bind l := by
  cases m with
  | none => rfl
  | some m => rcases m with ⟨⟨a⟩ | ⟨c⟩, st⟩ <;> rfl
theorem r_and (ha : PE X a (tE G E fa)) (hb : PE X (.BoolOp .And (b :: rest) pos) (tE G E fb)) : PE X (.BoolOp .And (a :: b :: rest) pos) (tE G E (eAnd fa fb)) :=
  (pe_and ha hb).fit fun σ H Q ⟨p, ls, st, S, L, q⟩ => by
    unfold eAnd bB at q
    rw [Mo.assoc] at q
    refine tM_bind S L q fun p1 st1 x v H1 S1 g1 L1 r1 q1 => ?_
    cases x with
    | bl k =>
      refine ⟨k, rep_bl r1, ?_⟩
      cases k with
      | true => exact ⟨p1, ls, st1, S1, L1, q1⟩
      | false => exact q1.now S1 (Grow.refl _ _) (by simp [rD, Rep])
    | _ => exact q1.no
theorem r_or (ha : PE X a (tE G E fa)) (hb : PE X (.BoolOp .Or (b :: rest) pos) (tE G E fb)) : PE X (.BoolOp .Or (a :: b :: rest) pos) (tE G E (eOr fa fb)) :=
  (pe_or ha hb).fit fun σ H Q ⟨p, ls, st, S, L, q⟩ => by
    unfold eOr bB at q
    rw [Mo.assoc] at q
    refine tM_bind S L q fun p1 st1 x v H1 S1 g1 L1 r1 q1 => ?_
    cases x with
    | bl k =>
      refine ⟨k, rep_bl r1, ?_⟩
      cases k with
      | true => exact q1.now S1 (Grow.refl _ _) (by simp [rD, Rep])
      | false => exact ⟨p1, ls, st1, S1, L1, q1⟩
    | _ => exact q1.no
theorem r_not (ha : PE X a (tE G E fa)) : PE X (.UnaryOp .Not a pos) (tE G E (eNot fa)) :=
  (pe_not ha).fit fun σ H Q ⟨p, ls, st, S, L, q⟩ => by
    unfold eNot bB at q
    rw [Mo.assoc] at q
    refine tM_bind S L q fun p1 st1 x v H1 S1 g1 L1 r1 q1 => ?_
    cases x with
    | bl k => exact ⟨k, rep_bl r1, q1.now S1 (Grow.refl _ _) (by simp [rD, Rep])⟩
    | _ => exact q1.no
def eIf (t : SB) (fa fb : SE) : SE := fun ls st => (t ls st).bind fun x st1 => if x = true then fa ls st1 else fb ls st1
theorem r_ifx (ht : PT X c (tT G E t)) (ha : PE X a (tE G E fa)) (hb : PE X b (tE G E fb)) : PE X (.IfExp c a b pos) (tE G E (eIf t fa fb)) :=
  (pe_ifExp ht ha hb).fit fun σ H Q ⟨p, ls, st, S, L, q⟩ => tM_bind S L q fun p1 st1 x v H1 S1 g1 L1 r1 q1 => by
    have e : x = v := r1
    subst e
    cases x with
    | true => exact ⟨p1, ls, st1, S1, L1, q1⟩
    | false => exact ⟨p1, ls, st1, S1, L1, q1⟩
theorem os_lt : OpS G E opLt (rI0 fun i j => .bl (decide (i < j))) := ops_I0 fun _ _ _ _ => by simp [Rep]
theorem os_le : OpS G E opLe (rI0 fun i j => .bl (decide (i ≤ j))) := ops_I0 fun _ _ _ _ => by simp [Rep]
/-- a < b < c -/
def eChain (f g : F2) (fa fb fc : SE) : SE := fun ls st => (fa ls st).bind fun x st1 => (fb ls st1).bind fun y st2 => (f x y st2).bind fun z st3 => match z with
  | .bl true => (fc ls st3).bind fun w st4 => g y w st4
  | .bl false => rOk (.bl false) st3
  | _ => none
theorem pend_op {E : XK} {f : F2} {r : R2} (hf : OpS G E f r) {x y : Dv} {u v : V} {k : Dv → Sto → Mo Dv} {Q : VK} (S : Sim G p st H) (r1 : Rep G.K p H x u) (r2 : Rep G.K p H y v) (q : Pend G E (rD G) p H ((f x y st).bind k) Q) :
    r u v H fun z H3 => ∃ p3 st3 d, Sim G p3 st3 H3 ∧ Grow p H p3 H3 ∧ Rep G.K p3 H3 d z ∧ Pend G E (rD G) p3 H3 (k d st3) Q :=
  hf p st H x y u v _ S r1 r2 (Pend.bind (rep := rD G) q)
theorem tE_chain {f g : F2} {r r' : R2} (hf : OpS G E f r) (hg : OpS G E g r') : ∀ σ H Q, tE G E (eChain f g fa fb fc) σ H Q → tChain r r' (tE G E fa) (tE G E fb) (tE G E fc) σ H Q := fun σ H Q ⟨p, ls, st, S, L, q⟩ => by
  refine tM_bind S L q fun p1 st1 x u H1 S1 g1 L1 r1 q1 => tM_bind S1 L1 q1 fun p2 st2 y v H2 S2 g2 L2' r2 q2 => ?_
  refine hf p2 st2 H2 x y u v _ S2 (r1.grow g2) r2 ((Pend.bind (rep := rD G) q2).mono fun z H3 ⟨p3, st3, d, S3, g3, r3, q3⟩ => ?_)
  cases d with
  | bl k =>
    refine ⟨k, rep_bl r3, ?_⟩
    cases k with
    | true =>
      exact tM_bind S3 (L2'.grow g3) q3 fun p4 st4 w v' H4 S4 g4 L4 r4 q4 => hg p4 st4 H4 y w v v' Q S4 (r2.grow (g3.trans g4)) r4 q4
    | false => exact q3.now S3 (Grow.refl _ _) (by simp [rD, Rep])
  | _ => exact q3.no
/-- a value's reading as a test's -/
theorem tT_of {f : SE} {t : TE} (h : ∀ σ H Q, tE G E f σ H Q → t σ H Q) : ∀ σ H Q, tT G E (bB f) σ H Q → tTest t σ H Q := fun σ H Q ⟨p, ls, st, S, L, q⟩ => by
  unfold bB at q
  have z : tM G E (rD G) f σ H fun v H' => ∃ k, v = .bl k ∧ Q k H' := tM_bind S L q fun p1 st1 x v H1 S1 g1 L1 r1 q1 => by
    split at q1
    · exact ⟨_, rep_bl r1, q1.now S1 (Grow.refl _ _) rfl⟩
    · exact q1.no
  exact h σ H _ z

/-! ### comparisons as bundles: a value, a test, a chain -/
def CR (X : Cx) (G : Cfg) (E : XK) (op : CmpOp) (f : F2) : Prop := ∃ r, OpR X (compareOp op) r ∧ OpS G E f r
theorem r_c {op : CmpOp} {f : F2} (c : CR X G E op f) (ha : PE X a (tE G E fa)) (hb : PE X b (tE G E fb)) (hm : behindInMarks op b = false := by first | exact nobehind _ (by decide) (by decide) | rfl) : PE X (.Compare a [op] [b] pos) (tE G E (eOp f fa fb)) :=
  let ⟨_, h1, h2⟩ := c; r_cmp h1 hm h2 ha hb
theorem r_tc {op : CmpOp} {f : F2} (c : CR X G E op f) (ha : PE X a (tE G E fa)) (hb : PE X b (tE G E fb)) (hm : behindInMarks op b = false := by first | exact nobehind _ (by decide) (by decide) | rfl) : PT X (.Compare a [op] [b] pos) (tT G E (bB (eOp f fa fb))) :=
  let ⟨_, h1, h2⟩ := c; (pt_cmpR h1 ha hb hm).fit (tT_of (tE_op h2))
theorem c_lt : CR X G E .Lt opLt := ⟨_, op_lt, os_lt⟩
theorem c_le : CR X G E .LtE opLe := ⟨_, op_le, os_le⟩
theorem c_gt : CR X G E .Gt opGt := ⟨_, op_gt, ops_I0 fun _ _ _ _ => by simp [Rep]⟩
theorem c_ge : CR X G E .GtE opGe := ⟨_, op_ge, ops_I0 fun _ _ _ _ => by simp [Rep]⟩
theorem c_eq (hu : X.A.units + 64 < cLine) (hK : G.K = X.K := by rfl) : CR X G E .Eq opEq := ⟨_, op_eqD hu, by
  intro p st H x y u v Q S r1 r2 q
  unfold opEq at q
  split at q
  · rename_i b e
    obtain ⟨d1, d2, h1, h2, s1, s2, rfl⟩ := eqP_is S e r1 r2
    rw [hK] at h1 h2
    exact ⟨d1, d2, h1, h2, s1, s2, q.now S (Grow.refl _ _) (by simp [rD, Rep])⟩
  · exact q.no⟩
theorem c_ne (hu : X.A.units + 64 < cLine) (hK : G.K = X.K := by rfl) : CR X G E .NotEq opNe := ⟨_, op_neD hu, by
  intro p st H x y u v Q S r1 r2 q
  unfold opNe at q
  split at q
  · rename_i b e
    obtain ⟨d1, d2, h1, h2, s1, s2, rfl⟩ := eqP_is S e r1 r2
    rw [hK] at h1 h2
    exact ⟨d1, d2, h1, h2, s1, s2, q.now S (Grow.refl _ _) (by simp [rD, Rep])⟩
  · exact q.no⟩
theorem r_ch {op op' : CmpOp} {f g : F2} (c1 : CR X G E op f) (c2 : CR X G E op' g) (ha : PE X a (tE G E fa)) (hb : PE X b (tE G E fb)) (hc : PE X c (tE G E fc)) (hm : lastMarks [op, op'] [b, c] = false := by rfl) :
    PE X (.Compare a [op, op'] [b, c] pos) (tE G E (eChain f g fa fb fc)) :=
  let ⟨_, h1, h2⟩ := c1; let ⟨_, h3, h4⟩ := c2; (pe_chain h1 h3 ha hb hc (hm := hm)).fit (tE_chain h2 h4)
theorem r_tch {op op' : CmpOp} {f g : F2} (c1 : CR X G E op f) (c2 : CR X G E op' g) (ha : PE X a (tE G E fa)) (hb : PE X b (tE G E fb)) (hc : PE X c (tE G E fc)) (hm : lastMarks [op, op'] [b, c] = false := by rfl) :
    PT X (.Compare a [op, op'] [b, c] pos) (tT G E (bB (eChain f g fa fb fc))) :=
  let ⟨_, h1, h2⟩ := c1; let ⟨_, h3, h4⟩ := c2; (pt_chain h1 h3 ha hb hc (hm := hm)).fit (tT_of (tE_chain h2 h4))
theorem r_tisN {j pos'} (ha : PE X a (tE G E fa)) : PT X (.Compare a [.Is] [.Constant .none j pos'] pos) (tT G E (bB (eIsN fa))) :=
  (pt_cmp (pc_isN ha) rfl).fit fun σ H Q ⟨p, ls, st, S, L, q⟩ => by
    unfold bB eIsN at q
    rw [Mo.assoc] at q
    exact tM_bind S L q fun p1 st1 x v H1 S1 g1 L1 r1 q1 => ⟨_, rfl, q1.now S1 (Grow.refl _ _) (rep_non r1).symm⟩
theorem r_tnotN {j pos'} (ha : PE X a (tE G E fa)) : PT X (.Compare a [.IsNot] [.Constant .none j pos'] pos) (tT G E (bB (eNotN fa))) :=
  (pt_cmp (pc_notN ha) rfl).fit fun σ H Q ⟨p, ls, st, S, L, q⟩ => by
    unfold bB eNotN at q
    rw [Mo.assoc] at q
    exact tM_bind S L q fun p1 st1 x v H1 S1 g1 L1 r1 q1 => ⟨_, rfl, q1.now S1 (Grow.refl _ _) (by show (!isNon x) = _; rw [rep_non r1])⟩
end
end R

/-! R4: subscripts, slices, calls, defs, statements. -/
namespace R
open PySem L2
section
variable {G : Cfg} {E : XK} {X : Cx} {p p' : List Addr} {H H' : Hp} {st : Sto} {ls : Ls} {σ : L2.St} {a b c : Expr} {fa fb fc : SE} {pos : Pos}

theorem atI_rep {K : PySem.W.Frag} {ds : List Dv} {xs : List V} {i : Int} {d : Dv} (r : RepL K p H ds xs) (h : atI ds i = some d) : ∃ x, atI xs i = some x ∧ Rep K p H d x := by
  unfold atI at h ⊢
  rw [RepL.length r]
  cases e : ixN ds.length i with
  | none => rw [e] at h; cases h
  | some j =>
    rw [e] at h
    exact RepL.get r (show ds[j]? = some d from h)
/-- a[i] of lists, tuples, texts -/
def opIx : F2 := fun x y st => match x, y with
  | .tup ds, .int i => match atI ds i with
    | some d => rOk d st
    | none => none
  | .str z, .int i => if z.length ≤ sizeLine then match atI z.cps.toList i with
      | some c => rOk (.str ⟨#[c]⟩) st
      | none => none
    else none
  | x, .int i => match asL st x with
    | some ds => match atI ds i with
      | some d => rOk d st
      | none => none
    | none => none
  | _, _ => none
theorem os_ix (hK : G.K = X.K) : OpS G E opIx (fun x y H Q => (rIxL X.K x y H Q ∨ rIxT X.K x y H Q) ∨ rIxS x y H Q) := by
  intro p st H x y u v Q S r1 r2 q
  unfold opIx at q
  split at q
  · split at q
    · rename_i d e
      obtain ⟨a, xs, rfl, ha, la⟩ := rep_tup r1
      obtain ⟨w, h1, h2⟩ := atI_rep la e
      rw [hK] at ha
      exact .inl (.inr ⟨a, xs, _, w, rfl, rep_int r2, ha, h1, q.now S (Grow.refl _ _) h2⟩)
    · exact q.no
  · obtain ⟨hz, q⟩ := q.ifT
    split at q
    · rename_i c e
      exact .inr ⟨_, _, c, rep_str r1, rep_int r2, hz, e, q.now S (Grow.refl _ _) (by simp [rD, Rep])⟩
    · exact q.no
  · split at q
    · split at q
      · rename_i ds e0 _ d e
        obtain ⟨a, xs, rfl, ha, la⟩ := S.asL e0 r1
        obtain ⟨w, h1, h2⟩ := atI_rep la e
        rw [hK] at ha
        exact .inl (.inl ⟨a, xs, _, w, rfl, rep_int r2, ha, h1, q.now S (Grow.refl _ _) h2⟩)
      · exact q.no
    · exact q.no
  · exact q.no
theorem r_ix (ha : PE X a (tE G E fa)) (hb : PE X b (tE G E fb)) (hs : PlainIx b := by exact fun _ _ => rfl) (hK : G.K = X.K := by rfl) : PE X (.Subscript a b pos) (tE G E (eOp opIx fa fb)) :=
  (pe_ix ((ix_list.or ix_tup).or ix_str) ha hb hs).fit (tE_op (os_ix hK))

/-! ### slices -/
abbrev SP' := Ls → Sto → Mo (Option Int)
def tO (G : Cfg) (E : XK) (f : SP') : TO := tM G E (fun _ _ (a b : Option Int) => a = b) f
def pNo : SP' := fun _ st => rOk none st
def pAt (fa : SE) : SP' := fun ls st => (fa ls st).bind fun x st1 => match x with
  | .int i => rOk (some i) st1
  | _ => none
theorem PO.fit {e : Option Expr} {t t' : TO} (h : PO X e t) (k : ∀ σ H Q, t' σ H Q → t σ H Q) : PO X e t' := ⟨fun pins s σ H Q I q => h.run pins s σ H Q I (k σ H Q q)⟩
theorem r_pno : PO X none (tO G E pNo) := PO.fit po_none fun σ H Q ⟨p, ls, st, S, L, q⟩ => q.now S (Grow.refl _ _) rfl
theorem r_pat (ha : PE X a (tE G E fa)) : PO X (some a) (tO G E (pAt fa)) := PO.fit (po_some ha) fun σ H Q ⟨p, ls, st, S, L, q⟩ => tM_bind S L q fun p1 st1 x v H1 S1 g1 L1 r1 q1 => by
  split at q1
  · exact ⟨_, rep_int r1, q1.now S1 (Grow.refl _ _) rfl⟩
  · exact q1.no
def cutD (xs : List Dv) (lo hi : Option Int) : List Dv := (xs.drop (HT.sIx xs.length 0 lo)).take (HT.sIx xs.length xs.length hi - HT.sIx xs.length 0 lo)
theorem RepL.cut {K : PySem.W.Frag} {ds : List Dv} {xs : List V} (r : RepL K p H ds xs) (lo hi : Option Int) : RepL K p H (cutD ds lo hi) (cutV xs lo hi) := by
  unfold cutD cutV
  rw [RepL.length r]
  exact RepL.take _ (RepL.drop _ r)
theorem cutD_all (xs : List Dv) (lo hi : Option Int) (h : HT.sIx xs.length 0 lo = 0 ∧ HT.sIx xs.length xs.length hi = xs.length) : cutD xs lo hi = xs := by
  unfold cutD
  rw [h.1, h.2]
  simp
def sliceD (x : Dv) (lo hi : Option Int) (st : Sto) : Mo Dv := match x with
  | .tup ds => rOk (.tup (cutD ds lo hi)) st
  | .str z => if z.length ≤ sizeLine then rOk (.str (cutS z lo hi)) st else none
  | x => match asL st x with
    | some ds => rOk (.cst (cutD ds lo hi)) st
    | none => none
def eSl (fa : SE) (fl fh : SP') : SE := fun ls st => (fa ls st).bind fun x st1 => (fl ls st1).bind fun lo st2 => (fh ls st2).bind fun hi st3 => sliceD x lo hi st3
theorem r_sl {lo hi : Option Expr} {fl fh : SP'} {p2 : Pos} (ha : PE X a (tE G E fa)) (hl : PO X lo (tO G E fl)) (hh : PO X hi (tO G E fh)) (hK : G.K = X.K := by rfl) : PE X (.Subscript a (.Slice lo hi none p2) pos) (tE G E (eSl fa fl fh)) :=
  (pe_frz (pe_slice ((sl_list.or sl_tupA).or sl_str) ha hl hh)).fit fun σ H Q ⟨p, ls, st, S, L, q⟩ => tM_bind S L q fun p1 st1 x v H1 S1 g1 L1 r1 q1 => tM_bind S1 L1 q1 fun p2 st2 lo lo' H2 S2 g2 L2' r2 q2 => tM_bind S2 L2' q2 fun p3 st3 hi hi' H3 S3 g3 L3 r3 q3 => by
    have e2 : lo = lo' := r2
    have e3 : hi = hi' := r3
    subst e2 e3
    have r1' := r1.grow (g2.trans g3)
    unfold sliceD at q3
    split at q3
    · obtain ⟨a, xs, rfl, ha, la⟩ := rep_tup r1'
      rename_i ds
      have hlen := RepL.length la
      rw [hK] at ha
      refine .inl (.inr ⟨a, xs, rfl, ha, fun h => ?_, fun h q' hq => ?_⟩)
      · rw [hlen] at h
        rw [cutD_all ds lo hi h] at q3
        exact .inl (q3.now S3 (Grow.refl _ _) r1')
      · exact .inl (q3.now (S3.beside hq) (Grow.new hq) ⟨q', _, rfl, SqT.of upd_same, RepL.cut (RepL.grow (Grow.new hq) la) lo hi⟩)
    · obtain ⟨hz, q3⟩ := q3.ifT
      exact .inr ⟨_, rep_str r1', hz, .inl (q3.now S3 (Grow.refl _ _) (by simp [rD, Rep]))⟩
    · split at q3
      · rename_i ds e0
        obtain ⟨a, xs, rfl, ha, la⟩ := S3.asL e0 r1'
        rw [hK] at ha
        exact .inl (.inl ⟨a, xs, rfl, ha, fun q' hq => q3.newCst S3 (RepL.cut la lo hi) hq⟩)
      · exact q3.no

/-! ### calls by values -/
abbrev FC := List Dv → Sto → Mo Dv
def CallS (G : Cfg) (E : XK) (g : FC) (r : List V → Hp → VK → Prop) : Prop := ∀ p st H ds vs Q, Sim G p st H → RepL G.K p H ds vs → Pend G E (rD G) p H (g ds st) Q → r vs H Q
def eCall (g : FC) (fs : SA) : SE := fun ls st => (fs ls st).bind fun ds st1 => g ds st1
variable {fs : SA} {es : List Expr}
theorem r_callB {id : String} {x : Str} {pp : Pos} {g : FC} {r : List V → Hp → VK → Prop} (hc : CallR X (.builtin id) r) (hf : CallS G E g r) (hg : Gl X x) (hm : X.mg x = none) (hv : bootBuiltins x = some (.builtin id)) (ha : PA X (a :: es) (tA G E fs))
    (hn : x ≠ "__name__" := by decide) (hdb : (x == ("__debug__" : Str)) = false := by decide) (he : starEach (a :: es) X.env = (false, eval a X.env) :: starEach es X.env := by rfl) (hpl : (backTo pos (starEach es X.env)).any (·.1) = false := by rfl) :
    PE X (.Call (.Name x pp) (a :: es) [] pos) (tE G E (eCall g fs)) :=
  (pe_callB hc hg hm hv ha hn hdb he hpl).fit fun σ H Q ⟨p, ls, st, S, L, q⟩ => tM_bind S L q fun p1 st1 ds vs H1 S1 g1 L1 r1 q1 => hf p1 st1 H1 ds vs Q S1 r1 q1
theorem r_callT {T : String} {x : Str} {pp : Pos} {g : FC} {r : List V → Hp → VK → Prop} (hc : CallR X (.type T) r) (hf : CallS G E g r) (hg : Gl X x) (hm : X.mg x = none) (hv : bootBuiltins x = some (.type T)) (ha : PA X (a :: es) (tA G E fs))
    (hn : x ≠ "__name__" := by decide) (hdb : (x == ("__debug__" : Str)) = false := by decide) (he : starEach (a :: es) X.env = (false, eval a X.env) :: starEach es X.env := by rfl) (hpl : (backTo pos (starEach es X.env)).any (·.1) = false := by rfl) :
    PE X (.Call (.Name x pp) (a :: es) [] pos) (tE G E (eCall g fs)) :=
  (pe_callTy hc hg hm hv ha hn hdb he hpl).fit fun σ H Q ⟨p, ls, st, S, L, q⟩ => tM_bind S L q fun p1 st1 ds vs H1 S1 g1 L1 r1 q1 => hf p1 st1 H1 ds vs Q S1 r1 q1
/-! ### what a def promises: its run over data -/
def spOf (G : Cfg) (n : Nat) (g : FC) : Sp := fun vs H Q E => vs.length = n ∧ ∃ p st ds, Sim G p st H ∧ RepL G.K p H ds vs ∧ Pend G E (rD G) p H (g ds st) Q
abbrev WT (E : XK) : WX := fun cls d _ H => E cls d H
/-- so many arguments -/
def LenA (fs : SA) (n : Nat) : Prop := ∀ ls st ds st', fs ls st = some (.ok ds, st') → ds.length = n
theorem lenA_nil : LenA aNil 0 := fun _ _ _ _ h => by cases h; rfl
theorem lenA_cons {n : Nat} (h : LenA fs n) : LenA (aCons fa fs) (n + 1) := fun ls st ds st' e => by
  unfold aCons at e
  cases e1 : fa ls st with
  | none => rw [e1] at e; cases e
  | some m =>
    rw [e1] at e
    rcases m with ⟨⟨x⟩ | ⟨c⟩, st1⟩
    · have e : ((fs ls st1).bind fun xs st2 => rOk (x :: xs) st2) = some (.ok ds, st') := e
      cases e2 : fs ls st1 with
      | none => rw [e2] at e; cases e
      | some m =>
        rw [e2] at e
        rcases m with ⟨⟨xs⟩ | ⟨c⟩, st2⟩
        · cases e
          rw [List.length_cons, h _ _ _ _ e2]
        · cases e
    · cases e
theorem r_call {k : Nat} {f : Addr} {fd : FuncData} {ps : List Str} {x : Str} {pp : Pos} {g : FC} (F : FnOk X.prog X.w X.K X.mg X.base (L2.CX X.prog X.w) k f fd ps (spOf G ps.length g)) (hr : Room k X.A) (tk : Takes X (WT E)) (hg : Gl X x) (hm : X.mg x = some (.ref f)) (hk : PySem.W.keepIn X.K (.ref f) = true) (hb : Binds X.K fd ps [])
    (ha : PA X (a :: es) (tA G E fs)) (hlen : LenA fs ps.length)
    (hdb : (x == ("__debug__" : Str)) = false := by decide) (he : starEach (a :: es) X.env = (false, eval a X.env) :: starEach es X.env := by rfl) (hpl : (backTo pos (starEach es X.env)).any (·.1) = false := by rfl) :
    PE X (.Call (.Name x pp) (a :: es) [] pos) (tE G E (eCall g fs)) := by
  refine (pe_callS (E := WE (WT E)) F hr hg hm hk hb (fun σ => passAt tk σ) ha hdb he hpl).fit fun σ H Q ⟨p, ls, st, S, L, q⟩ => ?_
  show tA G E fs σ H fun vs H1 => spOf G ps.length g vs H1 Q (WE (WT E) σ)
  obtain ⟨r0, st0, e0, f0⟩ := q
  refine ⟨p, ls, st, S, L, ?_⟩
  have q : Pend G E (rD G) p H ((fs ls st).bind fun ds st1 => g ds st1) Q := ⟨r0, st0, e0, f0⟩
  have z := Pend.bind (rep := rL G) q
  obtain ⟨r1, st1, e1, f1⟩ := z
  refine ⟨r1, st1, e1, fun p' H' g' S' => ?_⟩
  have w := f1 p' H' g' S'
  cases r1 with
  | exc c => exact w
  | ok ds =>
    intro vs rv
    obtain ⟨p2, st2, ds2, S2, g2, r2, q2⟩ := w vs rv
    refine ⟨?_, p2, st2, ds2, S2, r2, q2⟩
    rw [RepL.length rv]
    exact hlen _ _ _ _ e1
theorem r_call0 {k : Nat} {f : Addr} {fd : FuncData} {x : Str} {pp : Pos} {g : FC} (F : FnOk X.prog X.w X.K X.mg X.base (L2.CX X.prog X.w) k f fd [] (spOf G 0 g)) (hr : Room k X.A) (tk : Takes X (WT E)) (hg : Gl X x) (hm : X.mg x = some (.ref f)) (hk : PySem.W.keepIn X.K (.ref f) = true) (hb : Binds X.K fd [] [])
    (hdb : (x == ("__debug__" : Str)) = false := by decide) : PE X (.Call (.Name x pp) [] [] pos) (tE G E fun _ st => g [] st) := by
  refine (pe_call0 (E := E) F hr hg hm hk hb .nil (fun pins σ H s e s' I c => passAt tk σ pins H s e s' I c) hdb).fit fun σ H Q ⟨p, ls, st, S, L, q⟩ => ?_
  exact ⟨rfl, p, st, [], S, RepL.nil, q⟩

/-! ### statements -/
inductive Fl where
  | nx
  | rt (d : Dv)
  | bk
  | ct
abbrev SS := Ls → Sto → Mo (Fl × Ls)
inductive FlV where
  | nx
  | rt (v : V)
  | bk
  | ct
def rFl (G : Cfg) (p : List Addr) (H : Hp) : Fl → FlV → Prop
  | .nx, .nx => True
  | .rt d, .rt v => Rep G.K p H d v
  | .bk, .bk => True
  | .ct, .ct => True
  | _, _ => False
def rS (G : Cfg) (p : List Addr) (H : Hp) (x : Fl × Ls) (y : FlV × L2.St) : Prop := rFl G p H x.1 y.1 ∧ RepS G p H x.2 y.2
def post (D : Ends) (y : FlV × L2.St) (H : Hp) : Prop := match y.1 with
  | .nx => D.nx y.2 H
  | .rt v => D.rt v H
  | .bk => D.bk y.2 H
  | .ct => D.ct y.2 H
def tS (G : Cfg) (E : XK) (g : SS) : TS := fun D σ H => tM G E (rS G) g σ H (post D)
variable {s s1 : Stmt} {ss : List Stmt} {g g1 g2 : SS}
def sNil : SS := fun ls st => rOk (.nx, ls) st
def sSeq (g1 g2 : SS) : SS := fun ls st => (g1 ls st).bind fun r st1 => match r.1 with
  | .nx => g2 r.2 st1
  | _ => rOk r st1
theorem rFl_cases {x : Fl} {y : FlV} (h : rFl G p H x y) : (x = .nx ∧ y = .nx) ∨ (∃ d v, x = .rt d ∧ y = .rt v ∧ Rep G.K p H d v) ∨ (x = .bk ∧ y = .bk) ∨ (x = .ct ∧ y = .ct) := by
  cases x <;> cases y <;> simp_all [rFl]
theorem r_nil : PSs X [] (tS G E sNil) := PSs.fit pss_nil fun D σ H ⟨p, ls, st, S, L, q⟩ => q.now (b := (FlV.nx, σ)) S (Grow.refl _ _) ⟨trivial, L⟩
theorem r_cons (h1 : PS X s (tS G E g1)) (h2 : PSs X ss (tS G E g2)) : PSs X (s :: ss) (tS G E (sSeq g1 g2)) :=
  PSs.fit (pss_cons h1 h2) fun D σ H ⟨p, ls, st, S, L, q⟩ => by
    show tM G E (rS G) g1 σ H (post { D with nx := tS G E g2 D })
    refine tM_bind S L q fun p1 st1 x y H1 S1 g1 L1 r1 q1 => ?_
    obtain ⟨x1, x2⟩ := x
    obtain ⟨y1, y2⟩ := y
    obtain ⟨r1, r2⟩ := r1
    have r1 : rFl G p1 H1 x1 y1 := r1
    have r2 : RepS G p1 H1 x2 y2 := r2
    rcases rFl_cases r1 with ⟨e1, e2⟩ | ⟨d, v, e1, e2, e3⟩ | ⟨e1, e2⟩ | ⟨e1, e2⟩ <;> subst e1 e2
    · exact ⟨p1, x2, st1, S1, r2, q1⟩
    · exact q1.now (b := (FlV.rt v, y2)) S1 (Grow.refl _ _) ⟨e3, r2⟩
    · exact q1.now (b := (FlV.bk, y2)) S1 (Grow.refl _ _) ⟨trivial, r2⟩
    · exact q1.now (b := (FlV.ct, y2)) S1 (Grow.refl _ _) ⟨trivial, r2⟩
theorem r_one (h1 : PS X s (tS G E g1)) : PSs X [s] (tS G E g1) := PSs.fit (pss_one h1) fun D σ H q => q
def sExpr (fa : SE) : SS := fun ls st => (fa ls st).bind fun _ st1 => rOk (.nx, ls) st1
theorem r_expr (ha : PE X a (tE G E fa)) (hs : swapsWith a none pos.line X.env = pure false := by rfl) : PS X (.Expr a pos) (tS G E (sExpr fa)) :=
  PS.fit (ps_expr ha hs) fun D σ H ⟨p, ls, st, S, L, q⟩ => tM_bind S L q fun p1 st1 x v H1 S1 g1 L1 r1 q1 => q1.now (b := (FlV.nx, σ)) S1 (Grow.refl _ _) ⟨trivial, L1⟩
def sRet (fa : SE) : SS := fun ls st => (fa ls st).bind fun x st1 => rOk (.rt x, ls) st1
theorem r_ret (ha : PE X a (tE G E fa)) : PS X (.Return (some a) pos) (tS G E (sRet fa)) :=
  PS.fit (ps_ret ha) fun D σ H ⟨p, ls, st, S, L, q⟩ => tM_bind S L q fun p1 st1 x v H1 S1 g1 L1 r1 q1 => q1.now (b := (FlV.rt v, σ)) S1 (Grow.refl _ _) ⟨r1, L1⟩
def sPass : SS := fun ls st => rOk (.nx, ls) st
theorem r_pass : PS X (.Pass pos) (tS G E sPass) := PS.fit ps_pass fun D σ H ⟨p, ls, st, S, L, q⟩ => q.now (b := (FlV.nx, σ)) S (Grow.refl _ _) ⟨trivial, L⟩
def sBk : SS := fun ls st => rOk (.bk, ls) st
theorem r_break : PS X (.Break pos) (tS G E sBk) := PS.fit ps_break fun D σ H ⟨p, ls, st, S, L, q⟩ => q.now (b := (FlV.bk, σ)) S (Grow.refl _ _) ⟨trivial, L⟩
def sIf (t : SB) (g1 g2 : SS) : SS := fun ls st => (t ls st).bind fun x st1 => if x = true then g1 ls st1 else g2 ls st1
theorem r_if {t : SB} {sa sb : List Stmt} (ht : PT X c (tT G E t)) (ha : PSs X sa (tS G E g1)) (hb : PSs X sb (tS G E g2)) : PS X (.If c sa sb pos) (tS G E (sIf t g1 g2)) :=
  PS.fit (ps_if ht ha hb) fun D σ H ⟨p, ls, st, S, L, q⟩ => tM_bind S L q fun p1 st1 x v H1 S1 gg L1 r1 q1 => by
    have e : x = v := r1
    subst e
    cases x with
    | true => exact ⟨p1, ls, st1, S1, L1, q1⟩
    | false => exact ⟨p1, ls, st1, S1, L1, q1⟩
/-! ### targets -/
abbrev SG := Dv → Ls → Sto → Mo Ls
abbrev RAny : L2.St → L2.St → Prop := fun _ _ => True
abbrev RWip (vs : List Nat) : L2.St → L2.St → Prop := fun a b => L2.wipe a vs = L2.wipe b vs
/-- a target's reading; Z: what is known of the slots behind it -/
def tGr (G : Cfg) (E : XK) (Z : L2.St → L2.St → Prop) (f : SG) : TG := fun v σ H Q => ∃ p ls st d, Sim G p st H ∧ RepS G p H ls σ ∧ Rep G.K p H d v ∧ Pend G E (fun p H l (s : L2.St) => RepS G p H l s) p H (f d ls st) fun σ' H' => Z σ' σ → Q σ' H'
abbrev tGt (G : Cfg) (E : XK) (f : SG) : TG := tGr G E RAny f
def gN (i : Nat) : SG := fun d ls st => if i < ls.length then rOk (ls.set i (some d)) st else none
theorem RepS.set {d : Dv} {v : V} {i : Nat} (L : RepS G p H ls σ) (r : Rep G.K p H d v) : RepS G p H (ls.set i (some d)) (σ.set i (some v)) := by
  refine ⟨by simp [L.1], fun j e h => ?_⟩
  by_cases hj : j = i
  · subst hj
    by_cases hl : j < ls.length
    · rw [List.getElem?_set_self hl] at h
      cases h
      exact ⟨v, List.getElem?_set_self (by rw [← L.1]; exact hl), r⟩
    · rw [List.getElem?_eq_none (by simpa using hl)] at h
      cases h
  · rw [List.getElem?_set_ne (Ne.symm hj)] at h
    obtain ⟨w, h1, h2⟩ := L.2 j e h
    exact ⟨w, by rw [List.getElem?_set_ne (Ne.symm hj)]; exact h1, h2⟩
theorem PG.fit {e : Expr} {t t' : TG} (h : PG X e t) (k : ∀ v σ H Q, t' v σ H Q → t v σ H Q) : PG X e t' := ⟨fun pins s σ H v u Q I r q => h.run pins s σ H v u Q I r (k v σ H Q q)⟩
theorem r_gn {Z : L2.St → L2.St → Prop} {i : Nat} {x : Str} (h : PG X (.Name x pos) (gName i)) (hR : ∀ (σ : L2.St) v, Z (σ.set i (some v)) σ := by intro _ _; trivial) : PG X (.Name x pos) (tGr G E Z (gN i)) :=
  PG.fit h fun v σ H Q ⟨p, ls, st, d, S, L, r, q⟩ => by
    obtain ⟨_, q⟩ := q.ifT
    exact q.now S (Grow.refl _ _) (L.set r) (hR σ v)
/-- a tuple of targets -/
def gTs : List SG → List Dv → Ls → Sto → Mo Ls
  | [], [], ls, st => rOk ls st
  | t :: ts, d :: ds, ls, st => (t d ls st).bind fun ls1 st1 => gTs ts ds ls1 st1
  | _, _, _, _ => none
def gT (ts : List SG) : SG := fun d ls st => match d with
  | .tup ds => if ds.length = ts.length then gTs ts ds ls st else none
  | _ => none
def tGrs (G : Cfg) (E : XK) (Z : L2.St → L2.St → Prop) (ts : List SG) : TGs := fun vs σ H Q => ∃ p ls st ds, Sim G p st H ∧ RepS G p H ls σ ∧ RepL G.K p H ds vs ∧ Pend G E (fun p H l (s : L2.St) => RepS G p H l s) p H (gTs ts ds ls st) fun σ' H' => Z σ' σ → Q σ' H'
theorem PGs.fit {e : List Expr} {t t' : TGs} (h : PGs X e t) (k : ∀ v σ H Q, t' v σ H Q → t v σ H Q) : PGs X e t' := ⟨fun pins s σ H v u Q I r q => h.run pins s σ H v u Q I r (k v σ H Q q)⟩
theorem r_gs0 {Z : L2.St → L2.St → Prop} (hr : ∀ σ, Z σ σ := by intro _; trivial) : PGs X [] (tGrs G E Z []) := PGs.fit pgs_nil fun vs σ H Q ⟨p, ls, st, ds, S, L, r, q⟩ => by
  cases ds with
  | nil =>
    simp only [RepL] at r
    exact ⟨r, q.now S (Grow.refl _ _) L (hr σ)⟩
  | cons d ds => exact q.no
theorem r_gs {Z : L2.St → L2.St → Prop} {t : SG} {ts : List SG} {e : Expr} {es : List Expr} (h1 : PG X e (tGr G E Z t)) (h2 : PGs X es (tGrs G E Z ts)) (ht : ∀ a b c, Z a b → Z b c → Z a c := by first | (intro _ _ _ _ _; trivial) | exact fun _ _ _ h h' => h.trans h')
    (hs : (assignEach (e :: es) X.env).map (·.2) = assign e X.env :: (assignEach es X.env).map (·.2) := by rfl) : PGs X (e :: es) (tGrs G E Z (t :: ts)) := PGs.fit (pgs_cons h1 h2 hs) fun vs σ H Q ⟨p, ls, st, ds, S, L, r, q⟩ => by
  cases ds with
  | nil => exact q.no
  | cons d ds =>
    simp only [RepL] at r
    obtain ⟨v, vr, rfl, r1, r2⟩ := r
    refine ⟨v, vr, rfl, p, ls, st, d, S, L, r1, (Pend.bind (rep := fun p H l (s : L2.St) => RepS G p H l s) q).mono fun σ1 H1 ⟨p1, st1, ls1, S1, g1, L1, q1⟩ hR => ?_⟩
    exact ⟨p1, ls1, st1, ds, S1, L1, RepL.grow g1 r2, q1.mono fun σ2 H2 h2 hR2 => h2 (ht _ _ _ hR2 hR)⟩
theorem r_gtup {Z : L2.St → L2.St → Prop} {ts : List SG} {es : List Expr} {k n : Nat} (hc : X.calm = true) (h : PGs X es (tGrs G E Z ts)) (hn : (assignEach es X.env).length = n := by rfl) (hst : (assignEach es X.env).findIdx? (·.1) = none := by rfl) (hl : ts.length = n := by rfl) (hK : G.K = X.K := by rfl) :
    PG X (.Tuple es k pos) (tGr G E Z (gT ts)) := PG.fit (pg_tup hc h hn hst) fun v σ H Q ⟨p, ls, st, d, S, L, r, q⟩ => by
  cases d with
  | tup ds =>
    obtain ⟨a, xs, rfl, ha, la⟩ := rep_tup r
    obtain ⟨hz, q⟩ := q.ifT
    rw [hK] at ha
    exact ⟨a, xs, rfl, ha, by rw [RepL.length la, hz]; exact hl, p, ls, st, ds, S, L, la, q⟩
  | _ => exact q.no
def sAsg (fa : SE) (t : SG) : SS := fun ls st => (fa ls st).bind fun x st1 => (t x ls st1).bind fun ls' st2 => rOk (.nx, ls') st2
theorem r_asg {tg : Expr} {t : SG} (ha : PE X a (tE G E fa)) (hg : PG X tg (tGt G E t)) (hs : swapsWithSole [tg] a pos.line X.env = pure false := by rfl) (hw : swappedStores [tg] a X.env = pure none := by rfl)
    (h1 : (assignEach [tg] X.env).map (·.2) = [assign tg X.env] := by rfl) : PS X (.Assign [tg] a pos) (tS G E (sAsg fa t)) :=
  PS.fit (ps_asg ha hg hs hw h1) fun D σ H ⟨p, ls, st, S, L, q⟩ => tM_bind S L q fun p1 st1 x v H1 S1 g1 L1 r1 q1 =>
    ⟨p1, ls, st1, x, S1, L1, r1, (Pend.bind (rep := fun p H l (s : L2.St) => RepS G p H l s) q1).mono fun σ' H2 ⟨p2, st2, ls2, S2, g2, r2, q2⟩ _ => q2.now (b := (FlV.nx, σ')) S2 (Grow.refl _ _) ⟨trivial, r2⟩⟩
/-- a, b = e1, e2, both names locals -/
def sPar (i j : Nat) (fs : SA) : SS := fun ls st => (fs ls st).bind fun ds st1 => match ds with
  | [d, e] => if i < ls.length ∧ j < ls.length then rOk (.nx, (ls.set i (some d)).set j (some e)) st1 else none
  | _ => none
theorem r_par {i j : Nat} {x y : Str} {px py pt : Pos} {kt k2 pt2} (hc : X.calm = true) (hN : X.N.Nodup) (hi : X.N[i]? = some x) (hj : X.N[j]? = some y) (hij : i ≠ j)
    (hx : X.env.scope.names.lookup x = some .local) (hy : X.env.scope.names.lookup y = some .local) (ha : PA X [a, b] (tA G E fs))
    (hw : swappedStores [.Tuple [.Name x px, .Name y py] kt pt] (.Tuple [a, b] k2 pt2) X.env = pure (some [x, y]))
    (hs : swapsWithSole [.Tuple [.Name x px, .Name y py] kt pt] (.Tuple [a, b] k2 pt2) pos.line X.env = pure false := by rfl) :
    PS X (.Assign [.Tuple [.Name x px, .Name y py] kt pt] (.Tuple [a, b] k2 pt2) pos) (tS G E (sPar i j fs)) :=
  PS.fit (ps_par hc hN hi hj hij hx hy ha hw hs) fun D σ H ⟨p, ls, st, S, L, q⟩ => tM_bind S L q fun p1 st1 ds vs H1 S1 g1 L1 r1 q1 => by
    split at q1
    · obtain ⟨_, q1⟩ := q1.ifT
      simp only [rL, RepL] at r1
      obtain ⟨v, _, e1, r1, w, _, e2, r2, e3⟩ := r1
      subst e3 e2 e1
      exact ⟨v, w, rfl, q1.now (b := (FlV.nx, _)) S1 (Grow.refl _ _) ⟨trivial, (L1.set r1).set r2⟩⟩
    · exact q1.no
def sPar3 (i j l : Nat) (fs : SA) : SS := fun ls st => (fs ls st).bind fun ds st1 => match ds with
  | [d, e, f] => if i < ls.length ∧ j < ls.length ∧ l < ls.length then rOk (.nx, ((ls.set i (some d)).set j (some e)).set l (some f)) st1 else none
  | _ => none
/-- while -/
def sWhile (t : SB) (g : SS) : Nat → SS
  | 0, _, _ => none
  | n + 1, ls, st => (t ls st).bind fun x st1 => if x = true then (g ls st1).bind fun r st2 => match r.1 with
      | .nx => sWhile t g n r.2 st2
      | .ct => sWhile t g n r.2 st2
      | .bk => rOk (.nx, r.2) st2
      | .rt d => rOk (.rt d, r.2) st2
    else rOk (.nx, ls) st1
theorem r_while {t : SB} (n : Nat) {body : List Stmt} (hp : PassesOwn (model X.prog X.w) X.A X.env X.xe) (ht : PT X c (tT G E t)) (hb : PSs X body (tS G E g)) : PS X (.While c body [] pos) (tS G E (sWhile t g n)) :=
  PS.fit (ps_while hp ht hb) fun D σ H ⟨p0, ls0, st0, S0, L0, q0⟩ => by
    refine ⟨fun m σ H => ∃ p ls st, Sim G p st H ∧ RepS G p H ls σ ∧ Pend G E (rS G) p H (sWhile t g m ls st) (post D), ⟨n, p0, ls0, st0, S0, L0, q0⟩, ?_⟩
    rintro m σ H ⟨p, ls, st, S, L, q⟩
    cases m with
    | zero => exact q.no
    | succ m =>
      refine tM_bind S L q fun p1 st1 x v H1 S1 g1 L1 r1 q1 => ?_
      have e : x = v := r1
      subst e
      cases x with
      | false => exact q1.now (b := (FlV.nx, σ)) S1 (Grow.refl _ _) ⟨trivial, L1⟩
      | true =>
        refine ⟨fun σ' H' => ∃ p ls st, Sim G p st H' ∧ RepS G p H' ls σ' ∧ Pend G E (rS G) p H' (sWhile t g m ls st) (post D), fun σ' H' h => ⟨m, Nat.lt_succ_self m, h⟩, ?_⟩
        refine tM_bind S1 L1 q1 fun p2 st2 x y H2 S2 g2 L2' r2 q2 => ?_
        obtain ⟨x1, x2⟩ := x
        obtain ⟨y1, y2⟩ := y
        obtain ⟨r1, r2⟩ := r2
        have r1 : rFl G p2 H2 x1 y1 := r1
        have r2 : RepS G p2 H2 x2 y2 := r2
        rcases rFl_cases r1 with ⟨e1, e2⟩ | ⟨d, v, e1, e2, e3⟩ | ⟨e1, e2⟩ | ⟨e1, e2⟩ <;> subst e1 e2
        · exact ⟨p2, x2, st2, S2, r2, q2⟩
        · exact q2.now (b := (FlV.rt v, y2)) S2 (Grow.refl _ _) ⟨e3, r2⟩
        · exact q2.now (b := (FlV.nx, y2)) S2 (Grow.refl _ _) ⟨trivial, r2⟩
        · exact ⟨p2, x2, st2, S2, r2, q2⟩
/-- raise X('..') -/
def sRaise (c : Nat) : SS := fun _ st => some (.exc c, st)
theorem r_raise {e : Expr} (n : Nat) (hc : X.calm = true) (tk : Takes X (WT E)) (he : PMk X e fun _ H Q => Q (.ref (G.exc n)) none H) : PS X (.Raise (some e) none pos) (tS G E (sRaise n)) :=
  PS.fit (ps_raise hc tk he) fun D σ H ⟨p, ls, st, S, L, q⟩ => by
    obtain ⟨r, st', e, f⟩ := q
    cases e
    exact f p H (Grow.refl _ _) S
end
end R


/-! R5: a def keeps its promise; what a def leaves behind may be forgotten. -/
namespace R
open PySem L2

/-! ### places within a store -/
mutual
def Less (n : Nat) : Dv → Prop
  | .ref k => k < n
  | .tup ds => LessL n ds
  | .cst ds => LessL n ds
  | .wri ds => LessL n ds
  | .dic _ ds => LessL n ds
  | .dct _ ds => LessL n ds
  | _ => True
def LessL (n : Nat) : List Dv → Prop
  | [] => True
  | d :: ds => Less n d ∧ LessL n ds
end
def LessK {κ : Type} (n : Nat) : List (κ × Dv) → Prop
  | [] => True
  | d :: ds => Less n d.2 ∧ LessK n ds
def ObLess (n : Nat) : Ob → Prop
  | .lst ds => LessL n ds
  | .fro ds => LessL n ds
  | .dic kvs => LessK n kvs
  | .dct kvs => LessK n kvs
  | .ins _ fs => LessK n fs
  | .gone => True
def Closed (st : Sto) : Prop := ∀ o ∈ st, ObLess st.length o
section
variable {G : Cfg} {K : PySem.W.Frag} {p p' : List Addr} {st st' : Sto} {H H' : Hp} {n m : Nat}
mutual
theorem Rep.less : ∀ {d : Dv} {v : V}, Rep K p H d v → Less p.length d
  | .non, _, _ => by simp [Less]
  | .bl _, _, _ => by simp [Less]
  | .int _, _, _ => by simp [Less]
  | .str _, _, _ => by simp [Less]
  | .ref k, v, h => by
    simp only [Rep] at h
    obtain ⟨a, e, _⟩ := h
    simp only [Less]
    exact (List.getElem?_eq_some_iff.mp e).1
  | .tup ds, v, h => by
    simp only [Rep] at h
    obtain ⟨a, xs, _, _, r⟩ := h
    simp only [Less]
    exact RepL.less r
  | .cst ds, v, h => by
    simp only [Rep] at h
    obtain ⟨a, xs, _, _, r⟩ := h
    simp only [Less]
    exact RepL.less r
  | .wri ds, v, h => by
    simp only [Rep] at h
    obtain ⟨a, xs, _, _, r⟩ := h
    simp only [Less]
    exact RepL.less r
  | .dic ks ds, v, h => by
    simp only [Rep] at h
    obtain ⟨a, xs, _, _, _, r⟩ := h
    simp only [Less]
    exact RepL.less r
  | .dct ks ds, v, h => by
    simp only [Rep] at h
    obtain ⟨a, xs, _, _, _, r⟩ := h
    simp only [Less]
    exact RepL.less r
theorem RepL.less : ∀ {ds : List Dv} {xs : List V}, RepL K p H ds xs → LessL p.length ds
  | [], _, _ => by simp [LessL]
  | d :: ds, xs, h => by
    simp only [RepL] at h
    obtain ⟨x, r, _, q, t⟩ := h
    simp only [LessL]
    exact ⟨Rep.less q, RepL.less t⟩
end
theorem RepK.less {κ : Type} : ∀ {ds : List (κ × Dv)} {xs : List (κ × V)}, RepK K p H ds xs → LessK p.length ds
  | [], _, _ => by simp [LessK]
  | d :: ds, xs, h => by
    simp only [RepK] at h
    obtain ⟨x, r, _, q, t⟩ := h
    simp only [LessK]
    exact ⟨Rep.less q, RepK.less t⟩
theorem Sim.closed (S : Sim G p st H) : Closed st := fun o ho => by
  obtain ⟨k, hk⟩ := List.getElem?_of_mem ho
  obtain ⟨a, ha, r⟩ := S.at hk
  rw [← S.len]
  cases o with
  | lst ds => obtain ⟨xs, _, r⟩ := r; exact RepL.less r
  | fro ds => obtain ⟨o, xs, _, r⟩ := r; exact RepL.less r
  | dic kvs => obtain ⟨xs, _, r⟩ := r; exact RepK.less r
  | dct kvs => obtain ⟨xs, _, r⟩ := r; exact RepK.less r
  | ins c fs => obtain ⟨dx, xs, _, r⟩ := r; exact RepK.less r
  | gone => trivial
mutual
theorem Rep.cut : ∀ {d : Dv} {v : V}, Less n d → Rep K p H d v → Rep K (p.take n) H d v
  | .non, _, _, h => by simpa [Rep] using h
  | .bl _, _, _, h => by simpa [Rep] using h
  | .int _, _, _, h => by simpa [Rep] using h
  | .str _, _, _, h => by simpa [Rep] using h
  | .ref k, v, l, h => by
    simp only [Rep] at h ⊢
    simp only [Less] at l
    obtain ⟨a, e, q⟩ := h
    exact ⟨a, by rw [List.getElem?_take, if_pos l]; exact e, q⟩
  | .tup ds, v, l, h => by
    simp only [Rep] at h ⊢
    simp only [Less] at l
    obtain ⟨a, xs, e, q, r⟩ := h
    exact ⟨a, xs, e, q, RepL.cut' l r⟩
  | .cst ds, v, l, h => by
    simp only [Rep] at h ⊢
    simp only [Less] at l
    obtain ⟨a, xs, e, q, r⟩ := h
    exact ⟨a, xs, e, q, RepL.cut' l r⟩
  | .wri ds, v, l, h => by
    simp only [Rep] at h ⊢
    simp only [Less] at l
    obtain ⟨a, xs, e, q, r⟩ := h
    exact ⟨a, xs, e, q, RepL.cut' l r⟩
  | .dic ks ds, v, l, h => by
    simp only [Rep] at h ⊢
    simp only [Less] at l
    obtain ⟨a, xs, e, q, z, r⟩ := h
    exact ⟨a, xs, e, q, z, RepL.cut' l r⟩
  | .dct ks ds, v, l, h => by
    simp only [Rep] at h ⊢
    simp only [Less] at l
    obtain ⟨a, xs, e, q, z, r⟩ := h
    exact ⟨a, xs, e, q, z, RepL.cut' l r⟩
theorem RepL.cut' : ∀ {ds : List Dv} {xs : List V}, LessL n ds → RepL K p H ds xs → RepL K (p.take n) H ds xs
  | [], _, _, h => by simpa [RepL] using h
  | d :: ds, xs, l, h => by
    simp only [RepL] at h ⊢
    simp only [LessL] at l
    obtain ⟨x, r, e, q, t⟩ := h
    exact ⟨x, r, e, Rep.cut l.1 q, RepL.cut' l.2 t⟩
end
theorem RepK.cut {κ : Type} : ∀ {ds : List (κ × Dv)} {xs : List (κ × V)}, LessK n ds → RepK K p H ds xs → RepK K (p.take n) H ds xs
  | [], _, _, h => by simpa [RepK] using h
  | d :: ds, xs, l, h => by
    simp only [RepK] at h ⊢
    simp only [LessK] at l
    obtain ⟨x, r, e, q, t⟩ := h
    exact ⟨x, r, e, Rep.cut l.1 q, RepK.cut l.2 t⟩
/-- what stands further on is forgotten -/
theorem Sim.take {g : Sto} (S : Sim G p (st ++ g) H) (c : Closed st) : Sim G (p.take st.length) st H := by
  have hl : st.length ≤ p.length := by rw [S.len, List.length_append]; omega
  have sub : ∀ (k : Nat) a, (p.take st.length)[k]? = some a → p[k]? = some a ∧ k < st.length := fun k a h => by
    rw [List.getElem?_take] at h
    split at h
    · exact ⟨h, by assumption⟩
    · cases h
  have mem : ∀ a, a ∈ p.take st.length → a ∈ p := fun a h => List.mem_of_mem_take h
  refine ⟨by rw [List.length_take]; omega, fun k l a h1 h2 => S.inj k l a (sub k a h1).1 (sub l a h2).1, fun k a o h1 h2 => ?_, fun a h => S.nul a (mem a h), S.tab, fun a ps h => S.ntab a ps (mem a h), fun a xs h => S.ntup a xs (mem a h)⟩
  have ho : o ∈ st := List.mem_of_getElem? h2
  have lo := c o ho
  have r := S.obj k a o (sub k a h1).1 (by rw [List.getElem?_append_left (sub k a h1).2]; exact h2)
  cases o with
  | lst ds => obtain ⟨xs, e, r⟩ := r; exact ⟨xs, e, RepL.cut' lo r⟩
  | fro ds => obtain ⟨o, xs, e, r⟩ := r; exact ⟨o, xs, e, RepL.cut' lo r⟩
  | dic kvs => obtain ⟨xs, e, r⟩ := r; exact ⟨xs, e, RepK.cut lo r⟩
  | dct kvs => obtain ⟨xs, e, r⟩ := r; exact ⟨xs, e, RepK.cut lo r⟩
  | ins c fs => obtain ⟨dx, xs, e, r⟩ := r; exact ⟨dx, xs, e, RepK.cut lo r⟩
  | gone => trivial
theorem Grow.take (g : Grow p H p' H') (h : p.length ≤ n) : Grow p H (p'.take n) H' :=
  ⟨fun k a e => by
    have := (List.getElem?_eq_some_iff.mp e).1
    rw [List.getElem?_take, if_pos (by omega)]; exact g.pre k a e, g.tup, g.frz, g.ext, fun a h => g.fre a (List.mem_of_mem_take h), g.oth⟩
/-- r, st' is r2, st2 but for what is left behind -/
def Trim (r : Res Dv) (st' : Sto) (r2 : Res Dv) (st2 : Sto) : Prop := r2 = r ∧ (∃ g, st2 = st' ++ g) ∧ Closed st' ∧ ∀ d, r = .ok d → Less st'.length d
/-- the same, told -/
theorem Trim.same {r : Res Dv} (c : Closed st) (l : ∀ d, r = .ok d → Less st.length d) : Trim r st r st := ⟨rfl, ⟨[], by simp⟩, c, l⟩

/-! ### a def's run -/
def fnOf (g : SS) (N : Nat) : FC := fun ds st => match g (ds.map some ++ List.replicate (N - ds.length) none) st with
  | some (.ok (.rt d, _), st') => some (.ok d, st')
  | some (.ok (.nx, _), st') => some (.ok .non, st')
  | some (.exc c, st') => some (.exc c, st')
  | _ => none
theorem RepS.start {ds : List Dv} {vs : List V} (r : RepL G.K p H ds vs) (N : List Str) : RepS G p H (ds.map some ++ List.replicate (N.length - ds.length) none) (L2.start N vs) := by
  have hl := RepL.length r
  refine ⟨by simp [L2.start, hl], fun i d e => ?_⟩
  by_cases hi : i < ds.length
  · rw [List.getElem?_append_left (by simpa using hi), List.getElem?_map] at e
    cases e1 : ds[i]? with
    | none => rw [e1] at e; cases e
    | some d' =>
      rw [e1] at e
      cases e
      obtain ⟨v, h1, h2⟩ := RepL.get r e1
      refine ⟨v, ?_, h2⟩
      unfold L2.start
      rw [List.getElem?_append_left (by simp [hl, hi]), List.getElem?_map, h1]
      rfl
  · rw [List.getElem?_append_right (by simpa using hi), List.getElem?_replicate] at e
    split at e <;> cases e
theorem pend_fn {E : XK} {g : SS} {N : Nat} {ds : List Dv} {Q : VK} (h : Pend G E (rD G) p H (fnOf g N ds st) Q) :
    Pend G E (rS G) p H (g (ds.map some ++ List.replicate (N - ds.length) none) st) (post { nx := fun _ H' => Q .non H', rt := Q }) := by
  obtain ⟨r, st', e, f⟩ := h
  unfold fnOf at e
  split at e
  · rename_i d l st1 e1
    cases e
    refine ⟨_, _, e1, fun p' H' g' S' y hy => ?_⟩
    obtain ⟨y1, y2⟩ := y
    obtain ⟨h1, h2⟩ := hy
    cases y1 with
    | rt v => exact f p' H' g' S' v h1
    | nx => exact False.elim h1
    | bk => exact False.elim h1
    | ct => exact False.elim h1
  · rename_i l st1 e1
    cases e
    refine ⟨_, _, e1, fun p' H' g' S' y hy => ?_⟩
    obtain ⟨y1, y2⟩ := y
    obtain ⟨h1, h2⟩ := hy
    cases y1 with
    | nx => exact f p' H' g' S' .non (by simp [Rep])
    | rt v => exact False.elim h1
    | bk => exact False.elim h1
    | ct => exact False.elim h1
  · rename_i c st1 e1
    cases e
    exact ⟨_, _, e1, fun p' H' g' S' => f p' H' g' S'⟩
  · cases e
section
variable {P : Program} {w : World} {mg : Str → Option Value} {base : Heap}
theorem takes_fn {N : List Str} {qual : Str} {scope : Scope} {f : Addr} {cdv : Value} {A : Around} {outer : List Env} {s : Shared} {E : XK} : Takes (cxOf (L2.CX P w) P w G.K mg base N qual scope f cdv A outer s H E) (WT E) := takes_of rfl rfl rfl rfl
theorem passes_fn {N : List Str} {qual : Str} {scope : Scope} {f : Addr} {cdv : Value} {A : Around} {outer : List Env} {s : Shared} {E : XK} :
    PassesOwn (model (cxOf (L2.CX P w) P w G.K mg base N qual scope f cdv A outer s H E).prog (cxOf (L2.CX P w) P w G.K mg base N qual scope f cdv A outer s H E).w) (cxOf (L2.CX P w) P w G.K mg base N qual scope f cdv A outer s H E).A (cxOf (L2.CX P w) P w G.K mg base N qual scope f cdv A outer s H E).env (cxOf (L2.CX P w) P w G.K mg base N qual scope f cdv A outer s H E).xe := passes_of rfl
/-- THE RULE for a def: its body's run g (n: how often its whiles may turn), and m, what its run comes to -/
theorem ok_def {x qual : Str} {sd : Stmt} {f : Addr} {fd : FuncData} {N ps : List Str} {k : Nat} {m : FC} (g : Nat → SS) (F : Fun G.K x qual sd f fd) (S : FnScope N ps (defScope sd))
    (body : ∀ (n : Nat) (cdv : Value) (A : Around) (outer : List Env) (s : Shared) (H : Hp) (E : XK), Room k (A.deeper (PyProof.Rows.envOfC qual (defScope sd) s.heap.objs.size f cdv)) →
      PSs (cxOf (L2.CX P w) P w G.K mg base N qual (defScope sd) f cdv A outer s H E) (defBody sd) (tS G E (g n)))
    (mir : ∀ ds st r st', ds.length = ps.length → Closed st → LessL st.length ds → m ds st = some (r, st') → ∃ n r2 st2, fnOf (g n) N.length ds st = some (r2, st2) ∧ st.length ≤ st'.length ∧ Trim r st' r2 st2) :
    FnOk P w G.K mg base (L2.CX P w) (k + 1) f fd ps (spOf G ps.length m) := by
  refine F.okX S (fun vs H Q E h => h.1) fun cdv A outer s H vs Q E hr h => ?_
  obtain ⟨hl, p, st, ds, S0, r0, r, st', e, q⟩ := h
  have hdl : ds.length = ps.length := by rw [← RepL.length r0]; exact hl
  obtain ⟨n, r2, st2, e2, hle, er, ⟨g', eg⟩, cl, ls⟩ := mir ds st r st' hdl S0.closed (by rw [← S0.len]; exact RepL.less r0) e
  subst er eg
  refine ⟨tS G E (g n), body n cdv A outer s H E hr, p, _, st, S0, RepS.start r0 N, ?_⟩
  refine pend_fn ⟨r2, st' ++ g', e2, fun p' H' gr S' => ?_⟩
  have hp : p.length ≤ st'.length := by rw [S0.len]; exact hle
  have z := q (p'.take st'.length) H' (gr.take hp) (S'.take cl)
  cases r2 with
  | exc c => exact z
  | ok d => exact fun v hv => z v (Rep.cut (ls d rfl) hv)
end
end
end R

/-! R6: what a loop walks; for; list comprehensions. -/
namespace R
open PySem L2

/-- what is walked: how many turns at most, and what comes at turn i (some none: it stops) -/
structure Wk where
  len : Nat
  at_ : Nat → Sto → Option (Option Dv)
section
variable {G : Cfg} {E : XK} {X : Cx} {p p' : List Addr} {H H' : Hp} {st : Sto} {ls : Ls} {σ : L2.St} {a b c : Expr} {fa fb fc : SE} {pos : Pos} {tg : Expr}
def rW (G : Cfg) (p0 : List Addr) (H0 : Hp) (k : Wk) (J : It) : Prop := ∀ p H st, Grow p0 H0 p H → Sim G p st H → ∀ i, match k.at_ i st with
  | none => True
  | some none => J.stop i H
  | some (some d) => J.go i H ∧ ∀ x H', J.yld i H x H' → ∃ p', Grow p H p' H' ∧ Sim G p' st H' ∧ Rep G.K p' H' d x
abbrev SW := Ls → Sto → Mo Wk
def tI (G : Cfg) (E : XK) (w : SW) : TI := fun σ H R => tM G E (rW G) w σ H R
/-! ### lists, tuples, texts as they stand -/
def wkL (x : Dv) (l : Nat) : Wk := ⟨l, fun i st => (asL st x).map fun ds => ds[i]?⟩
def wkT (ds : List Dv) : Wk := ⟨ds.length, fun i _ => some ds[i]?⟩
def wkR (lo : Int) (n : Nat) : Wk := ⟨n, fun i _ => some (if i < n then some (.int (lo + (i : Nat))) else none)⟩
theorem rw_list {d0 : Dv} {l : Nat} {a : Addr} (ha : Rep G.K p H d0 (.ref a)) : rW G p H (wkL d0 l) (Itl G.K a) := by
  intro p1 H1 st1 g S i
  cases e : asL st1 d0 with
  | none =>
    have e0 : (wkL d0 l).at_ i st1 = none := by show (asL st1 d0).map _ = _; rw [e]; rfl
    rw [e0]; trivial
  | some ds =>
    obtain ⟨a', xs, e1, hq, r⟩ := S.asL e (ha.grow g)
    cases e1
    have e0 : (wkL d0 l).at_ i st1 = some ds[i]? := by show (asL st1 d0).map _ = _; rw [e]; rfl
    cases e2 : ds[i]? with
    | none =>
      rw [e0, e2]
      exact ⟨xs, hq, by rw [RepL.length r]; exact List.getElem?_eq_none_iff.mp e2⟩
    | some d =>
      rw [e0, e2]
      obtain ⟨x, h1, h2⟩ := RepL.get r e2
      refine ⟨⟨xs, x, hq, h1⟩, fun y H' ⟨eH, hy⟩ => ?_⟩
      rw [eH]
      have := hy xs hq
      rw [h1] at this
      cases this
      exact ⟨p1, Grow.refl _ _, S, h2⟩
theorem rw_tup {ds : List Dv} {xs : List V} {a : Addr} (ha : SqT G.K H a xs) (r : RepL G.K p H ds xs) : rW G p H (wkT ds) (Itt G.K a) := by
  intro p1 H1 st1 g S i
  have hq := g.sqT ha
  have r1 := RepL.grow g r
  have e0 : (wkT ds).at_ i st1 = some ds[i]? := rfl
  cases e2 : ds[i]? with
  | none =>
    rw [e0, e2]
    exact ⟨xs, hq, by rw [RepL.length r1]; exact List.getElem?_eq_none_iff.mp e2⟩
  | some d =>
    rw [e0, e2]
    obtain ⟨x, h1, h2⟩ := RepL.get r1 e2
    refine ⟨⟨xs, x, hq, h1⟩, fun y H' ⟨eH, hy⟩ => ?_⟩
    rw [eH]
    have := hy xs hq
    rw [h1] at this
    cases this
    exact ⟨p1, Grow.refl _ _, S, h2⟩
theorem rw_rng {lo : Int} {n : Nat} : rW G p H (wkR lo n) (Itr lo n) := by
  intro p1 H1 st1 g S i
  by_cases hi : i < n
  · have e : (wkR lo n).at_ i st1 = some (some (.int (lo + (i : Nat)))) := by show some (if i < n then _ else none) = _; rw [if_pos hi]
    rw [e]
    refine ⟨hi, fun y H' ⟨eH, hy⟩ => ⟨p1, ?_, ?_, ?_⟩⟩
    · rw [eH]; exact Grow.refl _ _
    · rw [eH]; exact S
    · rw [hy]; simp [Rep]
  · have e : (wkR lo n).at_ i st1 = some none := by show some (if i < n then _ else none) = _; rw [if_neg hi]
    rw [e]
    exact Nat.le_of_not_lt hi
/-- a value is walked: a list or a tuple -/
def wSeq (fa : SE) : SW := fun ls st => (fa ls st).bind fun x st1 => match x with
  | .tup ds => rOk (wkT ds) st1
  | x => match asL st1 x with
    | some ds => rOk (wkL x ds.length) st1
    | none => none
def iSeq (K : PySem.W.Frag) (te : TE) : TI := fun σ H R => te σ H fun x H1 => ∃ a, x = .ref a ∧ (((∃ xs, SqL K H1 a xs) ∧ R (Itl K a) H1) ∨ ((∃ xs, SqT K H1 a xs) ∧ R (Itt K a) H1))
theorem pi_seq {te : TE} (he : PE X a te) : PI X tg a (iSeq X.K te) := ⟨fun pins s σ H R I h => thn (he.run pins s σ H _ I h) fun v s1 hh => by
  obtain ⟨x, H1, I1, r1, a, ex, q⟩ := hh
  subst ex
  cases r1
  have kept : ∀ o : Obj, Inv X pins σ H1 { s1 with heap := s1.heap.push o } := fun o => I1.kept (t' := s1.toks) fun _ _ e => Heap.get?_push_of_some _ e
  have young : ∀ b ∈ [s1.heap.objs.size], FpOk X pins H1 b := fun b hb => by
    rw [List.mem_singleton.mp hb]
    exact I1.fpOk (Nat.le_refl _) (I1.hok.fresh (Nat.le_refl _))
  rcases q with ⟨⟨xs, hq⟩, q⟩ | ⟨⟨xs, hq⟩, q⟩
  · obtain ⟨its, _, hp, _⟩ := I1.list hq
    exact wpAny_pyIter_list hp.isList ⟨_, [s1.heap.objs.size], _, _, H1, rfl, kept _, turn_list a _, ⟨_, Heap.get?_push_size _ rfl, rfl, rfl⟩, young, q⟩
  · obtain ⟨its, _, hp, _⟩ := I1.tuple hq
    exact wpAny_pyIter_tuple (show s1.heap.IsTuple a its.toArray from hp) ⟨_, [s1.heap.objs.size], _, _, H1, rfl, kept _, turn_tuple a _, ⟨_, Heap.get?_push_size _ rfl, rfl, rfl⟩, young, q⟩⟩
theorem PI.fit {e : Expr} {t t' : TI} (h : PI X tg e t) (k : ∀ σ H Q, t' σ H Q → t σ H Q) : PI X tg e t' := ⟨fun pins s σ H Q I q => h.run pins s σ H Q I (k σ H Q q)⟩
theorem w_seq (ha : PE X a (tE G E fa)) (hK : G.K = X.K := by rfl) : PI X tg a (tI G E (wSeq fa)) := PI.fit (pi_seq ha) fun σ H Q ⟨p, ls, st, S, L, q⟩ => tM_bind S L q fun p1 st1 x v H1 S1 g1 L1 r1 q1 => by
  split at q1
  · obtain ⟨a, xs, rfl, hq, r⟩ := rep_tup r1
    refine ⟨a, rfl, .inr ⟨⟨xs, by rw [← hK]; exact hq⟩, q1.now S1 (Grow.refl _ _) ?_⟩⟩
    rw [← hK]
    exact rw_tup hq r
  · split at q1
    · rename_i ds e
      obtain ⟨a, xs, ev, hq, r⟩ := S1.asL e r1
      subst ev
      rw [hK] at hq
      refine ⟨a, rfl, .inl ⟨⟨xs, hq⟩, q1.now S1 (Grow.refl _ _) ?_⟩⟩
      rw [← hK]
      exact rw_list r1
    · exact q1.no
variable {fs : SA}
def wR1 (fs : SA) : SW := fun ls st => (fs ls st).bind fun ds st1 => match ds with
  | [.int j] => if -(2 ^ 62) ≤ j ∧ j < 2 ^ 62 then rOk (wkR 0 j.toNat) st1 else none
  | _ => none
theorem w_r1 {pp : Pos} (hg : Gl X "range") (hm : X.mg "range" = none) (ha : PA X [a] (tA G E fs)) (hs : starEach [a] X.env = [(false, eval a X.env)] := by rfl) : PI X tg (.Call (.Name "range" pp) [a] [] pos) (tI G E (wR1 fs)) :=
  PI.fit (pi_range1 hg hm ha hs) fun σ H Q ⟨p, ls, st, S, L, q⟩ => tM_bind S L q fun p1 st1 ds vs H1 S1 g1 L1 r1 q1 => by
    split at q1
    · obtain ⟨⟨z1, z2⟩, q1⟩ := q1.ifT
      simp only [rL, RepL] at r1
      obtain ⟨v, _, e1, r1, e2⟩ := r1
      subst e2 e1
      exact ⟨_, by rw [rep_int r1], z1, z2, q1.now S1 (Grow.refl _ _) rw_rng⟩
    · exact q1.no
def wR2 (fs : SA) : SW := fun ls st => (fs ls st).bind fun ds st1 => match ds with
  | [.int i, .int j] => if -(2 ^ 62) ≤ i ∧ i < 2 ^ 62 ∧ -(2 ^ 62) ≤ j ∧ j < 2 ^ 62 then rOk (wkR i (j - i).toNat) st1 else none
  | _ => none
theorem w_r2 {pp : Pos} (hg : Gl X "range") (hm : X.mg "range" = none) (ha : PA X [a, b] (tA G E fs)) (hs : starEach [a, b] X.env = [(false, eval a X.env), (false, eval b X.env)] := by rfl) (hs2 : starEach [b] X.env = [(false, eval b X.env)] := by rfl) : PI X tg (.Call (.Name "range" pp) [a, b] [] pos) (tI G E (wR2 fs)) :=
  PI.fit (pi_range2 hg hm ha hs hs2) fun σ H Q ⟨p, ls, st, S, L, q⟩ => tM_bind S L q fun p1 st1 ds vs H1 S1 g1 L1 r1 q1 => by
    split at q1
    · obtain ⟨hz, q1⟩ := q1.ifT
      simp only [rL, RepL] at r1
      obtain ⟨v, _, e1, r1, v2, _, e3, r2, e2⟩ := r1
      subst e2 e3 e1
      exact ⟨_, _, by rw [rep_int r1, rep_int r2], hz, q1.now S1 (Grow.refl _ _) rw_rng⟩
    · exact q1.no

/-! ### for -/
def sForL (k : Wk) (t : SG) (g : SS) : Nat → Nat → SS
  | 0, _, _, _ => none
  | m + 1, i, ls, st => match k.at_ i st with
    | none => none
    | some none => rOk (.nx, ls) st
    | some (some d) => (t d ls st).bind fun ls1 st1 => (g ls1 st1).bind fun r st2 => match r.1 with
      | .nx => sForL k t g m (i + 1) r.2 st2
      | .ct => sForL k t g m (i + 1) r.2 st2
      | .bk => rOk (.nx, r.2) st2
      | .rt d => rOk (.rt d, r.2) st2
def sFor (w : SW) (t : SG) (g : SS) : SS := fun ls st => (w ls st).bind fun k st1 => sForL k t g (k.len + 1) 0 ls st1
theorem r_for {w : SW} {t : SG} {g : SS} {body : List Stmt} (hp : PassesOwn (model X.prog X.w) X.A X.env X.xe) (hc : X.calm = true) (hi : PI X tg a (tI G E w)) (hg : PG X tg (tGt G E t)) (hb : PSs X body (tS G E g))
    (hs : ∀ x, foldedSetIterable a X.env x = pure x := by intro _; rfl) : PS X (.For tg a body [] pos) (tS G E (sFor w t g)) :=
  PS.fit (ps_for hp hc hi hg hb hs) fun D σ H ⟨p0, ls0, st0, S0, L0, q0⟩ => tM_bind S0 L0 q0 fun p1 st1 k J H1 S1 g1 L1 rk q1 => by
    refine ⟨fun i m σ H => ∃ p ls st, Sim G p st H ∧ RepS G p H ls σ ∧ Grow p1 H1 p H ∧ Pend G E (rS G) p H (sForL k t g m i ls st) (post D), ⟨k.len + 1, p1, ls0, st1, S1, L1, Grow.refl _ _, q1⟩, ?_⟩
    rintro i m σ H ⟨p, ls, st, S, L, gr, q⟩
    cases m with
    | zero => exact q.no
    | succ m =>
      have z := rk p H st gr S i
      unfold sForL at q
      cases e : k.at_ i st with
      | none => rw [e] at q; exact q.no
      | some o =>
        rw [e] at z q
        cases o with
        | none => exact .inl ⟨z, q.now (b := (FlV.nx, σ)) S (Grow.refl _ _) ⟨trivial, L⟩⟩
        | some d =>
          refine .inr ⟨z.1, fun σ' H' => ∃ p ls st, Sim G p st H' ∧ RepS G p H' ls σ' ∧ Grow p1 H1 p H' ∧ Pend G E (rS G) p H' (sForL k t g m (i + 1) ls st) (post D), fun σ' H' h => ⟨m, Nat.lt_succ_self m, h⟩, fun x H' y => ?_⟩
          obtain ⟨p2, g2, S2, r2⟩ := z.2 x H' y
          have L2' := L.grow g2
          obtain ⟨r0, st9, e9, f9⟩ := q
          have q' : Pend G E (rS G) p2 H' ((t d ls st).bind fun ls1 st1 => (g ls1 st1).bind fun r st2 => match r.1 with
              | .nx => sForL k t g m (i + 1) r.2 st2
              | .ct => sForL k t g m (i + 1) r.2 st2
              | .bk => rOk (.nx, r.2) st2
              | .rt d => rOk (.rt d, r.2) st2) (post D) := ⟨r0, st9, e9, fun p3 H3 g3 S3 => f9 p3 H3 (g2.trans g3) S3⟩
          refine ⟨p2, ls, st, d, S2, L2', r2, (Pend.bind (rep := fun p H l (s : L2.St) => RepS G p H l s) q').mono fun σ3 H3 ⟨p3, st3, ls3, S3, g3, r3, q3⟩ _ => ?_⟩
          refine tM_bind S3 r3 q3 fun p4 st4 x y H4 S4 g4 L4 r4 q4 => ?_
          obtain ⟨x1, x2⟩ := x
          obtain ⟨y1, y2⟩ := y
          obtain ⟨r5, r6⟩ := r4
          have r5 : rFl G p4 H4 x1 y1 := r5
          have r6 : RepS G p4 H4 x2 y2 := r6
          have gg := gr.trans (g2.trans (g3.trans g4))
          rcases rFl_cases r5 with ⟨e1, e2⟩ | ⟨d, v, e1, e2, e3⟩ | ⟨e1, e2⟩ | ⟨e1, e2⟩ <;> subst e1 e2
          · exact ⟨p4, x2, st4, S4, r6, gg, q4⟩
          · exact q4.now (b := (FlV.rt v, y2)) S4 (Grow.refl _ _) ⟨e3, r6⟩
          · exact q4.now (b := (FlV.nx, y2)) S4 (Grow.refl _ _) ⟨trivial, r6⟩
          · exact ⟨p4, x2, st4, S4, r6, gg, q4⟩

/-! ### list comprehensions -/
def wipeL (ls : Ls) : List Nat → Ls
  | [] => ls
  | v :: vs => (wipeL ls vs).set v none
theorem wipeL_len (ls : Ls) : ∀ vs, (wipeL ls vs).length = ls.length
  | [] => rfl
  | v :: vs => by unfold wipeL; rw [List.length_set, wipeL_len ls vs]
theorem wipeL_some {i : Nat} {d : Dv} : ∀ {vs : List Nat}, (wipeL ls vs)[i]? = some (some d) → ls[i]? = some (some d) ∧ i ∉ vs
  | [], h => ⟨h, by simp⟩
  | v :: vs, h => by
    unfold wipeL at h
    by_cases hi : v = i
    · subst hi
      by_cases hv : v < (wipeL ls vs).length
      · rw [List.getElem?_set_self hv] at h; cases h
      · rw [List.getElem?_eq_none (by simpa using hv)] at h; cases h
    · rw [List.getElem?_set_ne hi] at h
      obtain ⟨h1, h2⟩ := wipeL_some h
      exact ⟨h1, by simp only [List.mem_cons, not_or]; exact ⟨fun e => hi e.symm, h2⟩⟩
theorem wipe_len (σ : L2.St) : ∀ vs : List Nat, (L2.wipe σ vs).length = σ.length := L2.wipe_length σ
theorem RepS.wipe (L : RepS G p H ls σ) (vs : List Nat) : RepS G p H (wipeL ls vs) (L2.wipe σ vs) := by
  refine ⟨by rw [wipeL_len, L2.wipe_length]; exact L.1, fun i d e => ?_⟩
  obtain ⟨h1, h2⟩ := wipeL_some e
  obtain ⟨v, h3, h4⟩ := L.2 i d h1
  exact ⟨v, by rw [L2.wipe_out h2]; exact h3, h4⟩
theorem wipe_set {σ : L2.St} {i : Nat} {x : Option V} : ∀ {vs : List Nat}, i ∈ vs → L2.wipe (σ.set i x) vs = L2.wipe σ vs
  | v :: vs, h => by
    unfold L2.wipe
    by_cases hi : i ∈ vs
    · rw [wipe_set hi]
    · have hv : i = v := by rcases List.mem_cons.mp h with e | e; exact e; exact absurd e hi
      subst hv
      have key : ∀ (us : List Nat), i ∉ us → L2.wipe (σ.set i x) us = (L2.wipe σ us).set i x := by
        intro us
        induction us with
        | nil => intro _; rfl
        | cons u us ih =>
          intro hu
          simp only [List.mem_cons, not_or] at hu
          unfold L2.wipe
          rw [ih hu.2, List.set_comm _ _ hu.1]
      rw [key vs hi, List.set_set]
theorem wipe_wipe (σ : L2.St) : ∀ vs : List Nat, ∀ us : List Nat, (∀ v ∈ us, v ∈ vs) → L2.wipe (L2.wipe σ us) vs = L2.wipe σ vs
  | vs, [], _ => rfl
  | vs, u :: us, h => by
    show L2.wipe ((L2.wipe σ us).set u none) vs = _
    rw [wipe_set (h u List.mem_cons_self), wipe_wipe σ vs us fun v hv => h v (List.mem_cons_of_mem _ hv)]
def eLcL (k : Wk) (t : SG) (u : SB) (f : SE) (wp : Ls) (fin : List Dv → Sto → Mo Dv) : Nat → Nat → List Dv → Sto → Mo Dv
  | 0, _, _, _ => none
  | m + 1, i, acc, st => match k.at_ i st with
    | none => none
    | some none => fin acc st
    | some (some d) => (t d wp st).bind fun ls1 st1 => (u ls1 st1).bind fun b st2 => if b = true then (f ls1 st2).bind fun y st3 => if acc.length < sizeLine then eLcL k t u f wp fin m (i + 1) (acc ++ [y]) st3 else none
      else eLcL k t u f wp fin m (i + 1) acc st2
def finC : List Dv → Sto → Mo Dv := fun acc st => rOk (.cst acc) st
def finM : List Dv → Sto → Mo Dv := fun acc st => newL acc st
def eLcF (fin : List Dv → Sto → Mo Dv) (w : SW) (t : SG) (u : SB) (f : SE) (vs : List Nat) : SE := fun ls st => (w ls st).bind fun k st1 => eLcL k t u f (wipeL ls vs) fin (k.len + 1) 0 [] st1
abbrev eLc := eLcF finC
abbrev eLcM := eLcF finM
abbrev orFrz (Q : VK) : VK := fun v H1 => Q v H1 ∨ ∃ d u, H1 d = some u ∧ Mut (some u) ∧ ∀ od, Q v (upd H1 d (.frz od u))
def bYes : SB := fun _ st => rOk true st
theorem r_yes : ∀ σ H (Q : Bool → Hp → Prop), tT G E bYes σ H Q → tYes σ H Q := fun σ H Q ⟨p, ls, st, S, L, q⟩ => q.now S (Grow.refl _ _) rfl
theorem PTs.fit {e : List Expr} {t t' : TT} (h : PTs X e t) (k : ∀ σ H Q, t' σ H Q → t σ H Q) : PTs X e t' := ⟨fun pins s σ H Q I q => h.run pins s σ H Q I (k σ H Q q)⟩
theorem r_pts0 : PTs X [] (tT G E bYes) := PTs.fit pts_nil r_yes
theorem r_pts1 {u : SB} (h : PT X c (tT G E u)) : PTs X [c] (tT G E u) := pts_one h
/-- how a comprehension's list ends -/
def FinOk (G : Cfg) (fin : List Dv → Sto → Mo Dv) : Prop := ∀ (E : XK) (p0 p : List Addr) (H0 H : Hp) (st : Sto) (acc : List Dv) (xs : List V) (D : Addr) (Q : VK), Sim G p st H → Grow p0 H0 p H → H D = some (.lst xs) → D ∉ p → H0 D = none → RepL G.K p H acc xs →
  Pend G E (rD G) p0 H0 (fin acc st) Q → orFrz Q (.ref D) H
theorem finC_ok : FinOk G finC := fun E p0 p H0 H st acc xs D Q S gr hH nDp hD la q =>
  .inr ⟨D, .lst xs, hH, trivial, fun od => q.now (S.untr hH trivial nDp) (gr.over hD) (by simp only [rD, Rep]; exact ⟨D, xs, rfl, ⟨od, upd_same⟩, RepL.growW (GrowW.soft hH trivial) la⟩)⟩
theorem finM_ok : FinOk G finM := fun E p0 p H0 H st acc xs D Q S gr hH nDp hD la q => by
  obtain ⟨r, st', e, f⟩ := q
  cases e
  have g1 : GrowW p H (p ++ [D]) H := ⟨fun n a h => by rw [List.getElem?_append_left (List.getElem?_eq_some_iff.mp h).1]; exact h, fun _ _ h => h, fun _ _ _ h => h⟩
  have S' : Sim G (p ++ [D]) (st ++ [.lst acc]) H := S.track hH trivial nDp ⟨xs, hH, RepL.growW g1 la⟩
  refine .inl (f (p ++ [D]) H ⟨fun n a h => g1.pre n a (gr.pre n a h), gr.tup, gr.frz, gr.ext, fun b hb => ?_, gr.oth⟩ S' _ ⟨D, S.last, rfl⟩)
  rcases List.mem_append.mp hb with hb | hb
  · exact gr.fre b hb
  · rw [List.mem_singleton.mp hb]
    refine .inr fun o e => ?_
    rw [hD] at e
    cases e
theorem tLc_of {fin : List Dv → Sto → Mo Dv} (hf : FinOk G fin) {w : SW} {t : SG} {u : SB} {f : SE} {vs : List Nat} : ∀ σ H Q, tE G E (eLcF fin w t u f vs) σ H Q → tFrz (tLc (tI G E w) (tGr G E (RWip vs) t) (tT G E u) (tE G E f) vs) σ H Q := fun σ H Q ⟨p0, ls, st0, S0, L0, q0⟩ => by
  show tLc (tI G E w) (tGr G E (RWip vs) t) (tT G E u) (tE G E f) vs σ H (orFrz Q)
  refine tM_bind S0 L0 q0 fun p1 st1 k J H1 S1 g1 L1 rk q1 D hD => ?_
  have nD : D ∉ p1 := fun m => S1.nul D m hD
  refine ⟨fun i m H => ∃ p st acc xs, Sim G p st H ∧ Grow p1 H1 p H ∧ H D = some (.lst xs) ∧ D ∉ p ∧ RepL G.K p H acc xs ∧ Pend G E (rD G) p1 H1 (eLcL k t u f (wipeL ls vs) fin m i acc st) Q, ⟨k.len + 1, p1, st1, [], [], S1.beside hD, Grow.new hD, upd_same, nD, RepL.nil, q1⟩, ?_⟩
  rintro i m H ⟨p, st, acc, xs, S, gr, hH, nDp, la, q⟩
  have L := L1.grow gr
  cases m with
  | zero => exact q.no
  | succ m =>
    have z := rk p H st gr S i
    unfold eLcL at q
    cases e : k.at_ i st with
    | none => rw [e] at q; exact q.no
    | some o =>
      rw [e] at z q
      cases o with
      | none => exact .inl ⟨z, hf E p1 p H1 H st acc xs D Q S gr hH nDp hD la q⟩
      | some d =>
        refine .inr ⟨z.1, fun H' => ∃ p st acc xs, Sim G p st H' ∧ Grow p1 H1 p H' ∧ H' D = some (.lst xs) ∧ D ∉ p ∧ RepL G.K p H' acc xs ∧ Pend G E (rD G) p1 H1 (eLcL k t u f (wipeL ls vs) fin m (i + 1) acc st) Q, fun H' h => ⟨m, Nat.lt_succ_self m, h⟩, fun x H' y => ?_⟩
        obtain ⟨p2, g3, S3, r3⟩ := z.2 x H' y
        obtain ⟨h3, n3⟩ := g3.out hH trivial nDp
        have gr3 := gr.trans g3
        refine ⟨p2, wipeL ls vs, st, d, S3, (L.grow g3).wipe vs, r3, (Pend.bindA (rep := fun p H l (s : L2.St) => RepS G p H l s) q gr3).mono fun σ3 H3 ⟨p3, st3, ls3, S4, g4, L4, q4⟩ hz => ⟨?_, ?_⟩⟩
        · have hz : L2.wipe σ3 vs = L2.wipe (L2.wipe σ vs) vs := hz
          rw [hz, wipe_wipe σ vs vs fun _ h => h]
        · obtain ⟨h4, n4⟩ := g4.out h3 trivial n3
          refine tM_bindA S4 L4 (gr3.trans g4) q4 fun p5 st5 b b' H5 S5 g5 L5 rb q5 => ?_
          obtain ⟨h5, n5⟩ := g5.out h4 trivial n4
          have eb : b = b' := rb
          subst eb
          have gr5 := (gr3.trans g4).trans g5
          cases b with
          | false => exact ⟨p5, st5, acc, xs, S5, gr5, h5, n5, RepL.grow (g3.trans (g4.trans g5)) la, q5⟩
          | true =>
            refine tM_bindA S5 L5 gr5 q5 fun p6 st6 y yv H6 S6 g6 L6 ry q6 => ?_
            obtain ⟨h6, n6⟩ := g6.out h5 trivial n5
            obtain ⟨hz6, q6⟩ := q6.ifT
            have la6 := RepL.grow (g3.trans (g4.trans (g5.trans g6))) la
            have gs : GrowW p6 H6 p6 (upd H6 D (.lst (xs ++ [yv]))) := GrowW.soft h6 trivial
            exact ⟨xs, h6, by rw [RepL.length la]; exact hz6, p6, st6, acc ++ [y], xs ++ [yv], S6.untr h6 trivial n6, (gr5.trans g6).over hD, upd_same, n6, RepL.append (RepL.growW gs la6) (RepL.cons (ry.growW gs) RepL.nil), q6⟩
/-- where nothing may be raised -/
abbrev EN : XK := fun _ _ _ => False
def Mo.nox {α : Type} (m : Mo α) : Mo α := match m with
  | some (.ok a, st) => some (.ok a, st)
  | _ => none
theorem Pend.nox {α β : Type} {rep : List Addr → Hp → α → β → Prop} {m : Mo α} {Q : β → Hp → Prop} (h : Pend G E rep p H m.nox Q) : Pend G EN rep p H m Q := by
  obtain ⟨r, st', e, f⟩ := h
  cases m with
  | none => exact (nomatch e)
  | some m =>
    rcases m with ⟨⟨a⟩ | ⟨c⟩, st1⟩
    · have e' : (some (Res.ok a, st1) : Mo α) = some (r, st') := e
      cases e'
      exact ⟨_, _, rfl, f⟩
    · exact (nomatch e)
def nxE (f : SE) : SE := fun ls st => Mo.nox (f ls st)
def nxB (u : SB) : SB := fun ls st => Mo.nox (u ls st)
def nxG (t : SG) : SG := fun d ls st => Mo.nox (t d ls st)
theorem nx_E {f : SE} : ∀ σ H Q, tE G E (nxE f) σ H Q → tE G EN f σ H Q := fun σ H Q ⟨p, ls, st, S, L, q⟩ => ⟨p, ls, st, S, L, q.nox⟩
theorem nx_B {u : SB} : ∀ σ H Q, tT G E (nxB u) σ H Q → tT G EN u σ H Q := fun σ H Q ⟨p, ls, st, S, L, q⟩ => ⟨p, ls, st, S, L, q.nox⟩
theorem nx_G {Z : L2.St → L2.St → Prop} {t : SG} : ∀ v σ H Q, tGr G E Z (nxG t) v σ H Q → tGr G EN Z t v σ H Q := fun v σ H Q ⟨p, ls, st, d, S, L, r, q⟩ => ⟨p, ls, st, d, S, L, r, q.nox⟩
section
variable {w : SW} {t : SG} {u : SB} {f : SE} {elt iter : Expr} {ifs : List Expr} {scope : Scope} {own : List (Str × Nat)}
theorem r_lcF {fin : List Dv → Sto → Mo Dv} (hf : FinOk G fin) (hc : X.calm = true) (hN : X.N.Nodup) (hi : PI X tg iter (tI G E w)) (ok : BlkOk X.N X.env.scope scope own)
    (hg : ∀ (s : Shared) (H : Hp) (C : Addr) (cl : List (Str × Addr)) (fp : List Addr), PG (X.blk s H scope (compEnvC scope cl C X.env) fp) tg (tGr G EN (RWip (own.map (·.2))) t))
    (ht : ∀ (s : Shared) (H : Hp) (C : Addr) (cl : List (Str × Addr)) (fp : List Addr), PTs (X.blk s H scope (compEnvC scope cl C X.env) fp) ifs (tT G EN u))
    (he : ∀ (s : Shared) (H : Hp) (C : Addr) (cl : List (Str × Addr)) (fp : List Addr), PE (X.blk s H scope (compEnvC scope cl C X.env) fp) elt (tE G EN f)) (hs : ∀ x, foldedSetIterable iter X.env x = pure x := by intro _; rfl) :
    PE X (.ListComp elt [⟨tg, iter, ifs, 0⟩] scope pos) (tE G E (eLcF fin w (nxG t) (nxB u) (nxE f) (own.map (·.2)))) :=
  (pe_frz (pe_lc hc hN hi ok (fun s H C cl fp => PG.fit (hg s H C cl fp) nx_G) (fun s H C cl fp => PTs.fit (ht s H C cl fp) nx_B) (fun s H C cl fp => (he s H C cl fp).fit nx_E) hs)).fit (tLc_of hf)
theorem r_setLcF {fin : List Dv → Sto → Mo Dv} (hf : FinOk G fin) {i : Nat} {y : Str} {py spos : Pos} (hc : X.calm = true) (hN : X.N.Nodup) (hy : X.N[i]? = some y) (hyl : X.env.scope.names.lookup y = some .local)
    (hsw : swapsWith (.ListComp elt [⟨tg, iter, ifs, 0⟩] scope pos) (some (.Name y py)) spos.line X.env = pure true) (hi : PI X tg iter (tI G E w)) (ok : BlkOk X.N X.env.scope scope own)
    (hg : ∀ (s : Shared) (H : Hp) (C : Addr) (cl : List (Str × Addr)) (fp : List Addr), PG (X.blk s H scope (compEnvC scope cl C X.env) fp) tg (tGr G EN (RWip (own.map (·.2))) t))
    (ht : ∀ (s : Shared) (H : Hp) (C : Addr) (cl : List (Str × Addr)) (fp : List Addr), PTs (X.blk s H scope (compEnvC scope cl C X.env) fp) ifs (tT G EN u))
    (he : ∀ (s : Shared) (H : Hp) (C : Addr) (cl : List (Str × Addr)) (fp : List Addr), PE (X.blk s H scope (compEnvC scope cl C X.env) fp) elt (tE G EN f)) (hs : ∀ x, foldedSetIterable iter X.env x = pure x := by intro _; rfl) :
    PS X (.Assign [.Name y py] (.ListComp elt [⟨tg, iter, ifs, 0⟩] scope pos) spos) (tS G E (sAsg (eLcF fin w (nxG t) (nxB u) (nxE f) (own.map (·.2))) (gN i))) :=
  PS.fit (ps_frz (ps_setLc hc hN hy hyl hsw hi ok (fun s H C cl fp => PG.fit (hg s H C cl fp) nx_G) (fun s H C cl fp => PTs.fit (ht s H C cl fp) nx_B) (fun s H C cl fp => (he s H C cl fp).fit nx_E) hs)) fun D σ H ⟨p, ls, st, S, L, q⟩ => tLc_of hf σ H (fun v H' => D.nx (σ.set i (some v)) H') (tM_bind S L q fun p1 st1 x v H1 S1 g1 L1 r1 q1 => by
    unfold gN at q1
    by_cases hz : i < ls.length
    · rw [if_pos hz] at q1
      exact q1.now (b := (FlV.nx, σ.set i (some v))) S1 (Grow.refl _ _) ⟨trivial, L1.set r1⟩
    · rw [if_neg hz] at q1
      exact q1.no)
end
end
end R

/-! R7: generator expressions: their frame as a context, their turns. -/
namespace R
open PySem L2

section
variable {X : Cx} {pins : List (Addr × Obj)} {σ : L2.St} {H : Hp} {s : Shared}
abbrev gEnv (X : Cx) (scope : Scope) (L : Addr) (code : Value) : Env := genEnv scope (cloFrom X.env.cells scope.names []) L code builtinsNs X.env
/-- the context of a generator expression's frame, made at s4 -/
def genCx (X : Cx) (s4 : Shared) (H : Hp) (scope : Scope) (code : Value) (fp : List Addr) : Cx :=
  { X with A := X.A.in4.in1.deeper (gEnv X scope s4.heap.objs.size code), s_0 := s4, H_0 := H, env := gEnv X scope s4.heap.objs.size code, outer := X.stack,
           stack := gEnv X scope s4.heap.objs.size code :: X.stack, ex := fp, fn := fun _ => false, calm := true, pn := [], xe := fun _ _ => False }
theorem clo_mem {scope : Scope} {own : List (Str × Nat)} (ok : BlkOk X.N X.env.scope scope own) (I : Inv X pins σ H s) {y : Str} {c : Addr} (e : (cloFrom X.env.cells scope.names []).lookup y = some c) : X.env.cells.lookup y = some c := by
  rcases cloFrom_mem (PySem.mem_of_lookup e) with hm | ⟨h1, h2⟩
  · cases hm
  · have h3 : ∃ c, X.env.cells.lookup y = some c := by
      rcases ok.free _ h1 rfl with k | k
      · exact I.ok.has _ (.inl k)
      · exact I.ok.has _ (.inr k)
    obtain ⟨c1, hc⟩ := h3
    rw [hc] at h2
    rw [hc]
    exact congrArg some h2.symm
theorem gen_start {scope : Scope} {own : List (Str × Nat)} {code it : Value} {fp : List Addr} {gs : GenState} {o : Obj} {h' : Heap} {tk : Nat} (I : Inv X pins σ H s) (ok : BlkOk X.N X.env.scope scope own) (hN : X.N.Nodup) (hcell : ∀ y ∈ scope.names, y.2 ≠ .cell) (hhd : X.A.handled = none)
    (hfp : ∀ b ∈ fp, FpOk X pins H b ∧ b < s.heap.objs.size) (hb : gs.bare = true)
    (hn : h'.Ns s.heap.objs.size (fun y => if y = ".0" then some it else none)) (hs : Heap.SameBut s.heap.objs.size (s.heap.push { cls := .type "frame", data := .dict #[] }) h') (ho : ∀ v, o.data ≠ .cell v) (hfr : o.isFreed = false) :
    Inv (genCx X s H scope code fp) [(h'.objs.size, o)] (L2.wipe σ (own.map (·.2))) H { s with gens := s.gens.push gs, toks := tk, heap := h'.push o } := by
  have hsz : h'.objs.size = s.heap.objs.size + 1 := by rw [hs.1, Heap.size_push]
  have k1 : ∀ b u, s.heap.get? b = some u → h'.get? b = some u := fun b u e => hs.extBut b u (Nat.ne_of_lt (Heap.lt_size e)) (Heap.get?_push_of_some _ e)
  have k2 : ∀ b u, s.heap.get? b = some u → (h'.push o).get? b = some u := fun b u e => Heap.get?_push_of_some _ (k1 b u e)
  have old : ∀ {x c}, (cloFrom X.env.cells scope.names []).lookup x = some c → X.env.cells.lookup x = some c := fun e => clo_mem ok I e
  have cellK : ∀ {c v}, s.heap.IsCell c v → (h'.push o).IsCell c v := fun ⟨u, e, d⟩ => ⟨u, k2 _ _ e, d⟩
  have young : ∀ b, s.heap.objs.size ≤ b → b ∉ frs X.stack := fun b hb z => by
    rcases List.mem_cons.mp (I.stkSub b z) with e | e
    · exact absurd (Nat.lt_of_lt_of_le I.lt (by rw [← e]; exact hb)) (Nat.lt_irrefl _)
    · exact I.nofs hb e
  have notC : ∀ x, scope.names.lookup x = some .cell → False := fun x e => hcell _ (PySem.mem_of_lookup e) rfl
  refine ⟨⟨I.ok.mod, ok.kind, I.ok.glob, rfl, Nat.le_refl _, fun x y c e1 e2 => I.ok.inj x y c (old e1) (old e2), fun x hx => ?_, fun x c z _ => (Bool.noConfusion (show false = true from z)), fun _ => hhd, ?_, .inr ⟨rfl, rfl⟩, fun b hb => ⟨?_, fun x c e => (hfp b hb).1.2.2.2.2.1 x c (old e)⟩,
      I.bs, Nat.le_trans I.ok.bsz I.sz, fun b u e hb => ?_, fun b hb z => ?_, I.stack, I.stkFree⟩, rfl, ?_, Un.kept k2, ⟨_, hn.push _, fun i x v e1 e2 e3 => ?_⟩, fun x c e => ?_, I.hok.fresh (Nat.le_refl _), fun x c e => I.freeC x c (old e), fun q hq => ?_, I.hok.kept k2, by rw [L2.wipe_length]; exact I.len⟩
  · have hx : scope.names.lookup x = some .cell ∨ scope.names.lookup x = some .free := hx
    rcases hx with hx | hx
    · exact (notC x hx).elim
    · exact mem_lookup (cloFrom_has (cells := X.env.cells) (acc := []) (PySem.mem_of_lookup hx))
  · show (X.A.in4.in1.frames).map _ = _
    rw [show X.A.in4.in1.frames = X.A.frames from rfl, I.ok.frames]; rfl
  · exact Nat.ne_of_lt (hfp b hb).2
  · have f := (hfp b hb).1.2.2.2.1
    rcases f with f | f
    · exact I.ok.noex b u e f
    · exact absurd (Nat.lt_of_lt_of_le (Heap.lt_size e) (Nat.le_trans I.ok.bsz f)) (Nat.lt_irrefl _)
  · have f := (hfp b hb).1
    rcases List.mem_cons.mp (I.stkSub b z) with e | e
    · exact f.2.1 e
    · exact f.2.2.1 e
  · exact I.bare.push hb
  · have e3 : Vis scope x := e3
    obtain ⟨e4, e5⟩ := L2.wipe_some e2
    have hx : x ∉ own.map (·.1) := fun hm => by
      obtain ⟨q, hq, rfl⟩ := List.mem_map.mp hm
      exact e5 (by
        have : q.2 = i := nodup_ix hN (ok.ix q hq) e1
        rw [← this]
        exact List.mem_map_of_mem hq)
    have hxN : x ∈ X.N := List.mem_of_getElem? e1
    rcases e3 with k | k | k
    · exact ((ok.own _ (PySem.mem_of_lookup k) (.inl rfl)).elim (fun z => (hx z).elim) fun z => (z hxN).elim)
    · exact (notC x k).elim
    · have hv : Vis X.env.scope x := (ok.free _ (PySem.mem_of_lookup k) rfl).elim (fun k => .inr (.inl k)) (fun k => .inr (.inr k))
      obtain ⟨m, hm, hl⟩ := I.loc
      obtain ⟨u, r, q⟩ := hl i x v e1 e4 hv
      obtain ⟨c, hc⟩ := mem_lookup (cloFrom_has (cells := X.env.cells) (acc := []) (PySem.mem_of_lookup k))
      refine ⟨u, r, .inr ⟨.inr k, c, hc, ?_⟩⟩
      rcases q with ⟨k', _⟩ | ⟨_, c3, e', z⟩
      · have k' : X.env.scope.names.lookup x = some .local := k'
        rcases ok.free _ (PySem.mem_of_lookup k) rfl with k2 | k2 <;> rw [show X.env.scope.names.lookup x = _ from k2] at k' <;> cases k'
      · rw [old hc] at e'
        cases e'
        exact cellK z
  · obtain ⟨v, z⟩ := I.cell x c (old e)
    exact ⟨v, cellK z⟩
  · have hq : q ∈ [(h'.objs.size, o)] := by simpa [genCx] using hq
    rw [List.mem_singleton.mp hq]
    refine ⟨Heap.get?_push_size _ hfr, I.hok.fresh (by rw [hsz]; exact Nat.le_succ _), ?_, young _ (by rw [hsz]; exact Nat.le_succ _), ho⟩
    show h'.objs.size ≠ s.heap.objs.size
    rw [hsz]
    exact Nat.succ_ne_self _
end

/-! ### the run of a generator expression over data -/
/-- what it yields, each with the store behind it; then the store at its end (none: its end is not told) -/
def gTrace (k : Wk) (t : SG) (u : SB) (f : SE) (wp : Ls) : Nat → Nat → Sto → List (Dv × Sto) × Option Sto
  | 0, _, _ => ([], none)
  | m + 1, i, st => match k.at_ i st with
    | none => ([], none)
    | some none => ([], some st)
    | some (some d) => match t d wp st with
      | some (.ok ls1, st1) => match u ls1 st1 with
        | some (.ok true, st2) => match f ls1 st2 with
          | some (.ok y, st3) => ((y, st3) :: (gTrace k t u f wp m (i + 1) st3).1, (gTrace k t u f wp m (i + 1) st3).2)
          | _ => ([], none)
        | some (.ok false, st2) => gTrace k t u f wp m (i + 1) st2
        | _ => ([], none)
      | _ => ([], none)
section
variable {G : Cfg} {X : Cx} {pins : List (Addr × Obj)} {σ : L2.St}
abbrev gCode (elt tg iter : Expr) (ifs : List Expr) (scope : Scope) (pos : Pos) : Expr := .GeneratorExp elt [⟨tg, iter, ifs, 0⟩] scope pos
theorem gen_over {A : Around} {elt tg iter : Expr} {ifs : List Expr} {scope : Scope} {pos : Pos} {it : Value} {cenv : Env} : A.over (.compLoop (gCode elt tg iter ifs scope pos) 0 it .none cenv) [] = A.deeper cenv := by
  obtain ⟨hd, d, fr, gs, u⟩ := A
  cases fr <;> cases gs <;> simp [Around.over, Around.deeper, marksOver, frameCount, Code.weight, Code.frames, Code.isFrame, Code.isCreation, Code.isGuard, Code.isCaller, Code.envs, Code.env?, pushEnvs, envsOf, guardsOf, pushGuards, Code.guards, unitsOf, Code.cUnits]
theorem gen_over0 {A : Around} {elt tg iter : Expr} {ifs : List Expr} {scope : Scope} {pos : Pos} {it : Value} {cenv : Env} : A.over (.compStart (gCode elt tg iter ifs scope pos) 0 it .none cenv) [] = A.deeper cenv := by
  obtain ⟨hd, d, fr, gs, u⟩ := A
  cases fr <;> cases gs <;> simp [Around.over, Around.deeper, marksOver, frameCount, Code.weight, Code.frames, Code.isFrame, Code.isCreation, Code.isGuard, Code.isCaller, Code.envs, Code.env?, pushEnvs, envsOf, guardsOf, pushGuards, Code.guards, unitsOf, Code.cUnits]
end
end R

/-! R8: a generator expression's frame, a turn at a time. -/
namespace R
open PySem L2

theorem runs_gens {M : Model} {Γ : Ctx} {p : Pos} {t : Sem Fin} {fs : List Frame} {s s' : Shared} {e : End} (h : Runs M Γ p t fs s e s') : s.gens.size ≤ s'.gens.size := by
  have z : ∀ (s : Shared) g x, (s.setGen g x).gens.size = s.gens.size := fun s g x => by simp [Shared.setGen]
  induction h <;> first
    | exact Nat.le_refl _
    | assumption
    | (rename_i ih; exact ih)
    | (simp only [z, Array.size_push] at *; omega)

section
variable {M : Model} {A : Around} {Post : End → Shared → Prop} {c : Code} {fs : List Frame} {s : Shared}
/-- one run up to a yield or the end -/
def Seg1 (M : Model) (A : Around) (Post : End → Shared → Prop) (c : Code) (t : Sem Fin) (fs : List Frame) (s : Shared) : Prop :=
  ∀ Γ p, Γ.code = c → Γ.Woken A → ∃ e s', Runs M Γ p t fs s e s' ∧ Post e s'
theorem s1_wrap {α : Type} {m : Sem α} {K : α → Sem Fin} {H : Value → Sem Fin} {gd lv}
    (h : wpAny M (A.over c fs) m (fun a s' => Seg1 M A Post c (K a) fs s') (fun x s' => Seg1 M A Post c (H x) fs s') s) : Seg1 M A Post c (m.wrap K H gd lv) fs s := by
  rintro Γ p rfl hΓ
  exact runs_wrap_of_wp K H gd lv m (h (Γ.over fs) p (hΓ.over fs)) (fun a p' s' h' => h' Γ p' rfl hΓ) (fun x p' s' h' => h' Γ p' rfl hΓ)
theorem s1_bindw {α β : Type} {m : Sem α} {f : α → Sem β} {K : β → Sem Fin} {H : Value → Sem Fin} {gd lv}
    (h : wpAny M (A.over c fs) m (fun a s' => Seg1 M A Post c ((f a).wrap K H gd lv) fs s') (fun x s' => Seg1 M A Post c (H x) fs s') s) : Seg1 M A Post c ((m >>= f).wrap K H gd lv) fs s := by
  rw [Sem.bind_eq_wrap', Sem.wrap_wrap]
  exact s1_wrap h
theorem s1_at {p' : Pos} {k : Unit → Sem Fin} (h : Seg1 M A Post c (k ()) fs s) : Seg1 M A Post c (.at p' k) fs s :=
  s1_wrap (m := standAt p') (K := k) (H := .raise) (gd := id) (lv := id) (wpAny_standAt h)
theorem s1_again {c' : Code} (hq : c'.quiet = true) (hc : Seg1 M A Post c' (M.den c') fs s) : Seg1 M A Post c (.pure (.again c')) fs s := by
  rintro Γ p rfl hΓ
  obtain ⟨e, s', hr, he⟩ := hc (Γ.goto c') p rfl (hΓ.goto c')
  exact ⟨e, s', Runs.head (c₁ := c') (fun _ _ x => .again hq x) hr, he⟩
theorem s1_end (r : Result) (h : Post (.ret r) s) : Seg1 M A Post c (leafOf r) [] s := by
  rintro Γ p rfl _
  exact ⟨.ret r, s, Runs.leaf r, h⟩
theorem s1_yield {v g l} {k : Resume → Sem Fin} (h : ∀ p, Post (.susp v g l k c p []) s) : Seg1 M A Post c (.yield v g l k) [] s := by
  rintro Γ p rfl _
  exact ⟨_, s, .yield, h p⟩
end

/-- the next thing that it yields, and where its walk stands then; none: it ends -/
def gStep (k : Wk) (t : SG) (u : SB) (f : SE) (wp : Ls) : Nat → Nat → Sto → Option (Option (Dv × Nat) × Sto)
  | 0, _, _ => none
  | m + 1, i, st => match k.at_ i st with
    | none => none
    | some none => some (none, st)
    | some (some d) => match t d wp st with
      | some (.ok ls1, st1) => match u ls1 st1 with
        | some (.ok true, st2) => match f ls1 st2 with
          | some (.ok y, st3) => some (some (y, i + 1), st3)
          | _ => none
        | some (.ok false, st2) => gStep k t u f wp m (i + 1) st2
        | _ => none
      | _ => none

/-- what is fixed of a generator expression that is walked -/
structure GP where
  G : Cfg
  X : Cx
  s4 : Shared
  H4 : Hp
  p4 : List Addr
  pins : List (Addr × Obj)
  elt : Expr
  tg : Expr
  iter : Expr
  ifs : List Expr
  scope : Scope
  pos : Pos
  code : Value
  fp : List Addr
  it : Addr
  ga : Addr
  gn : Nat
  go : Obj
  σ : L2.St
  ls : Ls
  vs : List Nat
  k : Wk
  t : SG
  u : SB
  f : SE
  tn : Nat → Heap → Prop
  J : It
namespace GP
variable (g : GP)
abbrev C : Cx := genCx g.X g.s4 g.H4 g.scope g.code g.fp
abbrev step (m i : Nat) (st : Sto) : Option (Option (Dv × Nat) × Sto) := gStep g.k g.t g.u g.f (wipeL g.ls g.vs) m i st
abbrev loop : Code := .compLoop (gCode g.elt g.tg g.iter g.ifs g.scope g.pos) 0 (.ref g.it) .none g.C.env
abbrev start : Code := .compStart (gCode g.elt g.tg g.iter g.ifs g.scope g.pos) 0 (.ref g.it) .none g.C.env
/-- where it stands -/
structure At (pn : List (Addr × Obj)) (i : Nat) (p : List Addr) (st : Sto) (H : Hp) (s : Shared) : Prop where
  tn : g.tn i s.heap
  nfp : ∀ b ∈ g.fp, H b = none
  npn : ∀ q ∈ pn, ∀ b ∈ g.fp, q.1 ≠ b
  inv : L2.Inv g.C ((g.ga, g.go) :: pn) (L2.wipe g.σ g.vs) H s
  sim : Sim g.G p st H
  gr : Grow g.p4 g.H4 p H
/-- it has ended -/
structure Over (pn : List (Addr × Obj)) (p : List Addr) (st : Sto) (H : Hp) (s : Shared) : Prop where
  inv : L2.Inv g.C ((g.ga, g.go) :: pn) (L2.wipe g.σ g.vs) H s
  sim : Sim g.G p st H
  gr : Grow g.p4 g.H4 p H
def Post (pn : List (Addr × Obj)) (p : List Addr) (H : Hp) : Option (Dv × Nat) × Sto → End → Shared → Prop
  | (some (y, i), st'), e, s' => ∃ v l k q p' H', e = .susp v false l k g.loop q [] ∧ k (.send .none) = .pure (.again g.loop) ∧ g.At pn i p' st' H' s' ∧ Grow p H p' H' ∧ ∃ dv, RelV dv v ∧ Rep g.G.K p' H' y dv
  | (none, st'), e, s' => e = .ret (.ok .next) ∧ ∃ p' H', g.Over pn p' st' H' s' ∧ Grow p H p' H'
/-- what is fixed, and fits -/
structure Ok : Prop where
  turn : Turn g.X.prog g.X.w g.X.K g.tg g.J g.fp g.it g.tn
  rk : rW g.G g.p4 g.H4 g.k g.J
  ls : RepS g.G g.p4 g.H4 g.ls g.σ
  pg : PG g.C g.tg (tGr g.G EN (RWip g.vs) g.t)
  pt : PTs g.C g.ifs (tT g.G EN g.u)
  pe : PE g.C g.elt (tE g.G EN g.f)
  co : g.scope.isCoroutine = false
  ne : ∀ b ∈ g.fp, g.ga ≠ b
  inv4 : L2.Inv g.X g.pins g.σ g.H4 g.s4
  fp4 : ∀ b ∈ g.fp, FpOk g.X g.pins g.H4 b
  gad : g.s4.heap.objs.size ≤ g.ga
  hK : g.G.K = g.X.K
  obj : ∃ nm qn, g.go = { cls := .type "generator", data := .fields #[.int g.gn 0, nm, qn] }
theorem fpok {g : GP} (o : g.Ok) {pn : List (Addr × Obj)} {σ : L2.St} {H : Hp} {s : Shared} (I : L2.Inv g.C ((g.ga, g.go) :: pn) σ H s) (n : ∀ b ∈ g.fp, H b = none) (np : ∀ q ∈ pn, ∀ b ∈ g.fp, q.1 ≠ b) : ∀ b ∈ g.fp, FpOk g.C ((g.ga, g.go) :: pn) H b := fun b hb =>
  ⟨n b hb, (I.ok.exf b hb).1, I.ok.exfs b hb, .inl hb, fun x c e => (I.ok.exf b hb).2 x c e, fun q hq => by
    have hq : q ∈ (g.ga, g.go) :: pn := by simpa [genCx] using hq
    rcases List.mem_cons.mp hq with e | e
    · rw [e]
      exact o.ne b hb
    · exact np q e b hb⟩
theorem turn1 {g : GP} (o : g.Ok) {pn : List (Addr × Obj)} : ∀ (m i : Nat) (st : Sto) (p : List Addr) (H : Hp) (s : Shared) (r : Option (Dv × Nat) × Sto), g.step m i st = some r → g.At pn i p st H s →
    Seg1 (model g.X.prog g.X.w) g.X.A.in4.in1 (g.Post pn p H r) g.loop ((model g.X.prog g.X.w).den g.loop) [] s := by
  have hA : ∀ {e : Value}, g.X.A.in4.in1.over (.compLoop (gCode g.elt g.tg g.iter g.ifs g.scope g.pos) 0 e .none g.C.env) [] = g.C.A := fun {e} => gen_over
  intro m
  induction m with
  | zero =>
    intro i st p H s r e _
    cases e
  | succ m ih =>
    intro i st p H s r e ⟨ht, hn, np, I, S, gr⟩
    have F := fpok o I hn np
    show Seg1 _ _ _ _ ((compTurn (gCode g.elt g.tg g.iter g.ifs g.scope g.pos) 0 (.ref g.it) .none g.C.env).onRaise (leaving g.C.env)) [] s
    rw [compTurn_gen, Sem.onRaise_eq_wrap]
    refine s1_bindw (wpAny_standAt ?_)
    have z := o.rk p H st gr S i
    have e' : (match g.k.at_ i st with
      | none => none
      | some none => some (none, st)
      | some (some d) => match g.t d (wipeL g.ls g.vs) st with
        | some (.ok ls1, st1) => match g.u ls1 st1 with
          | some (.ok true, st2) => match g.f ls1 st2 with
            | some (.ok y, st3) => some (some (y, i + 1), st3)
            | _ => none
          | some (.ok false, st2) => g.step m (i + 1) st2
          | _ => none
        | _ => none) = some r := e
    have bad : ∀ {Z : Prop}, (none : Option (Option (Dv × Nat) × Sto)) = some r → Z := fun e => by cases e
    cases ea : g.k.at_ i st with
    | none => rw [ea] at e'; exact bad e'
    | some od =>
      rw [ea] at e' z
      cases od with
      | none =>
        have e' : some ((none : Option (Dv × Nat)), st) = some r := e'
        cases e'
        refine s1_bindw ?_
        rw [hA]
        refine thnF (o.turn.done g.C rfl rfl rfl rfl i _ s _ H (fun _ _ => False) I F ht z) fun r s1 ⟨hr, I1⟩ => ?_
        subst hr
        exact s1_end (.ok .next) ⟨rfl, p, H, ⟨I1, S, gr⟩, Grow.refl _ _⟩
      | some d =>
        dsimp only at e'
        obtain ⟨zg, zy⟩ := z
        refine s1_bindw ?_
        rw [hA]
        refine thnF (o.turn.item g.C rfl rfl rfl rfl i _ s _ H (fun _ _ => False) I F ht zg) fun rr s1 ⟨uv, hr, h1⟩ => ?_
        subst hr
        refine s1_bindw ?_
        rw [hA]
        refine thnF h1 fun _ s2 ⟨x, H2, I2, r2, y2, t2, n2⟩ => ?_
        obtain ⟨p2, g2, S2, rx⟩ := zy x H2 y2
        have F2 := fpok o I2 n2 np
        have I2' := I2.pinned F2 (o.turn.obj _ _ t2)
        have gr2 := gr.trans g2
        have L2' : RepS g.G p2 H2 (wipeL g.ls g.vs) (L2.wipe g.σ g.vs) := (o.ls.grow gr2).wipe g.vs
        -- the target
        cases et : g.t d (wipeL g.ls g.vs) st with
        | none => rw [et] at e'; exact bad e'
        | some mt =>
          rw [et] at e'
          rcases mt with ⟨⟨ls1⟩ | ⟨c⟩, st1⟩
          · dsimp only at e'
            refine s1_bindw ?_
            rw [hA]
            refine thnF (o.pg.run _ s2 _ H2 x uv (fun σ3 H3 => ∃ p3, Sim g.G p3 st1 H3 ∧ Grow p2 H2 p3 H3 ∧ RepS g.G p3 H3 ls1 σ3 ∧ L2.wipe σ3 g.vs = L2.wipe (L2.wipe g.σ g.vs) g.vs) I2' r2
              ⟨p2, wipeL g.ls g.vs, st, d, S2, L2', rx, .ok ls1, st1, et, fun p3 H3 g3 S3 σ3 L3 hz => ⟨p3, S3, g3, L3, hz⟩⟩) fun _ s3 ⟨σ3, H3, I3, p3, S3, g3, L3, hz⟩ => ?_
            have hz' : L2.wipe σ3 g.vs = L2.wipe g.σ g.vs := by rw [hz, wipe_wipe g.σ g.vs g.vs fun _ h => h]
            -- the tests
            cases eu : g.u ls1 st1 with
            | none => rw [eu] at e'; exact bad e'
            | some mu =>
              rw [eu] at e'
              rcases mu with ⟨⟨b⟩ | ⟨c⟩, st2⟩
              · refine s1_bindw ?_
                rw [hA]
                refine thnF (o.pt.run _ s3 σ3 H3 (fun b' H4 => b' = b ∧ ∃ p4, Sim g.G p4 st2 H4 ∧ Grow p3 H3 p4 H4) I3 ⟨p3, ls1, st1, S3, L3, .ok b, st2, eu, fun p4 H4 g4 S4 b' hb => ⟨hb.symm, p4, S4, g4⟩⟩) fun b' s4 ⟨H4, I4, eb, p4, S4, g4⟩ => ?_
                subst eb
                -- a turn's end
                have fin : ∀ {σ' : L2.St} {H' : Hp} {s' : Shared}, L2.Inv g.C (((g.ga, g.go) :: pn) ++ pinsAt g.fp s2.heap) σ' H' s' → L2.wipe σ' g.vs = L2.wipe g.σ g.vs → σ'.length = g.σ.length →
                    L2.Inv g.C ((g.ga, g.go) :: pn) (L2.wipe g.σ g.vs) H' s' ∧ g.tn (i + 1) s'.heap ∧ ∀ b ∈ g.fp, H' b = none := fun {σ' H' s'} I' hw hl => by
                  have pin' : ∀ b ∈ g.fp, ∀ ob, s2.heap.get? b = some ob → s'.heap.get? b = some ob ∧ H' b = none := fun b hb ob eo =>
                    let q := I'.pin (b, ob) (List.mem_append_right _ (List.mem_append_right _ (mem_pinsAt hb eo)))
                    ⟨q.1, q.2.1⟩
                  refine ⟨(I'.unpinned (pins := (g.ga, g.go) :: pn)).weak (by rw [L2.wipe_length, hl]) fun q v eq => ?_, o.turn.keep _ _ _ t2 fun b hb ob eo => (pin' b hb ob eo).1, fun b hb => ?_⟩
                  · rw [← hw] at eq
                    exact (L2.wipe_some eq).1
                  · obtain ⟨ob, eo, _⟩ := o.turn.obj _ _ t2 b hb
                    exact (pin' b hb ob eo).2
                have hl3 : σ3.length = g.σ.length := by
                  have := congrArg List.length hz'
                  rw [L2.wipe_length, L2.wipe_length] at this
                  exact this
                cases b' with
                | false =>
                  have e' : g.step m (i + 1) st2 = some r := e'
                  simp only [Bool.false_eq_true, if_false]
                  obtain ⟨I5, t5, n5⟩ := fin I4 hz' hl3
                  have gg := g2.trans (g3.trans g4)
                  refine s1_again rfl ?_
                  intro Γ q hc hw
                  obtain ⟨e1, s1', hr1, he1⟩ := ih (i + 1) st2 p4 H4 s4 r e' ⟨t5, n5, np, I5, S4, gr2.trans (g3.trans g4)⟩ Γ q hc hw
                  refine ⟨e1, s1', hr1, ?_⟩
                  obtain ⟨ro, rst⟩ := r
                  cases ro with
                  | none =>
                    obtain ⟨h1, p', H', h2, h3⟩ := he1
                    exact ⟨h1, p', H', h2, gg.trans h3⟩
                  | some yi =>
                    obtain ⟨y, i'⟩ := yi
                    obtain ⟨v, l, k, q', p', H', h1, h2, h3, h4, h5⟩ := he1
                    exact ⟨v, l, k, q', p', H', h1, h2, h3, gg.trans h4, h5⟩
                | true =>
                  have e' : (match g.f ls1 st2 with
                      | some (.ok y, st3) => some (some (y, i + 1), st3)
                      | _ => none) = some r := e'
                  cases ef : g.f ls1 st2 with
                  | none => rw [ef] at e'; exact bad e'
                  | some mf =>
                    rw [ef] at e'
                    rcases mf with ⟨⟨y⟩ | ⟨c⟩, st3⟩
                    · have e' : some (some (y, i + 1), st3) = some r := e'
                      cases e'
                      have hy : ∀ v, yieldOut g.C.env v = yieldValue v := fun v => by
                        have hc : g.C.env.scope.isCoroutine = false := o.co
                        simp only [yieldOut, hc, Bool.false_eq_true, if_false]
                      simp only [if_true, hy]
                      rw [Sem.bind_eq_wrap', Sem.bind_eq_wrap', Sem.wrap_wrap, Sem.wrap_wrap]
                      refine s1_wrap ?_
                      rw [hA]
                      refine thnF (o.pe.run _ s4 σ3 H4 (fun v H5 => ∃ p5, Sim g.G p5 st3 H5 ∧ Grow p4 H4 p5 H5 ∧ Rep g.G.K p5 H5 y v) I4 ⟨p4, ls1, st2, S4, L3.grow g4, .ok y, st3, ef, fun p5 H5 g5 S5 v hv => ⟨p5, S5, g5, hv⟩⟩) fun vv s5 ⟨v, H5, I5, rv, p5, S5, g5, ry⟩ => ?_
                      obtain ⟨I6, t6, n6⟩ := fin I5 hz' hl3
                      have gr5 := gr2.trans (g3.trans (g4.trans g5))
                      exact s1_at (s1_yield fun q => ⟨vv, _, _, q, p5, H5, rfl, rfl, ⟨t6, n6, np, I6, S5, gr5⟩, g2.trans (g3.trans (g4.trans g5)), v, rv, ry⟩)
                    · exact bad e'
              · exact bad e'
          · exact bad e'
/-- the first turn -/
theorem turn0 {g : GP} (o : g.Ok) {pn : List (Addr × Obj)} {m i : Nat} {st : Sto} {p : List Addr} {H : Hp} {s : Shared} {r : Option (Dv × Nat) × Sto} (e : g.step m i st = some r) (a : g.At pn i p st H s) :
    Seg1 (model g.X.prog g.X.w) g.X.A.in4.in1 (g.Post pn p H r) g.start ((model g.X.prog g.X.w).den g.start) [] s := by
  have loop := turn1 o m i st p H s r e a
  show Seg1 _ _ _ _ ((compStart (gCode g.elt g.tg g.iter g.ifs g.scope g.pos) 0 (.ref g.it) .none g.C.env).onRaise (leaving g.C.env)) [] s
  unfold compStart
  rw [Sem.onRaise_eq_wrap]
  show Seg1 _ _ _ _ ((ask >>= _).wrap _ _ _ _) [] s
  refine s1_bindw (wpAny_askSetting ?_)
  split
  · exact s1_again rfl loop
  · refine s1_bindw (wpAny_rule ?_)
    first
      | exact s1_bindw (wpAny_standAt (s1_bindw (o.turn.self _ i s _ _ a.tn (s1_again rfl loop))))
      | (show Seg1 _ _ _ _ ((standAt g.iter.pos >>= _).wrap _ _ _ _) [] s; exact s1_bindw (wpAny_standAt (s1_bindw (o.turn.self _ i s _ _ a.tn (s1_again rfl loop)))))
end GP
end R

/-! R9: the next thing of a generator expression. -/
namespace R
open PySem L2
abbrev AllB (g : Array GenState) : Prop := PyProof.Rows.AllBare g
theorem Inv_gens {X : Cx} {pins : List (Addr × Obj)} {σ : L2.St} {H : Hp} {s : Shared} {g' : Array GenState} (I : Inv X pins σ H s) (hg : AllB g') : Inv X pins σ H { s with gens := g' } :=
  I.call (ch := []) (h' := s.heap) (t' := s.toks) (d' := s.drawn) (.kept fun _ _ e => e) (I.hok.kept fun _ _ e => e) hg fun b hb => absurd hb (by simp)
theorem bare_set {s : Shared} {g : Nat} {x : GenState} (h : AllB s.gens) (hx : x.bare = true) : AllB (s.setGen g x).gens := by
  intro y hy
  obtain ⟨i, hi, rfl⟩ := Array.mem_iff_getElem.mp hy
  have hi' : i < s.gens.size := by simpa [Shared.setGen] using hi
  simp only [Shared.setGen, Array.getElem_setIfInBounds hi']
  split
  · exact hx
  · exact h _ (Array.getElem_mem hi')
namespace GP
def Sus (g : GP) (gs : GenState) : Prop := gs = .fresh g.start ∨ ∃ k l q, gs = .suspended k l g.loop q [] false ∧ k (.send .none) = .pure (.again g.loop)
structure Ready (g : GP) (pn : List (Addr × Obj)) (i : Nat) (p : List Addr) (st : Sto) (H : Hp) (s : Shared) : Prop where
  at_ : g.At pn i p st H s
  gen : ∃ gs, s.gens[g.gn]? = some gs ∧ g.Sus gs
theorem At.gens {g : GP} {pn : List (Addr × Obj)} {i : Nat} {p : List Addr} {st : Sto} {H : Hp} {s : Shared} {x : GenState} (a : g.At pn i p st H s) (hx : x.bare = true) : g.At pn i p st H (s.setGen g.gn x) :=
  ⟨a.tn, a.nfp, a.npn, Inv_gens a.inv (bare_set a.inv.bare hx), a.sim, a.gr⟩
theorem Over.gens {g : GP} {pn : List (Addr × Obj)} {p : List Addr} {st : Sto} {H : Hp} {s : Shared} {x : GenState} (a : g.Over pn p st H s) (hx : x.bare = true) : g.Over pn p st H (s.setGen g.gn x) :=
  ⟨Inv_gens a.inv (bare_set a.inv.bare hx), a.sim, a.gr⟩
theorem isGen {g : GP} (o : g.Ok) {pins σ H s} (I : L2.Inv g.C ((g.ga, g.go) :: pins) σ H s) : s.heap.IsGen g.ga g.gn := by
  obtain ⟨nm, qn, e⟩ := o.obj
  exact ⟨_, nm, qn, (I.pin (g.ga, g.go) (List.mem_append_right _ (by simp))).1, by rw [e], by rw [e], by rw [e]⟩

/-- what a resumption does -/
theorem wakes1 {g : GP} (o : g.Ok) {pn : List (Addr × Obj)} {m i : Nat} {st : Sto} {p : List Addr} {H : Hp} {s : Shared} {r : Option (Dv × Nat) × Sto} (e : g.step m i st = some r) (a : g.Ready pn i p st H s) {Γ : Ctx} {q : Pos} (hΓ : Γ.In g.X.A.in4.in1) :
    ∃ e₁ s₁, g.Post pn p H r e₁ s₁ ∧ (s.gens.size ≤ s₁.gens.size) ∧ Wakes (model g.X.prog g.X.w) Γ q g.gn (.send .none) s e₁.result (s₁.setGen g.gn e₁.genState) := by
  obtain ⟨a, gs, hg, hs⟩ := a
  have a' := a.gens (x := .running) rfl
  have hB : ∀ c, (Γ.wake c q).Woken g.X.A.in4.in1 := fun c => hΓ.wake c q
  have sz : (s.setGen g.gn .running).gens.size = s.gens.size := by simp [Shared.setGen]
  have qt : ∀ {e₁ s₁}, g.Post pn p H r e₁ s₁ → e₁.quiet = true := fun {e₁ s₁} h => by
    obtain ⟨ro, rst⟩ := r
    cases ro with
    | none =>
      obtain ⟨h1, _⟩ := h
      rw [h1]; rfl
    | some yi =>
      obtain ⟨y, i'⟩ := yi
      obtain ⟨v, l, k, q', p', H', h1, _⟩ := h
      rw [h1]; rfl
  rcases hs with rfl | ⟨k, l, q0, rfl, hk⟩
  · obtain ⟨e₁, s₁, hr, he⟩ := turn0 o e a' (Γ.wake g.start q) q rfl (hB _)
    refine ⟨e₁, s₁, he, by have := runs_gens hr; omega, ?_⟩
    unfold Wakes
    rw [hg]
    exact ⟨e₁, s₁, hr, qt he, rfl, rfl⟩
  · obtain ⟨e₁, s₁, hr, he⟩ := s1_again (c := g.loop) (fs := []) (c' := g.loop) rfl (turn1 o m i st p H _ r e a') (Γ.wake g.loop q) q0 rfl (hB _)
    refine ⟨e₁, s₁, he, by have := runs_gens hr; omega, ?_⟩
    unfold Wakes
    rw [hg]
    exact ⟨e₁, s₁, by rw [hk]; exact hr, qt he, rfl, rfl⟩

/-- what the consumer then has -/
def After (g : GP) (pn : List (Addr × Obj)) (p : List Addr) (H : Hp) (r : Option (Dv × Nat) × Sto) (Q : Option Value → Shared → Prop) : Prop :=
  (∀ y i' st', r = (some (y, i'), st') → ∀ v s' p' H' dv, g.Ready pn i' p' st' H' s' → Grow p H p' H' → RelV dv v → Rep g.G.K p' H' y dv → Q (some v) s') ∧
  (∀ st', r = (none, st') → ∀ s' p' H', g.Over pn p' st' H' s' → Grow p H p' H' → Q none s')
theorem next {g : GP} (o : g.Ok) {pn : List (Addr × Obj)} (hd : g.X.A.handled = none) (room : g.X.A.depth < recursionLimit) {m i : Nat} {st : Sto} {p : List Addr} {H : Hp} {s : Shared} {r : Option (Dv × Nat) × Sto} {Q : Option Value → Shared → Prop} {E : Value → Shared → Prop}
    (e : g.step m i st = some r) (a : g.Ready pn i p st H s) (h : g.After pn p H r Q) : wpAny (model g.X.prog g.X.w) g.X.A.in4 (pyNext (.ref g.ga)) Q E s := by
  have hg := isGen o a.at_.inv
  have hl := a.at_.inv.nolimit
  obtain ⟨gs, hgs, hs⟩ := a.gen
  unfold pyNext
  refine wpAny_bind (wpAny_attempt ?_)
  refine wpAny_callSpecial?_slot (name := Str.ofString "__next__") hg.typeIs slot_gen_next ?_
  refine wpAny_call_entry slot_gen_next hg.typeIs entry_gen_next ?_ (args_gen_next _)
  show wpAny _ g.X.A.in4.in1 (Builtin.Generator.genWake (.ref g.ga) (.send .none)) _ _ s
  unfold Builtin.Generator.genWake
  refine wpAny_bind (wpAny_holding ?_)
  refine wpAny_genNumber hg (wpAny_bind (wpAny_genState hgs ?_))
  have hq : ∀ {α : Type} {K : GenResult → Sem α} {Q' : α → Shared → Prop} {E' : Value → Shared → Prop},
      (∀ e₁ s₁, g.Post pn p H r e₁ s₁ → s.gens.size ≤ s₁.gens.size → wpAny (model g.X.prog g.X.w) g.X.A.in4.in1 (K e₁.result) Q' E' (s₁.setGen g.gn e₁.genState)) →
      wpAny (model g.X.prog g.X.w) g.X.A.in4.in1 (.resume g.gn (.send .none) [] K) Q' E' s := fun {α K Q' E'} hK Γ q hΓ => by
    rw [Sem.wp_resume]
    obtain ⟨e₁, s₁, hp, hz, hw⟩ := wakes1 o e a (q := q) hΓ
    exact ⟨_, _, hw, hK e₁ s₁ hp hz Γ q hΓ⟩
  have lt : g.gn < s.gens.size := (Array.getElem?_eq_some_iff.mp hgs).1
  obtain ⟨hy, hn⟩ := h
  obtain ⟨ro, rst⟩ := r
  have live : ∀ {α : Type} {m : Sem α} {Q' : α → Shared → Prop} {E' : Value → Shared → Prop}, (gs.status = .fresh ∨ gs.status = .suspended → wpAny (model g.X.prog g.X.w) g.X.A.in4.in1 m Q' E' s) → wpAny (model g.X.prog g.X.w) g.X.A.in4.in1 m Q' E' s := fun hm => hm (by
    rcases hs with rfl | ⟨k, l, q, rfl, _⟩
    · exact .inl rfl
    · exact .inr rfl)
  cases gs with
  | running => rcases hs with hs | ⟨_, _, _, hs, _⟩ <;> cases hs
  | finished => rcases hs with hs | ⟨_, _, _, hs, _⟩ <;> cases hs
  | _ =>
    refine wpAny_bind (wpAny_roomToWake hl room ?_)
    refine hq fun e₁ s₁ hp hz => ?_
    cases ro with
    | some yi =>
      obtain ⟨y, i'⟩ := yi
      obtain ⟨v, l, k, q', p', H', rfl, h2, h3, h4, dv, h5, h6⟩ := hp
      refine wpAny_pure ⟨v, rfl, wpAny_pure (hy y i' rst rfl v _ p' H' dv ⟨h3.gens rfl, _, setGen_self (gs := s₁.gens[g.gn]'(Nat.lt_of_lt_of_le lt hz)) (Array.getElem?_eq_getElem _), .inr ⟨k, l, q', rfl, h2⟩⟩ h4 h5 h6)⟩
    | none =>
      obtain ⟨rfl, p', H', h3, h4⟩ := hp
      show wpAny _ g.X.A.in4.in1 (newExc (.type "StopIteration") [] >>= _) _ _ _
      refine wpAny_bind ?_
      simp only [newExc, newTuple]
      refine wpAny_bind ?_
      refine wpAny_newObj_type ?_ (by size_fits)
      refine wpAny_bind (m := firstArgMember _ _) ?_
      refine wpAny_of_eq (a := Value.none) (by first | rfl | (simp only [firstArgMember]; rfl)) ?_
      refine wpAny_newObj_type ?_ (by size_fits)
      simp only [raiseNew]
      refine wpAny_bind ?_
      refine wpAny_bind (wpAny_handled ?_)
      first
        | rw [show g.X.A.in4.in1.handled = none from hd]
        | rw [hd]
      refine wpAny_throw (wpAny_bind ?_)
      refine wpAny_isInstance (T := "StopIteration") (b := true) ⟨_, Heap.get?_push_size _ rfl, rfl⟩ isSubtype_stop (wpAny_pure ?_)
      have h5 := h3.gens (x := .finished) rfl
      refine hn rst rfl _ p' H' ⟨h5.inv.kept (t' := s₁.toks) fun b u e => ?_, h5.sim, h5.gr⟩ h4
      exact Heap.get?_push_of_some _ (Heap.get?_push_of_some _ e)
end GP
end R

/-! R10: a generator expression is made. -/
namespace R
open PySem L2
/-- all but the tables stays, and those are told -/
theorem Sim.extn {G : Cfg} {p : List Addr} {st : Sto} {H H' : Hp} (S : Sim G p st H) (e : LamX.ExtN H H') (t : LamX.Tabs G.lam H') : Sim G p st H' ∧ Grow p H p H' := by
  have g : Grow p H p H' := ⟨fun _ _ h => h, fun b xs h => e b _ h (fun ps z => by cases z), fun b x y h => e b _ h (fun ps z => by cases z), fun b f h => e b _ h (fun ps z => by cases z), fun _ h => .inl h, fun b o h t _ => e b o h t⟩
  have sm : ∀ b, b ∈ p → H' b = H b := fun b hb => by
    cases h : H b with
    | none => exact absurd h (S.nul b hb)
    | some o => exact e b o h fun ps z => S.ntab b ps hb (by rw [h, z])
  refine ⟨⟨S.len, S.inj, fun n a x h1 h2 => ?_, fun b hb => ?_, ⟨t⟩, fun b ps hb => ?_, fun b xs hb => ?_⟩, g⟩
  · exact ObR.keep g (sm a (List.mem_of_getElem? h1)) (S.obj n a x h1 h2)
  · rw [sm b hb]; exact S.nul b hb
  · rw [sm b hb]; exact S.ntab b ps hb
  · rw [sm b hb]; exact S.ntup b xs hb
/-- a generator expression's scope -/
structure GenOk (X : Cx) (scope : Scope) (own : List (Str × Nat)) : Prop where
  blk : BlkOk X.N X.env.scope scope own
  co : scope.isCoroutine = false
  cell : ∀ y ∈ scope.names, y.2 ≠ .cell
  dot : scope.names.lookup (".0" : Str) = some NameKind.local
/-- it stands in the def with the code object c, table P -/
structure GenTab (G : Cfg) (X : Cx) : Prop where
  tab : ∃ c P, LamX.TabB X.base X.mg c P ∧ X.env.code = .ref c ∧ (P, X.env.qual ++ "<genexpr>") ∈ G.lam ∧ ∀ x ∈ G.lam, x.1 = P → x.2 = X.env.qual ++ "<genexpr>"
section
variable {G : Cfg} {E : XK} {X : Cx} {pins : List (Addr × Obj)} {σ : L2.St} {H : Hp} {s : Shared} {p : List Addr} {ls : Ls} {st : Sto}
  {elt tg iter : Expr} {ifs : List Expr} {scope : Scope} {own : List (Str × Nat)} {pos : Pos} {w : SW} {t : SG} {u : SB} {f : SE}
theorem gen_make (hK : G.K = X.K) {Q' : Value → Shared → Prop} {R' : It → Hp → Prop} {kk : Nat} (hr : Room kk X.A) (TB : GenTab G X) (hc : X.calm = true) (hN : X.N.Nodup) (ok : GenOk X scope own)
    (hi : PI X tg iter (tI G E w)) (hs : ∀ v, genFold iter X.env v = pure v)
    (hg : ∀ (s4 : Shared) (H4 : Hp) (code : Value) (fp : List Addr), PG (genCx X s4 H4 scope code fp) tg (tGr G EN (RWip (own.map (·.2))) t))
    (ht : ∀ (s4 : Shared) (H4 : Hp) (code : Value) (fp : List Addr), PTs (genCx X s4 H4 scope code fp) ifs (tT G EN u))
    (he : ∀ (s4 : Shared) (H4 : Hp) (code : Value) (fp : List Addr), PE (genCx X s4 H4 scope code fp) elt (tE G EN f))
    (I : Inv X pins σ H s) (h : tI G E w σ H R')
    (hR : ∀ J H1, R' J H1 → ∃ p1 ls st1 k, Sim G p1 st1 H1 ∧ RepS G p1 H1 ls σ ∧ rW G p1 H1 k J ∧
      ∀ g : GP, g.Ok → g.G = G → g.X = X → g.pins = pins → g.k = k → g.t = t → g.u = u → g.f = f → g.ls = ls → g.σ = σ → g.vs = own.map (·.2) → ∀ H' s', Grow p1 H1 p1 H' → Sim G p1 st1 H' → g.Ready [] 0 p1 st1 H' s' → Q' (.ref g.ga) s') :
    wpAny (model X.prog X.w) X.A (eval (gCode elt tg iter ifs scope pos) X.env) Q' X.xe s := by
  obtain ⟨c, P, TB, hcode, hPg, hPl⟩ := TB
  have hfree : ∀ y ∈ scope.names, y.2 = .free → ∃ c, X.env.cells.lookup y.1 = some c := fun y hy e => by
    rcases ok.blk.free y hy e with k | k
    · exact I.ok.has _ (.inl k)
    · exact I.ok.has _ (.inr k)
  refine wpAny_GeneratorExp_make ok.co (closure_ok hfree) ok.cell ok.dot ok.blk.kind (by have := hr.dp; omega) ?_ hs
  refine thn (hi.run pins s σ H _ I h) fun xv s1 hx => thn hx fun itv s2 h2 => ?_
  obtain ⟨it, fp, tn, J, H2, e, I2, T, st2, f2, q⟩ := h2
  subst e
  obtain ⟨p1, ls, st1, k, S, L, rk, q⟩ := hR J H2 q
  obtain ⟨ps, hP, htr, hkn⟩ := S.tab.lam _ hPg
  have hP : H2 P = some (.tbl ps) := hP
  have hPs : s2.heap.get? P = some { cls := .none, data := .fields ps } := I2.hok P _ hP
  have cd : PySem.W.CodeHd s2.heap c P := TB.code.keeps fun b u e => I2.bk b u e
  refine ⟨I2.nolimit, ?_⟩
  have cont : ∀ (code : Value) (h3 : Heap) (tk : Nat) (H3 : Hp), Heap.ExtBut P s2.heap h3 → s2.heap.objs.size ≤ h3.objs.size → Inv X pins σ H3 { s2 with heap := h3, toks := tk } → Sim G p1 st1 H3 → Grow p1 H2 p1 H3 → (∀ b, b < s2.heap.objs.size → H2 b = none → H3 b = none) →
      wpAny (model X.prog X.w) X.A (builtinsFor X.env.globals X.env.builtins) (fun bi s₄ =>
        ∀ h', h'.Ns s₄.heap.objs.size (fun y => if y = ".0" then some (.ref it) else none) → Heap.SameBut s₄.heap.objs.size (s₄.heap.push { cls := .type "frame", data := .dict #[] }) h' →
          Q' (.ref h'.objs.size) { s₄ with
            gens := s₄.gens.push (.fresh (.compStart (.GeneratorExp elt [⟨tg, iter, ifs, 0⟩] scope pos) 0 (.ref it) .none (genEnv scope (cloFrom X.env.cells scope.names []) s₄.heap.objs.size code bi X.env))),
            toks := s₄.toks + 1 + 1 + 1,
            heap := h'.push { cls := .type "generator", data := .fields #[.int s₄.gens.size 0, .str "<genexpr>" (s₄.toks + 1), .str (X.env.qual ++ "<genexpr>") (s₄.toks + 1 + 1)] } }) X.xe { s2 with heap := h3, toks := tk } := by
    intro code h3 tk H3 hx hsz I3 S3 g3 hN3
    obtain ⟨bm, ob, e1, e2, e3, e4, e5, e6, e7, e8⟩ := TB.bm
    have keep3 : ∀ b u, b ≠ P → s2.heap.get? b = some u → h3.get? b = some u := fun b u hb e => hx b u hb e
    refine wpAny_builtinsFor (m := X.mg) (by rw [I2.ok.glob]; exact (I2.mod.glob.keeps I2.bk).extBut hx TB.gP) e1 e2 (keep3 _ _ e4 (I2.bk _ _ e5)) e6 e7 e8 ?_
    intro h' hn' hs'
    have nP : ∀ b ∈ fp, b ≠ P := fun b hb z => by
      have := (f2 b hb).1
      rw [z, hP] at this
      cases this
    have f3 : ∀ b ∈ fp, FpOk X pins H3 b ∧ b < h3.objs.size := fun b hb => by
      obtain ⟨o, e, _⟩ := T.obj _ _ st2 b hb
      refine ⟨⟨hN3 b (Heap.lt_size e) (f2 b hb).1, (f2 b hb).2⟩, ?_⟩
      exact Nat.lt_of_lt_of_le (Heap.lt_size e) hsz
    have hsz' : h'.objs.size = h3.objs.size + 1 := by
      have := hs'.1
      rw [Heap.size_push] at this
      exact this
    refine q (GP.mk G X { s2 with heap := h3, toks := tk } H3 p1 pins elt tg iter ifs scope pos code fp it h'.objs.size s2.gens.size
        { cls := .type "generator", data := .fields #[.int s2.gens.size 0, .str "<genexpr>" (tk + 1), .str (X.env.qual ++ "<genexpr>") (tk + 1 + 1)] } σ ls (own.map (·.2)) k t u f tn J)
      ⟨T, fun p H st g S i => rk p H st (g3.trans g) S i, L.grow g3, hg _ _ _ _, ht _ _ _ _, he _ _ _ _, ok.co, fun b hb => ?_, I3, fun b hb => (f3 b hb).1, ?_, hK, ⟨_, _, rfl⟩⟩ rfl rfl rfl rfl rfl rfl rfl rfl rfl rfl _ _ g3 S3 ⟨⟨?_, fun b hb => (f3 b hb).1.1, fun q hq => absurd hq (by simp), ?_, S3, Grow.refl _ _⟩, ?_⟩
    · show h'.objs.size ≠ b
      rw [hsz']
      exact Nat.ne_of_gt (Nat.lt_succ_of_lt (f3 b hb).2)
    · show h3.objs.size ≤ h'.objs.size
      rw [hsz']
      exact Nat.le_succ _
    · refine T.keep _ _ _ st2 fun b hb o e => ?_
      have e3 := keep3 b o (nP b hb) e
      exact Heap.get?_push_of_some _ (hs'.extBut b o (Nat.ne_of_lt (f3 b hb).2) (Heap.get?_push_of_some _ e3))
    · exact gen_start (code := code) (it := .ref it) (gs := .fresh _) (tk := tk + 1 + 1 + 1) I3 ok.blk hN ok.cell hr.hd f3 rfl hn' hs' (fun v z => by cases z) rfl
    · exact ⟨_, Array.getElem?_push_size .., .inl rfl⟩
  cases hf : codeAmong pos ps.toList with
  | none =>
    refine wpAny_genexprCodeX hcode (cd.code hPs htr) (cd.tab hPs) hf fun c' h' tk hx hge hlt hco' hrec htab' _ => ?_
    obtain ⟨c2, oc, vs, t0, e2, hoc, hd, hv⟩ := hrec
    cases e2
    have nC : H2 c' = none := I2.hok.fresh hge
    have I3 := LamX.inv_table (t' := tk) (more := #[rawInt pos.line, rawInt pos.col, .ref c']) (h' := h') (q := X.env.qual ++ "<genexpr>") I2 hP (fun b o hb e => hx b o hb e) htab'.2 hge ⟨oc, vs, t0, hoc, hd, hv⟩
    have hE : LamX.ExtN H2 (upd (upd H2 P (.tbl (ps ++ #[rawInt pos.line, rawInt pos.col, .ref c']))) c' (LamX.CodeO c' (X.env.qual ++ "<genexpr>"))) := fun b o e n => by
      rw [upd_ne (ne_of_none e nC), upd_ne (fun z => n ps (Option.some.inj (e.symm.trans (by rw [z]; exact hP))))]
      exact e
    have eL : (ps ++ #[rawInt pos.line, rawInt pos.col, .ref c']).toList = ps.toList ++ [rawInt pos.line, rawInt pos.col, .ref c'] := by simp
    have hT : LamX.Tabs G.lam (upd (upd H2 P (.tbl (ps ++ #[rawInt pos.line, rawInt pos.col, .ref c']))) c' (LamX.CodeO c' (X.env.qual ++ "<genexpr>"))) := fun p hp => by
      by_cases hb : p.1 = P
      · rw [hPl p hp hb, hb]
        refine ⟨_, by rw [upd_ne (ne_of_none hP nC), upd_same], by rw [eL]; exact PySem.TriplesOk_snoc _ _ _ _ htr, fun p' cv hcv => ?_⟩
        rw [eL] at hcv
        rcases LamX.among_app _ htr hcv with z | z
        · obtain ⟨c0, e1, e2⟩ := hkn p' cv z
          exact ⟨c0, e1, hE _ _ e2 LamX.codeO_ne⟩
        · exact ⟨c', z, upd_same⟩
      · obtain ⟨ps', a1, a2, a3⟩ := S.tab.lam p hp
        refine ⟨ps', by rw [upd_ne (ne_of_none a1 nC), upd_ne hb]; exact a1, a2, fun p' cv hcv => ?_⟩
        obtain ⟨c0, e1, e2⟩ := a3 p' cv hcv
        exact ⟨c0, e1, hE _ _ e2 LamX.codeO_ne⟩
    obtain ⟨S3, g3⟩ := S.extn hE hT
    refine cont _ h' tk _ hx (Nat.le_trans hge (Nat.le_of_lt hlt)) I3 S3 g3 fun b hb hn => ?_
    rw [upd_ne (Nat.ne_of_lt (Nat.lt_of_lt_of_le hb hge)), upd_ne (fun z => by rw [z, hP] at hn; cases hn)]
    exact hn
  | some cv =>
    refine wpAny_genexprCode_hit hcode (cd.code hPs htr) hf ?_
    exact cont cv s2.heap s2.toks H2 (Heap.ExtBut.refl _ _) (Nat.le_refl _) I2 S (Grow.refl _ _) fun b _ h => h
end
end R

/-! R11: what is gathered from a generator expression. -/
namespace R
open PySem L2
/-- values as data -/
def Held (G : Cfg) (p : List Addr) (H : Hp) (ds : List Dv) (us : List Value) : Prop := ∃ xs, Vals xs us ∧ RepL G.K p H ds xs
theorem Held.nil {G : Cfg} {p : List Addr} {H : Hp} : Held G p H [] [] := ⟨[], .nil, RepL.nil⟩
theorem Held.grow {G : Cfg} {p p' : List Addr} {H H' : Hp} {ds : List Dv} {us : List Value} (h : Held G p H ds us) (g : Grow p H p' H') : Held G p' H' ds us :=
  let ⟨xs, a, b⟩ := h; ⟨xs, a, RepL.grow g b⟩
theorem Held.snoc {G : Cfg} {p : List Addr} {H : Hp} {ds : List Dv} {us : List Value} {d : Dv} {x : V} {u : Value} (h : Held G p H ds us) (r : RelV x u) (q : Rep G.K p H d x) : Held G p H (ds ++ [d]) (us ++ [u]) :=
  let ⟨xs, a, b⟩ := h; ⟨xs ++ [x], Vals.append a (.cons r .nil), RepL.append b (RepL.cons q RepL.nil)⟩
theorem Held.length {G : Cfg} {p : List Addr} {H : Hp} {ds : List Dv} {us : List Value} (h : Held G p H ds us) : us.length = ds.length :=
  let ⟨xs, a, b⟩ := h; by rw [← a.length, RepL.length b]

/-- all that it yields -/
def gAll (k : Wk) (t : SG) (u : SB) (f : SE) (wp : Ls) : Nat → Nat → Sto → Option (List Dv × Sto)
  | 0, _, _ => none
  | n + 1, i, st => match gStep k t u f wp (k.len + 1) i st with
    | none => none
    | some (none, st') => some ([], st')
    | some (some (y, i'), st') => match gAll k t u f wp n i' st' with
      | none => none
      | some (ys, st'') => some (y :: ys, st'')
namespace GP
abbrev all (g : GP) (n i : Nat) (st : Sto) : Option (List Dv × Sto) := gAll g.k g.t g.u g.f (wipeL g.ls g.vs) n i st
theorem outer {g : GP} (o : g.Ok) {pl : List (Addr × Obj)} {σ : L2.St} {H : Hp} {s : Shared} (I : L2.Inv g.C pl σ H s) : L2.Inv g.X g.pins g.σ H s :=
  o.inv4.call' (ch := g.fp) I.os I.base I.hok I.bare fun b hb => ⟨(o.fp4 b hb).2.2.2.1, (o.fp4 b hb).2.1, (o.fp4 b hb).2.2.2.2.1, (o.fp4 b hb).2.2.2.2.2⟩
/-- the young thing at S is laid beside -/
theorem Ready.push {g : GP} (o : g.Ok) {i : Nat} {p : List Addr} {st : Sto} {H : Hp} {s : Shared} {ob : Obj} {tk : Nat} (a : g.Ready [] i p st H s) (hf : ob.isFreed = false) (hc : ∀ v, ob.data ≠ .cell v) :
    g.Ready [(s.heap.objs.size, ob)] i p st H { s with heap := s.heap.push ob, toks := tk } := by
  obtain ⟨⟨tn, nfp, npn, I, S, gr⟩, q⟩ := a
  have I' := I.kept (h' := s.heap.push ob) (t' := tk) fun b u e => Heap.get?_push_of_some _ e
  have hn : H s.heap.objs.size = none := I.hok.fresh (Nat.le_refl _)
  have F := I.fpOk (Nat.le_refl _) hn
  refine ⟨⟨o.turn.keep _ _ _ tn fun b _ u e => Heap.get?_push_of_some _ e, nfp, fun q hq b hb => ?_, I'.pins_of fun q hq => ?_, S, gr⟩, q⟩
  · rw [List.mem_singleton.mp hq]
    obtain ⟨u, e, _⟩ := o.turn.obj _ _ tn b hb
    exact Nat.ne_of_gt (Heap.lt_size e)
  · rcases List.mem_cons.mp hq with e | hq
    · rw [e]; exact I'.pin _ (List.mem_append_right _ (List.mem_cons_self))
    · rw [List.mem_singleton.mp hq]
      exact ⟨Heap.get?_push_size _ hf, hn, F.2.1, F.2.2.1, hc⟩
/-- it is written -/
theorem Ready.put {g : GP} (o : g.Ok) {i : Nat} {p : List Addr} {st : Sto} {H : Hp} {s : Shared} {S : Addr} {ob ob' : Obj} {h' : Heap} {tk : Nat} (a : g.Ready [(S, ob)] i p st H s) (hS : g.s4.heap.objs.size ≤ S) (hg : g.ga ≠ S)
    (hk : ∀ b u, b ≠ S → s.heap.get? b = some u → h'.get? b = some u) (hs : h'.get? S = some ob') (hc : ∀ v, ob'.data ≠ .cell v) : g.Ready [(S, ob')] i p st H { s with heap := h', toks := tk } := by
  obtain ⟨⟨tn, nfp, npn, I, Si, gr⟩, q⟩ := a
  obtain ⟨e1, e2, e3, e4, e5⟩ := I.pin (S, ob) (List.mem_append_right _ (List.mem_cons_of_mem _ (List.mem_cons_self)))
  have J : L2.Inv g.C [(g.ga, g.go)] (L2.wipe g.σ g.vs) H s := I.pins_of fun q hq => by
    rw [List.mem_singleton.mp hq]; exact I.pin _ (List.mem_append_right _ (List.mem_cons_self))
  have J' := J.turned (t' := tk) hk e2 e3 (.inr hS) (fun x c e z => by
    obtain ⟨v, u, hu, hd⟩ := I.cell x c e
    rw [z, e1] at hu
    cases hu
    exact e5 v hd) (fun q hq => by
    have hq : q ∈ [(g.ga, g.go)] := by simpa [genCx] using hq
    rw [List.mem_singleton.mp hq]; exact hg)
  refine ⟨⟨o.turn.keep _ _ _ tn fun b hb u e => hk b u (fun z => npn _ (List.mem_singleton.mpr rfl) b hb z.symm) e, nfp, fun q hq b hb => ?_, J'.pins_of fun q hq => ?_, Si, gr⟩, q⟩
  · rw [List.mem_singleton.mp hq]; exact npn _ (List.mem_singleton.mpr rfl) b hb
  · rcases List.mem_cons.mp hq with e | hq
    · rw [e]; exact J'.pin _ (List.mem_append_right _ (List.mem_cons_self))
    · rw [List.mem_singleton.mp hq]
      exact ⟨hs, e2, e3, e4, hc⟩
/-- where it may be asked for the next -/
def Nxt (g : GP) (B : Around) : Prop := ∀ {Q : Option Value → Shared → Prop} {E : Value → Shared → Prop} {s : Shared}, wpAny (model g.X.prog g.X.w) g.X.A.in4 (pyNext (.ref g.ga)) Q E s → wpAny (model g.X.prog g.X.w) B (pyNext (.ref g.ga)) Q E s
theorem nxt4 (g : GP) : g.Nxt g.X.A.in4 := fun h => h
theorem nxt3 (g : GP) : g.Nxt g.X.A.in1.in1.in1 := fun h => wpAny_of_in1 h
theorem nxt2 (g : GP) : g.Nxt g.X.A.in1.in1 := fun h => wpAny_of_in1 (nxt3 g h)
theorem nxt1 (g : GP) : g.Nxt g.X.A.in1 := fun h => wpAny_of_in1 (nxt2 g h)
/-- room for a generator -/
def Rm (g : GP) : Prop := g.X.A.handled = none ∧ g.X.A.depth < recursionLimit
abbrev lObj (acc : Array Value) (c : Nat) : Obj := { cls := .type "list", dict := none, data := .seq acc c, slots := #[] }
theorem extend {g : GP} (o : g.Ok) (hr : g.Rm) {A : Around} (hA : g.Nxt A.in1) {S : Addr} (hS : g.s4.heap.objs.size ≤ S) (hg : g.ga ≠ S) {res : Value} {R : Result → Shared → Prop} : ∀ (n i : Nat) (st : Sto) (p : List Addr) (H : Hp) (s : Shared) (acc : Array Value) (c : Nat) (ds0 ds : List Dv) (st' : Sto),
    g.all n i st = some (ds, st') → g.Ready [(S, lObj acc c)] i p st H s → Held g.G p H ds0 acc.toList → ds0.length + ds.length ≤ sizeLine →
    (∀ s' acc' c' p' H', g.Over [(S, lObj acc' c')] p' st' H' s' → Grow p H p' H' → Held g.G p' H' (ds0 ++ ds) acc'.toList → R (.ok (.ret res)) s') →
    codeAny (model g.X.prog g.X.w) A (.builtin "list.extend.loop" ⟨[.ref S, .ref g.ga, res], []⟩) R s := by
  intro n
  induction n with
  | zero => intro i st p H s acc c ds0 ds st' e; cases e
  | succ n ih =>
    intro i st p H s acc c ds0 ds st' e a hh hz hR
    have e' : (match g.step (g.k.len + 1) i st with
      | none => none
      | some (none, st') => some ([], st')
      | some (some (y, i'), st') => match g.all n i' st' with
        | none => none
        | some (ys, st'') => some (y :: ys, st'')) = some (ds, st') := e
    refine codeAny_builtin F.entry_extend_loop ?_
    rw [Around.under_plainId F.plain_extend_loop _]
    show wpAny _ A.in1 (pyNext (.ref g.ga) >>= _) _ _ s
    cases es : g.step (g.k.len + 1) i st with
    | none => rw [es] at e'; cases e'
    | some r =>
      obtain ⟨ro, st1⟩ := r
      refine wpAny_bind (hA (GP.next o hr.1 hr.2 es a ⟨fun y i' st2 er v s' p' H' dv a' g' rv ry => ?_, fun st2 er s' p' H' f' g' => ?_⟩))
      · cases er
        rw [es] at e'
        have e' : (match g.all n i' st1 with
        | none => none
        | some (ys, st'') => some (y :: ys, st'')) = some (ds, st') := e'
        cases ea : g.all n i' st1 with
        | none => rw [ea] at e'; cases e'
        | some q =>
          obtain ⟨ys, st3⟩ := q
          rw [ea] at e'
          cases e'
          have hS' := (a'.at_.inv.pin (S, lObj acc c) (List.mem_append_right _ (List.mem_cons_of_mem _ (List.mem_cons_self)))).1
          have hl : acc.size = ds0.length := by have := hh.length; simpa using this
          have hz' : ds0.length + (ys.length + 1) ≤ sizeLine := hz
          show wpAny _ A.in1 (updateSeq S (·.push v) >>= _) _ _ _
          refine wpAny_bind ?_
          refine wpAny_updateSeq hS' rfl ?_ (by rw [hl]; omega) (by show (acc.push v).size ≤ sizeLine + 1; rw [Array.size_push, hl]; omega)
          have hp := Heap.get?_update_self (Obj.mapSeq (·.push v)) hS' rfl
          refine wpAny_pure ⟨plainId_quiet F.plain_extend_loop _, ?_⟩
          refine ih i' st1 p' H' _ (acc.push v) _ (ds0 ++ [y]) ys st' ea (Ready.put (tk := s'.toks) o a' hS hg (fun b u hb e => (Heap.get?_update_other _ _ (Ne.symm hb)).trans e) hp fun v z => by cases z) ?_ (by rw [List.length_append, List.length_singleton]; omega) fun s'' acc' c' p'' H'' f'' g'' h'' => ?_
          · have := (hh.grow g').snoc rv ry
            simpa using this
          · exact hR s'' acc' c' p'' H'' f'' (g'.trans g'') (by simpa using h'')
      · cases er
        rw [es] at e'
        cases e'
        exact wpAny_pure (hR s' acc c p' H' f' g' (by simpa using hh.grow g'))
theorem isTy {g : GP} (o : g.Ok) {pn i p st H s} (a : g.Ready pn i p st H s) : s.TypeIs (.ref g.ga) "generator" := (isGen o a.at_.inv).typeIs
theorem collect {g : GP} (o : g.Ok) (hr : g.Rm) {A : Around} (hA : g.Nxt A.in1) {Q : List Value → Shared → Prop} {E : Value → Shared → Prop} {n : Nat} {st : Sto} {p : List Addr} {H : Hp} {s : Shared} {ds : List Dv} {st' : Sto}
    (e : g.all n 0 st = some (ds, st')) (a : g.Ready [] 0 p st H s) (hz : ds.length ≤ sizeLine) (hQ : ∀ s' us p' H', g.Over [] p' st' H' s' → Grow p H p' H' → Held g.G p' H' ds us → Q us s') : wpAny (model g.X.prog g.X.w) A (PySem.collect (.ref g.ga)) Q E s := by
  have hgl : g.ga < s.heap.objs.size := by
    obtain ⟨_, _, _, ho, _⟩ := isGen o a.at_.inv
    exact Heap.lt_size ho
  have hSg : s.heap.objs.size ≠ g.ga := Nat.ne_of_gt hgl
  have hS4 : g.s4.heap.objs.size ≤ s.heap.objs.size := a.at_.inv.sz
  unfold PySem.collect
  refine wpAny_bind (wpAny_runValue ?_)
  refine codeAny_builtin F.entry_proto_collect ?_
  rw [Around.under_plainId F.plain_proto_collect _]
  show wpAny _ A.in1 (newList [] >>= fun l => PySem.again (.builtin "list.__iadd__" ⟨[l, .ref g.ga], []⟩)) _ _ s
  refine wpAny_bind (wpAny_newObj_type ?_)
  refine wpAny_pure ⟨plainId_quiet F.plain_list_iadd _, ?_⟩
  refine codeAny_builtin F.entry_list_iadd ?_
  rw [Around.under_plainId F.plain_list_iadd _]
  have a1 := Ready.push (ob := lObj ([] : List Value).toArray 0) (tk := s.toks) o a rfl fun v z => by cases z
  have hT := isTy o a1
  show wpAny _ A.in1 (Builtin.List.listExtendWith (.ref s.heap.objs.size) (.ref g.ga) (.ref s.heap.objs.size)) _ _ _
  unfold Builtin.List.listExtendWith
  refine wpAny_bind (wpAny_typeOf hT ?_)
  have h1 : Builtin.List.listSameRef (.ref s.heap.objs.size) (.ref g.ga) = false := by simp [Builtin.List.listSameRef, hSg]
  have h2 : (Value.type "generator" == Value.type "list") = false ∧ (Value.type "generator" == Value.type "tuple") = false := by decide
  simp only [h1, h2.1, h2.2, Bool.or_false, Bool.false_eq_true, if_false]
  refine wpAny_bind (wpAny_pyIter_gen (isGen o a1.at_.inv) ?_)
  refine wpAny_bind (wpAny_holding ?_)
  unfold Builtin.List.listLengthHint
  refine wpAny_bind (wpAny_specialOf hT F.gen_no_len ?_)
  show wpAny _ A.in1 (specialOf (Value.ref g.ga) (Str.ofString "__length_hint__") >>= _) _ _ _
  refine wpAny_bind (wpAny_specialOf hT F.gen_no_hint ?_)
  refine wpAny_pure ?_
  show wpAny _ A.in1 (rule "list.extend.makes-room" >>= fun _ => Builtin.List.listTouch (.ref s.heap.objs.size) >>= fun _ => PySem.again (.builtin "list.extend.loop" ⟨[.ref s.heap.objs.size, .ref g.ga, .ref s.heap.objs.size], []⟩)) _ _ _
  refine wpAny_bind (wpAny_rule ?_)
  have hS₁ := (a1.at_.inv.pin (s.heap.objs.size, lObj ([] : List Value).toArray 0) (List.mem_append_right _ (List.mem_cons_of_mem _ (List.mem_cons_self)))).1
  refine wpAny_bind ?_
  show wpAny _ A.in1 (updateSeq s.heap.objs.size (·.push .none) >>= fun _ => updateSeq s.heap.objs.size (·.pop)) _ _ _
  refine wpAny_bind (wpAny_updateSeq hS₁ rfl ?_)
  have hS₂ := Heap.get?_update_self (Obj.mapSeq (·.push Value.none)) hS₁ rfl
  refine wpAny_updateSeq hS₂ rfl ?_
  have hS₃ := Heap.get?_update_self (Obj.mapSeq (·.pop)) hS₂ rfl
  have a2 := Ready.put (tk := s.toks) o a1 hS4 (Ne.symm hSg) (fun b u hb e => (Heap.get?_update_other _ _ (Ne.symm hb)).trans ((Heap.get?_update_other _ _ (Ne.symm hb)).trans e)) hS₃ fun v z => by cases z
  refine wpAny_pure ⟨plainId_quiet F.plain_extend_loop _, ?_⟩
  refine extend o hr hA hS4 (Ne.symm hSg) n 0 st p H _ #[] _ [] ds st' e a2 Held.nil (by simpa using hz) fun s' acc' c' p' H' f' g' h' => ?_
  show wpAny _ A (load s.heap.objs.size >>= _) _ _ s'
  have hS' := (f'.inv.pin (s.heap.objs.size, lObj acc' c') (List.mem_append_right _ (List.mem_cons_of_mem _ (List.mem_cons_self)))).1
  refine wpAny_bind (wpAny_load hS' ?_)
  refine wpAny_pure (hQ s' _ p' H' ⟨f'.inv.pins_of fun q hq => ?_, f'.sim, f'.gr⟩ g' (by simpa using h'))
  rw [List.mem_singleton.mp hq]; exact f'.inv.pin _ (List.mem_append_right _ (List.mem_cons_self))
end GP
end R

/-! R12: any, all, sum, tuple of a generator expression. -/
namespace R
open PySem L2
/-- the run of what consumes a generator expression -/
abbrev GD := Wk → SG → SB → SE → Ls → Sto → Mo Dv
def ConR (f : Value) (d : GD) : Prop := ∀ (g : GP) (_ : g.Ok) (_ : g.Rm) (E : XK) (p : List Addr) (st : Sto) (H : Hp) (s : Shared) (Q : VK), g.Ready [] 0 p st H s → g.X.A.units + 64 < cLine → Pend g.G E (rD g.G) p H (d g.k g.t g.u g.f (wipeL g.ls g.vs) st) Q →
  wpAny (model g.X.prog g.X.w) g.X.A (call f [.ref g.ga]) (EP g.X g.pins g.σ Q) g.X.xe s
def eGen (w : SW) (d : GD) (t : SG) (u : SB) (f : SE) (vs : List Nat) : SE := fun ls st => (w ls st).bind fun k st1 => d k t u f (wipeL ls vs) st1
section
variable {G : Cfg} {E : XK} {X : Cx} {elt tg iter : Expr} {ifs : List Expr} {scope : Scope} {own : List (Str × Nat)} {gpos pos pp : Pos} {w : SW} {t : SG} {u : SB} {f : SE} {d : GD} {kk : Nat} {x : Str}
theorem r_gen {fv : Value} (hK : G.K = X.K) (hcon : ConR fv d) (hr : Room kk X.A) (TB : GenTab G X) (hc : X.calm = true) (hN : X.N.Nodup) (ok : GenOk X scope own)
    (hi : PI X tg iter (tI G E w)) (hs : ∀ v, genFold iter X.env v = pure v)
    (hg : ∀ (s4 : Shared) (H4 : Hp) (code : Value) (fp : List Addr), PG (genCx X s4 H4 scope code fp) tg (tGr G EN (RWip (own.map (·.2))) t))
    (ht : ∀ (s4 : Shared) (H4 : Hp) (code : Value) (fp : List Addr), PTs (genCx X s4 H4 scope code fp) ifs (tT G EN u))
    (he : ∀ (s4 : Shared) (H4 : Hp) (code : Value) (fp : List Addr), PE (genCx X s4 H4 scope code fp) elt (tE G EN f))
    {pins : List (Addr × Obj)} {s : Shared} {σ : L2.St} {H : Hp} {Q : VK} (I : Inv X pins σ H s) (h : tE G E (eGen w d t u f (own.map (·.2))) σ H Q) :
    wpAny (model X.prog X.w) X.A (eval (gCode elt tg iter ifs scope gpos) X.env) (fun v s' => wpAny (model X.prog X.w) X.A (call fv [v]) (EP X pins σ Q) X.xe s') X.xe s := by
  obtain ⟨p, ls, st, S, L, q⟩ := h
  refine gen_make hK (R' := fun J H1 => ∃ p1 st1 k, Sim G p1 st1 H1 ∧ RepS G p1 H1 ls σ ∧ rW G p1 H1 k J ∧ Pend G E (rD G) p1 H1 (d k t u f (wipeL ls (own.map (·.2))) st1) Q) hr TB hc hN ok hi hs hg ht he I ?_ fun J H1 ⟨p1, st1, k, S1, L1, rk, q1⟩ => ?_
  · exact tM_bind S L q fun p1 st1 k J H1 S1 g1 L1 rk q1 => ⟨p1, st1, k, S1, L1, rk, q1⟩
  · refine ⟨p1, ls, st1, k, S1, L1, rk, fun g o e1 e2 e3 e4 e5 e6 e7 e8 e9 e10 H' s' gr S' a => ?_⟩
    have hrm : g.Rm := by rw [GP.Rm, e2]; exact ⟨hr.hd, by have := hr.dp; omega⟩
    obtain ⟨r9, st9, h9, f9⟩ := q1
    have := hcon g o hrm E p1 st1 H' s' Q a (by rw [e2]; have := hr.un; omega) (by
      rw [e1, e4, e5, e6, e7, e8, e10]
      exact ⟨r9, st9, h9, fun p3 H3 g3 S3 => f9 p3 H3 (gr.trans g3) S3⟩)
    rw [e2, e3, e9] at this
    exact this
theorem r_genB {id : String} (hcon : ConR (.builtin id) d) (hg0 : Gl X x) (hm : X.mg x = none) (hv : bootBuiltins x = some (.builtin id)) (hr : Room kk X.A) (TB : GenTab G X) (hc : X.calm = true) (hN : X.N.Nodup) (ok : GenOk X scope own)
    (hi : PI X tg iter (tI G E w))
    (hg : ∀ (s4 : Shared) (H4 : Hp) (code : Value) (fp : List Addr), PG (genCx X s4 H4 scope code fp) tg (tGr G EN (RWip (own.map (·.2))) t))
    (ht : ∀ (s4 : Shared) (H4 : Hp) (code : Value) (fp : List Addr), PTs (genCx X s4 H4 scope code fp) ifs (tT G EN u))
    (he : ∀ (s4 : Shared) (H4 : Hp) (code : Value) (fp : List Addr), PE (genCx X s4 H4 scope code fp) elt (tE G EN f))
    (hs : ∀ v, genFold iter X.env v = pure v := by intro _; rfl) (hK : G.K = X.K := by rfl) (hn : x ≠ "__name__" := by decide) (hdb : (x == ("__debug__" : Str)) = false := by decide)
    (hst : starEach [gCode elt tg iter ifs scope gpos] X.env = (false, eval (gCode elt tg iter ifs scope gpos) X.env) :: starEach [] X.env := by rfl) :
    PE X (.Call (.Name x pp) [gCode elt tg iter ifs scope gpos] [] pos) (tE G E (eGen w d t u f (own.map (·.2)))) := by
  refine ⟨fun pins s σ H Q I h => ?_⟩
  refine wpAny_Call_Name_kw (ld_blt I hg0 hm hv ?_ hn hdb)
  refine PyProof.Rows.callWith_builtin1 ?_ hst (by rfl)
  rw [hst]
  show wpAny _ _ (spliced ((false, eval (gCode elt tg iter ifs scope gpos) X.env) :: backTo pos (starEach [] X.env))) _ _ s
  exact Calls.spliced_cons (thn (r_gen hK hcon hr TB hc hN ok hi hs hg ht he I h) fun v s' hv => Calls.spliced_nil hv)
theorem r_genT {T : String} (hcon : ConR (.type T) d) (hg0 : Gl X x) (hm : X.mg x = none) (hv : bootBuiltins x = some (.type T)) (hr : Room kk X.A) (TB : GenTab G X) (hc : X.calm = true) (hN : X.N.Nodup) (ok : GenOk X scope own)
    (hi : PI X tg iter (tI G E w))
    (hg : ∀ (s4 : Shared) (H4 : Hp) (code : Value) (fp : List Addr), PG (genCx X s4 H4 scope code fp) tg (tGr G EN (RWip (own.map (·.2))) t))
    (ht : ∀ (s4 : Shared) (H4 : Hp) (code : Value) (fp : List Addr), PTs (genCx X s4 H4 scope code fp) ifs (tT G EN u))
    (he : ∀ (s4 : Shared) (H4 : Hp) (code : Value) (fp : List Addr), PE (genCx X s4 H4 scope code fp) elt (tE G EN f))
    (hs : ∀ v, genFold iter X.env v = pure v := by intro _; rfl) (hK : G.K = X.K := by rfl) (hn : x ≠ "__name__" := by decide) (hdb : (x == ("__debug__" : Str)) = false := by decide)
    (hst : starEach [gCode elt tg iter ifs scope gpos] X.env = (false, eval (gCode elt tg iter ifs scope gpos) X.env) :: starEach [] X.env := by rfl) :
    PE X (.Call (.Name x pp) [gCode elt tg iter ifs scope gpos] [] pos) (tE G E (eGen w d t u f (own.map (·.2)))) := by
  refine ⟨fun pins s σ H Q I h => ?_⟩
  refine wpAny_Call_Name_kw (ld_blt I hg0 hm hv ?_ hn hdb)
  refine PyProof.Rows.callWith_type1 ?_ hst (by rfl)
  rw [hst]
  show wpAny _ _ (spliced ((false, eval (gCode elt tg iter ifs scope gpos) X.env) :: backTo pos (starEach [] X.env))) _ _ s
  exact Calls.spliced_cons (thn (r_gen hK hcon hr TB hc hN ok hi hs hg ht he I h) fun v s' hv => Calls.spliced_nil hv)
end

/-! ### any, all -/
/-- does it yield z -/
def gHas (z : Bool) (k : Wk) (t : SG) (u : SB) (f : SE) (wp : Ls) : Nat → Nat → Sto → Mo Dv
  | 0, _, _ => none
  | n + 1, i, st => match gStep k t u f wp (k.len + 1) i st with
    | some (none, st') => rOk (.bl (!z)) st'
    | some (some (.bl b, i'), st') => if b = z then rOk (.bl z) st' else gHas z k t u f wp n i' st'
    | _ => none
def gdHas (z : Bool) : GD := fun k t u f wp st => gHas z k t u f wp (k.len + 1) 0 st
theorem rep_bl' {K : PySem.W.Frag} {p : List Addr} {H : Hp} {b : Bool} {v : V} {u : Value} (h : Rep K p H (.bl b) v) (r : RelV v u) : u = .bool b := by
  have := rep_bl h
  rw [this] at r
  exact r
section
variable {g : GP} {E : XK}
theorem any_loop (o : g.Ok) (hr : g.Rm) {A : Around} (hA : g.Nxt A.in1) {R : Result → Shared → Prop} {Q : VK} (hR : ∀ v s', EP g.X g.pins g.σ Q v s' → R (.ok (.ret v)) s') : ∀ (n i : Nat) (st : Sto) (p : List Addr) (H : Hp) (s : Shared), g.Ready [] i p st H s →
    Pend g.G E (rD g.G) p H (gHas true g.k g.t g.u g.f (wipeL g.ls g.vs) n i st) Q → codeAny (model g.X.prog g.X.w) A (.builtin "any.loop" ⟨[.ref g.ga], []⟩) R s := by
  intro n
  induction n with
  | zero => intro i st p H s a q; exact q.no
  | succ n ih =>
    intro i st p H s a q
    unfold gHas at q
    refine codeAny_builtin F.entry_any_loop ?_
    rw [Around.under_plainId F.plain_any_loop _]
    show wpAny _ A.in1 (pyNext (.ref g.ga) >>= _) _ _ s
    cases es : gStep g.k g.t g.u g.f (wipeL g.ls g.vs) (g.k.len + 1) i st with
    | none => rw [es] at q; exact q.no
    | some r =>
      rw [es] at q
      obtain ⟨ro, st1⟩ := r
      refine wpAny_bind (hA (GP.next o hr.1 hr.2 es a ⟨fun y i' st2 er v s' p' H' dv a' g' rv ry => ?_, fun st2 er s' p' H' f' g' => ?_⟩))
      · cases er
        cases y with
        | bl b =>
          obtain rfl := rep_bl' ry rv
          refine wpAny_bind (wpAny_holding (wpAny_truthy_bool ?_))
          refine wpAny_bind (wpAny_letGo ?_)
          cases b with
          | true =>
            simp only [if_true] at q ⊢
            refine wpAny_bind (wpAny_rule (wpAny_pure ?_))
            exact hR _ _ ⟨.bl true, H', GP.outer o a'.at_.inv, rfl, q.now a'.at_.sim g' rfl⟩
          | false =>
            simp only [Bool.false_eq_true, if_false] at q ⊢
            obtain ⟨r9, st9, h9, f9⟩ := q
            exact wpAny_pure ⟨plainId_quiet F.plain_any_loop _, ih i' st1 p' H' s' a' ⟨r9, st9, h9, fun p3 H3 g3 S3 => f9 p3 H3 (g'.trans g3) S3⟩⟩
        | _ => exact q.no
      · cases er
        refine wpAny_bind (wpAny_rule (wpAny_pure ?_))
        exact hR _ _ ⟨.bl false, H', GP.outer o f'.inv, rfl, q.now f'.sim g' rfl⟩
theorem all_loop (o : g.Ok) (hr : g.Rm) {A : Around} (hA : g.Nxt A.in1) {R : Result → Shared → Prop} {Q : VK} (hR : ∀ v s', EP g.X g.pins g.σ Q v s' → R (.ok (.ret v)) s') : ∀ (n i : Nat) (st : Sto) (p : List Addr) (H : Hp) (s : Shared), g.Ready [] i p st H s →
    Pend g.G E (rD g.G) p H (gHas false g.k g.t g.u g.f (wipeL g.ls g.vs) n i st) Q → codeAny (model g.X.prog g.X.w) A (.builtin "all.loop" ⟨[.ref g.ga], []⟩) R s := by
  intro n
  induction n with
  | zero => intro i st p H s a q; exact q.no
  | succ n ih =>
    intro i st p H s a q
    unfold gHas at q
    refine codeAny_builtin F.entry_all_loop ?_
    rw [Around.under_plainId F.plain_all_loop _]
    show wpAny _ A.in1 (pyNext (.ref g.ga) >>= _) _ _ s
    cases es : gStep g.k g.t g.u g.f (wipeL g.ls g.vs) (g.k.len + 1) i st with
    | none => rw [es] at q; exact q.no
    | some r =>
      rw [es] at q
      obtain ⟨ro, st1⟩ := r
      refine wpAny_bind (hA (GP.next o hr.1 hr.2 es a ⟨fun y i' st2 er v s' p' H' dv a' g' rv ry => ?_, fun st2 er s' p' H' f' g' => ?_⟩))
      · cases er
        cases y with
        | bl b =>
          obtain rfl := rep_bl' ry rv
          refine wpAny_bind (wpAny_holding (wpAny_truthy_bool ?_))
          refine wpAny_bind (wpAny_letGo ?_)
          cases b with
          | false =>
            simp only [Bool.false_eq_true, if_true, if_false] at q ⊢
            refine wpAny_bind (wpAny_rule (wpAny_pure ?_))
            exact hR _ _ ⟨.bl false, H', GP.outer o a'.at_.inv, rfl, q.now a'.at_.sim g' rfl⟩
          | true =>
            simp only [Bool.true_eq_false, if_true, if_false] at q ⊢
            obtain ⟨r9, st9, h9, f9⟩ := q
            exact wpAny_pure ⟨plainId_quiet F.plain_all_loop _, ih i' st1 p' H' s' a' ⟨r9, st9, h9, fun p3 H3 g3 S3 => f9 p3 H3 (g'.trans g3) S3⟩⟩
        | _ => exact q.no
      · cases er
        refine wpAny_bind (wpAny_rule (wpAny_pure ?_))
        exact hR _ _ ⟨.bl true, H', GP.outer o f'.inv, rfl, q.now f'.sim g' rfl⟩
theorem con_any : ConR (.builtin "any") (gdHas true) := by
  intro g o hr E p st H s Q a hu q
  refine call_function_tree F.kind_any F.plain_any F.entry_any (F.args_any1 _) ?_
  unfold Builtin.«any»
  refine wpAny_bind (m := oneArg "any" _) (wpAny_pure ?_)
  refine wpAny_bind (wpAny_pyIter_gen (GP.isGen o a.at_.inv) ?_)
  exact wpAny_pure ⟨plainId_quiet F.plain_any_loop _, any_loop (Q := Q) o hr (GP.nxt1 g) (fun v s' h => h) _ 0 st p H s a q⟩
theorem con_all : ConR (.builtin "all") (gdHas false) := by
  intro g o hr E p st H s Q a hu q
  refine call_function_tree F.kind_all F.plain_all F.entry_all (F.args_all1 _) ?_
  unfold Builtin.«all»
  refine wpAny_bind (m := oneArg "all" _) (wpAny_pure ?_)
  refine wpAny_bind (wpAny_pyIter_gen (GP.isGen o a.at_.inv) ?_)
  exact wpAny_pure ⟨plainId_quiet F.plain_all_loop _, all_loop (Q := Q) o hr (GP.nxt1 g) (fun v s' h => h) _ 0 st p H s a q⟩
end
end R

/-! R13: sum, tuple of a generator expression. -/
namespace R
open PySem L2
/-- the sum, each step within a C long -/
def gSum (k : Wk) (t : SG) (u : SB) (f : SE) (wp : Ls) : Nat → Nat → Sto → Int → Mo Dv
  | 0, _, _, _ => none
  | n + 1, i, st, a => match gStep k t u f wp (k.len + 1) i st with
    | some (none, st') => rOk (.int a) st'
    | some (some (.int b, i'), st') => if (-(2 ^ 63) ≤ b ∧ b < 2 ^ 63) ∧ -(2 ^ 63) ≤ a + b ∧ a + b < 2 ^ 63 then gSum k t u f wp n i' st' (a + b) else none
    | _ => none
def gdSum : GD := fun k t u f wp st => gSum k t u f wp (k.len + 1) 0 st 0
section
variable {g : GP} {E : XK}
theorem sum_loop (o : g.Ok) (hr : g.Rm) {A : Around} (hA : g.Nxt A.in1) {S : Addr} (hS : g.s4.heap.objs.size ≤ S) (hg : g.ga ≠ S) {R : Result → Shared → Prop} {Q : VK} (hR : ∀ v s', EP g.X g.pins g.σ Q v s' → R (.ok (.ret v)) s') : ∀ (n i : Nat) (st : Sto) (a : Int) (tA : Tok) (c : Nat) (p : List Addr) (H : Hp) (s : Shared),
    g.Ready [(S, GP.lObj #[.int a tA] c)] i p st H s →
    Pend g.G E (rD g.G) p H (gSum g.k g.t g.u g.f (wipeL g.ls g.vs) n i st a) Q → codeAny (model g.X.prog g.X.w) A (.builtin "sum.loop" ⟨[.ref g.ga, .ref S, rawInt 0, rawInt 0], []⟩) R s := by
  intro n
  induction n with
  | zero => intro i st a tA c p H s _ q; exact q.no
  | succ n ih =>
    intro i st a tA c p H s rd q
    unfold gSum at q
    refine codeAny_builtin F.entry_sum_loop ?_
    rw [Around.under_plainId F.plain_sum_loop _]
    have hS0 := (rd.at_.inv.pin (S, GP.lObj #[.int a tA] c) (List.mem_append_right _ (List.mem_cons_of_mem _ (List.mem_cons_self)))).1
    show wpAny _ A.in1 (seqItems? (.ref S) >>= _) _ _ s
    refine wpAny_bind (wpAny_seqItems hS0 rfl ?_)
    show wpAny _ A.in1 (tryCatch (pyNext (.ref g.ga)) _ >>= _) _ _ s
    cases es : gStep g.k g.t g.u g.f (wipeL g.ls g.vs) (g.k.len + 1) i st with
    | none => rw [es] at q; exact q.no
    | some r =>
      rw [es] at q
      obtain ⟨ro, st1⟩ := r
      refine wpAny_bind (wpAny_tryCatch (hA (GP.next o hr.1 hr.2 es rd ⟨fun y i' st2 er v s' p' H' dv a' g' rv ry => ?_, fun st2 er s' p' H' f' g' => ?_⟩)))
      · cases er
        cases y with
        | int b =>
          have e1 := rep_int ry
          subst e1
          obtain ⟨tb, rfl⟩ := _root_.id rv
          obtain ⟨hz, q1⟩ := q.ifT
          have hS' := (a'.at_.inv.pin (S, GP.lObj #[.int a tA] c) (List.mem_append_right _ (List.mem_cons_of_mem _ (List.mem_cons_self)))).1
          have hc : ((decide (-(2 ^ 63) ≤ b) && decide (b < 2 ^ 63)) && (decide (-(2 ^ 63) ≤ a + b) && decide (a + b < 2 ^ 63))) = true := by
            simp only [Bool.and_eq_true, decide_eq_true_eq]
            exact hz
          show wpAny _ A.in1 (if (_ : Bool) = true then (mkInt (a + b) >>= _) else _) _ _ _
          split
          · refine wpAny_bind (wpAny_mkInt ?_)
            show wpAny _ A.in1 (updateSeq S (fun _ => #[.int (a + b) s'.toks]) >>= _) _ _ _
            refine wpAny_bind ?_
            refine wpAny_updateSeq hS' rfl ?_
            obtain ⟨r9, st9, h9, f9⟩ := q1
            refine wpAny_pure ⟨plainId_quiet F.plain_sum_loop _, ih i' st1 (a + b) s'.toks _ p' H' _ (GP.Ready.put (s := s') (tk := s'.toks + 1) o a' hS hg (fun b u hb e => (Heap.get?_update_other _ _ (Ne.symm hb)).trans e) (Heap.get?_update_self _ hS' rfl) fun v z => by cases z) ⟨r9, st9, h9, fun p3 H3 g3 S3 => f9 p3 H3 (g'.trans g3) S3⟩⟩
          · rename_i hneg
            exact absurd hc hneg
        | _ => exact q.no
      · cases er
        exact wpAny_pure (hR _ _ ⟨.int a, H', GP.outer o f'.inv, ⟨tA, rfl⟩, q.now f'.sim g' (by simp [Rep])⟩)
theorem con_sum : ConR (.builtin "sum") gdSum := by
  intro g o hr E p st H s Q a hu q
  have hgl : g.ga < s.heap.objs.size := by
    obtain ⟨_, _, _, ho, _⟩ := GP.isGen o a.at_.inv
    exact Heap.lt_size ho
  refine call_function_tree F.kind_sum F.plain_sum F.entry_sum (F.args_sum1 _) ?_
  unfold Builtin.«sum»
  simp only [List.length_cons, List.length_nil]
  rw [if_neg (by decide)]
  refine wpAny_bind ?_
  refine wpAny_of_eq (show Builtin.Builtins.bindParams "sum" ["start"] 0 { } = pure [none] from rfl) ?_
  refine wpAny_bind (wpAny_pyIter_gen (GP.isGen o a.at_.inv) ?_)
  refine wpAny_bind (wpAny_mkInt (wpAny_bind (wpAny_pure ?_)))
  simp only [List.forIn_cons, List.forIn_nil]
  refine wpAny_bind (wpAny_bind (wpAny_bind ?_))
  refine wpAny_isInstance (T := "int") (b := false) (typeIs_int _ _ _) sub_int_str ?_
  simp only [Bool.false_eq_true, if_false]
  refine wpAny_pure (wpAny_bind (wpAny_bind ?_))
  refine wpAny_isInstance (T := "int") (b := false) (typeIs_int _ _ _) sub_int_bytes ?_
  simp only [Bool.false_eq_true, if_false]
  refine wpAny_pure (wpAny_bind (wpAny_bind ?_))
  refine wpAny_isInstance (T := "int") (b := false) (typeIs_int _ _ _) sub_int_bytearray ?_
  simp only [Bool.false_eq_true, if_false]
  refine wpAny_pure (wpAny_pure (wpAny_bind ?_))
  refine wpAny_newObj_type ?_
  refine wpAny_pure ⟨plainId_quiet F.plain_sum_loop _, ?_⟩
  exact sum_loop (Q := Q) o hr (GP.nxt1 g) a.at_.inv.sz (Nat.ne_of_lt hgl) (fun v s' h => h) _ 0 st 0 s.toks 0 p H _ (GP.Ready.push (tk := s.toks + 1) (ob := GP.lObj #[.int 0 s.toks] 0) o a rfl fun v z => by cases z) q

/-! ### tuple -/
def gdAll (fin : List Dv → Sto → Mo Dv) : GD := fun k t u f wp st => match gAll k t u f wp (k.len + 1) 0 st with
  | some (ds, st') => if ds.length ≤ sizeLine then fin ds st' else none
  | none => none
def finTup (ds : List Dv) (st : Sto) : Mo Dv := rOk (.tup ds) st
theorem new_tup {g : GP} (o : g.Ok) {s' : Shared} {us : List Value} {ds : List Dv} {st' : Sto} {p p' : List Addr} {H H' : Hp} {Q : VK} (f : g.Over [] p' st' H' s') (hh : Held g.G p' H' ds us) (hz : ds.length ≤ sizeLine)
    (q : Pend g.G E (rD g.G) p' H' (finTup ds st') Q) : EP g.X g.pins g.σ Q (.ref s'.heap.objs.size) { s' with heap := s'.heap.push { cls := .type "tuple", data := .seq us.toArray } } := by
  obtain ⟨xs, rv, rl⟩ := hh
  have I := GP.outer o f.inv
  have hn : H' s'.heap.objs.size = none := I.hok.fresh (Nat.le_refl _)
  refine ⟨.ref _, upd H' s'.heap.objs.size (.tup xs), I.laid (t' := s'.toks) (fun b u e => Heap.get?_push_of_some _ e) (Nat.le_refl _) ⟨by rw [RepL.length rl]; exact hz, us, rv, _, Heap.get?_push_size _ rfl, rfl, 0, rfl⟩, rfl, ?_⟩
  refine q.now (f.sim.beside hn) (Grow.new hn) ⟨_, xs, rfl, SqT.of upd_same, RepL.grow (Grow.new hn) rl⟩
theorem con_tuple : ConR (.type "tuple") (gdAll finTup) := by
  intro g o hr E p st H s Q a hu q
  unfold gdAll at q
  cases ea : gAll g.k g.t g.u g.f (wipeL g.ls g.vs) (g.k.len + 1) 0 st with
  | none => rw [ea] at q; exact q.no
  | some r =>
    obtain ⟨ds, st'⟩ := r
    rw [ea] at q
    obtain ⟨hz, q⟩ := q.ifT
    have hT := GP.isTy o a
    refine callType_codes (Q₁ := fun obj s₁ => s₁.TypeIs obj "tuple" ∧ EP g.X g.pins g.σ Q obj s₁) F.called_tuple (F.typeCall_tuple_1 _) F.entry_object_init ?_ fun obj s₁ h₁ => ?_
    · refine codeAny_of_tree ?_
      show wpAny _ g.X.A.in1.in1 (do checkBuiltinCall "tuple.__new__" ⟨[.type "tuple", .ref g.ga], []⟩; PySem.again (.builtin "tuple.__new__" ⟨[.type "tuple", .ref g.ga], []⟩)) _ _ s
      refine wpAny_bind ?_
      refine wpAny_of_eq (F.newCall_tuple_1 _) (wpAny_pure ⟨plainId_quiet F.plain_tuple_new _, ?_⟩)
      refine codeAny_builtin F.entry_tuple_new ?_
      rw [Around.under_plainId F.plain_tuple_new _]
      have hsub := sub_tuple_self
      have hinit := init_tuple_lookup
      have hmh := madeHere_tuple
      wp_walk using wpAny_typeOf hT, GP.collect o hr (GP.nxt3 g) ea a hz
      intro s' us p' H' f' g' hh
      show wpAny _ _ (Builtin.Tuple.tupleExact us.toArray >>= fun v => ret v) _ _ _
      unfold Builtin.Tuple.tupleExact
      refine wpAny_bind ?_
      refine wpAny_newObj_type ?_ (by show us.toArray.size ≤ sizeLine; simp only [List.size_toArray]; rw [hh.length]; exact hz)
      refine wpAny_pure ⟨⟨_, Heap.get?_push_size _ rfl, rfl⟩, ?_⟩
      obtain ⟨r9, st9, h9, f9⟩ := q
      exact new_tup (p := p) (H := H) o f' hh hz ⟨r9, st9, h9, fun p3 H3 g3 S3 => f9 p3 H3 (g'.trans g3) S3⟩
    · exact ⟨h₁.1, F.args_object_init_2 obj _, object_init_meets F.called_tuple.init.lookup F.called_tuple.made (by decide) _ _ _ _ s₁ ⟨h₁.1, rfl, h₁.2⟩⟩
end
end R

/-! R14: sorted: pairs of ints. -/
namespace R
open PySem L2
/-! ### a list of pairs, sorted -/
def insP (x : Int × Int) : List (Int × Int) → List (Int × Int)
  | [] => [x]
  | y :: l => if SrtO.lexB y x = true then y :: insP x l else x :: y :: l
def sortP : List (Int × Int) → List (Int × Int)
  | [] => []
  | x :: l => insP x (sortP l)
theorem insP_perm (x : Int × Int) : ∀ l, (insP x l).Perm (x :: l)
  | [] => List.Perm.refl _
  | y :: l => by
    unfold insP
    split
    · exact ((insP_perm x l).cons y).trans (List.Perm.swap x y l)
    · exact List.Perm.refl _
theorem sortP_perm : ∀ l, (sortP l).Perm l
  | [] => List.Perm.refl _
  | x :: l => (insP_perm x _).trans ((sortP_perm l).cons x)
abbrev LeP (x y : Int × Int) : Prop := SrtO.lexB y x = false
theorem le_def {x y : Int × Int} : LeP x y ↔ x.1 < y.1 ∨ (x.1 = y.1 ∧ x.2 ≤ y.2) := by
  show SrtO.lexB y x = false ↔ _
  rw [SrtO.lexB_no]; omega
theorem insP_srt (x : Int × Int) : ∀ l, l.Pairwise LeP → (insP x l).Pairwise LeP
  | [], _ => List.pairwise_singleton _ _
  | y :: l, h => by
    obtain ⟨h1, h2⟩ := List.pairwise_cons.mp h
    unfold insP
    by_cases e : SrtO.lexB y x = true
    · rw [if_pos e]
      refine List.pairwise_cons.mpr ⟨fun z hz => ?_, insP_srt x l h2⟩
      rcases List.mem_cons.mp ((insP_perm x l).mem_iff.mp hz) with rfl | hz
      · rw [SrtO.lexB_iff] at e; rw [le_def]; omega
      · exact h1 z hz
    · rw [if_neg e]
      have e' : LeP x y := by
        show SrtO.lexB y x = false
        cases hq : SrtO.lexB y x <;> simp_all
      refine List.pairwise_cons.mpr ⟨fun z hz => ?_, h⟩
      rcases List.mem_cons.mp hz with rfl | hz
      · exact e'
      · have q := h1 z hz
        rw [le_def] at *
        omega
theorem sortP_srt : ∀ l, (sortP l).Pairwise LeP
  | [] => List.Pairwise.nil
  | x :: l => insP_srt x _ (sortP_srt l)
theorem sorted_eq : ∀ {l m : List (Int × Int)}, l.Perm m → l.Pairwise LeP → m.Pairwise LeP → l = m
  | [], m, h, _, _ => by simpa using h.symm.eq_nil
  | x :: l, [], h, _, _ => by simpa using h.eq_nil
  | x :: l, y :: m, h, h1, h2 => by
    obtain ⟨a1, a2⟩ := List.pairwise_cons.mp h1
    obtain ⟨b1, b2⟩ := List.pairwise_cons.mp h2
    have e : x = y := by
      have hx : x ∈ y :: m := h.mem_iff.mp List.mem_cons_self
      have hy : y ∈ x :: l := h.mem_iff.mpr List.mem_cons_self
      rcases List.mem_cons.mp hx with e | hx
      · exact e
      · rcases List.mem_cons.mp hy with e | hy
        · exact e.symm
        · have p := b1 x hx
          have q := a1 y hy
          rw [le_def] at p q
          exact Prod.ext (by omega) (by omega)
    subst e
    rw [sorted_eq (List.perm_cons_iff.mp h) a2 b2]
where
  List.perm_cons_iff {x : Int × Int} {l m : List (Int × Int)} : (x :: l).Perm (x :: m) ↔ l.Perm m := List.perm_cons x

/-! ### as data -/
def asP : Dv → Option (Int × Int)
  | .tup [.int i, .int j] => some (i, j)
  | _ => none
def ofP (q : Int × Int) : Dv := .tup [.int q.1, .int q.2]
def asPs : List Dv → Option (List (Int × Int))
  | [] => some []
  | d :: ds => match asP d with
    | some q => (asPs ds).map (q :: ·)
    | none => none
theorem asP_of {d : Dv} {q : Int × Int} (h : asP d = some q) : d = ofP q := by
  unfold asP at h
  split at h
  · cases h; rfl
  · cases h
theorem asPs_of : ∀ {ds : List Dv} {qs : List (Int × Int)}, asPs ds = some qs → ds = qs.map ofP
  | [], qs, h => by cases h; rfl
  | d :: ds, qs, h => by
    unfold asPs at h
    cases e : asP d with
    | none => rw [e] at h; cases h
    | some q =>
      rw [e] at h
      cases e2 : asPs ds with
      | none => simp only [e2] at h; cases h
      | some r =>
        simp only [e2, Option.map_some] at h
        cases h
        rw [List.map_cons, ← asP_of e, ← asPs_of e2]
noncomputable def keyAt (h : Heap) (v : Value) : Int × Int := by
  classical exact if e : ∃ q : Int × Int, Srt.IsPair h v q.1 q.2 then Classical.choose e else (0, 0)
theorem keyAt_of {h : Heap} {v : Value} {q : Int × Int} (e : Srt.IsPair h v q.1 q.2) : keyAt h v = q := by
  have e' : ∃ q : Int × Int, Srt.IsPair h v q.1 q.2 := ⟨q, e⟩
  unfold keyAt
  rw [dif_pos e']
  have z := Classical.choose_spec e'
  generalize Classical.choose e' = r at z
  obtain ⟨a, o, t, u, n, e1, e2, e3, e4⟩ := e
  obtain ⟨a', o', t', u', n', f1, f2, f3, f4⟩ := z
  rw [e1] at f1
  cases f1
  rw [e2] at f2
  cases f2
  rw [e4] at f4
  injection f4 with f5 f6
  injection f5 with f7
  injection f7 with f8 f9
  injection f9 with g1 g2
  injection f8 with g3
  injection g1 with g4
  exact Prod.ext g3.symm g4.symm
section
variable {G : Cfg} {E : XK}
theorem pair_of {X : Cx} {pins : List (Addr × Obj)} {σ : L2.St} {H : Hp} {s : Shared} {p : List Addr} {q : Int × Int} {x : V} {u : Value} (I : Inv X pins σ H s) (hK : G.K = X.K) (r : RelV x u) (h : Rep G.K p H (ofP q) x) : Srt.IsPair s.heap u q.1 q.2 := by
  unfold ofP at h
  obtain ⟨a, xs, rfl, hq, rl⟩ := rep_tup h
  simp only [RepL] at rl
  obtain ⟨x1, r1, e1, h1, x2, r2, e2, h2, e3⟩ := rl
  subst e3 e2 e1
  have e1 := rep_int h1
  have e2 := rep_int h2
  subst e1 e2
  rw [hK] at hq
  obtain ⟨its, rv, hp, _⟩ := I.tuple hq
  obtain rfl : u = Value.ref a := r
  obtain ⟨u1, u2, rfl, ri, rj⟩ := vals2 rv
  obtain ⟨t1, rfl⟩ := ri
  obtain ⟨t2, rfl⟩ := rj
  obtain ⟨o, ho, hc, n, hd⟩ := hp
  exact ⟨a, o, t1, t2, n, rfl, ho, hc, hd⟩
theorem pairs_held {X : Cx} {pins : List (Addr × Obj)} {σ : L2.St} {H : Hp} {s : Shared} {p : List Addr} (I : Inv X pins σ H s) (hK : G.K = X.K) : ∀ {qs : List (Int × Int)} {us : List Value}, Held G p H (qs.map ofP) us → us.map (keyAt s.heap) = qs ∧ (∀ v ∈ us, Srt.IsPair s.heap v (keyAt s.heap v).1 (keyAt s.heap v).2) ∧ ∀ v ∈ us, ∃ x, RelV x v ∧ Rep G.K p H (ofP (keyAt s.heap v)) x
  | [], us, ⟨xs, rv, rl⟩ => by
    simp only [List.map_nil, RepL] at rl
    subst rl
    cases rv
    exact ⟨rfl, by simp, by simp⟩
  | q :: qs, us, ⟨xs, rv, rl⟩ => by
    simp only [List.map_cons, RepL] at rl
    obtain ⟨x, r, e, h1, h2⟩ := rl
    subst e
    cases rv with
    | cons r1 r2 =>
      rename_i u us
      obtain ⟨i1, i2, i3⟩ := pairs_held I hK ⟨r, r2, h2⟩
      have hp := pair_of I hK r1 h1
      have hk : keyAt s.heap u = q := keyAt_of hp
      refine ⟨by rw [List.map_cons, hk, i1], fun v hv => ?_, fun v hv => ?_⟩
      · rcases List.mem_cons.mp hv with rfl | hv
        · rw [hk]; exact hp
        · exact i2 v hv
      · rcases List.mem_cons.mp hv with rfl | hv
        · rw [hk]; exact ⟨x, r1, h1⟩
        · exact i3 v hv
theorem held_of {p : List Addr} {H : Hp} {key : Value → Int × Int} : ∀ {us : List Value}, (∀ v ∈ us, ∃ x, RelV x v ∧ Rep G.K p H (ofP (key v)) x) → Held G p H ((us.map key).map ofP) us
  | [], _ => Held.nil
  | u :: us, h => by
    obtain ⟨x, r, q⟩ := h u List.mem_cons_self
    obtain ⟨xs, rv, rl⟩ := held_of fun v hv => h v (List.mem_cons_of_mem _ hv)
    exact ⟨x :: xs, .cons r rv, RepL.cons q rl⟩
end
end R

/-! R15: sorted of a generator expression, of a list. -/
namespace R
open PySem L2 PyProof.Rows
/-- the sorted list, where all are pairs of ints -/
def finSrt (ds : List Dv) (st : Sto) : Mo Dv := match asPs ds with
  | some qs => rOk (.cst ((sortP qs).map ofP)) st
  | none => none
theorem asPs_map : ∀ qs : List (Int × Int), asPs (qs.map ofP) = some qs
  | [] => rfl
  | a :: l => by simp only [List.map_cons, asPs, asP, ofP, asPs_map l, Option.map_some]
theorem ep_frz {X : Cx} {pins : List (Addr × Obj)} {σ : L2.St} {Q : VK} {v : Value} {s : Shared} (h : EP X pins σ (orFrz Q) v s) : EP X pins σ Q v s := by
  obtain ⟨x, H1, I1, r, q⟩ := h
  rcases q with q | ⟨d, u, hd, mu, q⟩
  · exact ⟨x, H1, I1, r, q⟩
  · obtain ⟨od, I2⟩ := I1.lock hd mu
    exact ⟨x, _, I2, r, q od⟩
section
variable {G : Cfg} {E : XK}
theorem sort_tail {X : Cx} {pins : List (Addr × Obj)} {σ : L2.St} {H : Hp} {s : Shared} {p : List Addr} {st : Sto} {A : Around} {E' : Value → Shared → Prop} {qs : List (Int × Int)} {us : List Value} {Q : VK} {R' : PySem.Fin → Shared → Prop}
    (I : Inv X pins σ H s) (hK : G.K = X.K) (S : Sim G p st H) (hh : Held G p H (qs.map ofP) us) (hz : qs.length ≤ sizeLine) (q : Pend G E (rD G) p H (finSrt (qs.map ofP) st) Q) (hR : ∀ v s', EP X pins σ Q v s' → R' (.done (.ret v)) s') :
    wpAny (model X.prog X.w) A (newList us >>= fun l => holding [l] (call (.builtin "list.sort") [l] []) >>= fun _ => ret l) R' E' s := by
  obtain ⟨k1, k2, k3⟩ := pairs_held I hK hh
  have hul : us.length ≤ sizeLine := by rw [hh.length, List.length_map]; exact hz
  refine wpAny_bind (wpAny_newList ?_ hul)
  have hoL : (s.heap.push (seqObj "list" us.toArray 0)).get? s.heap.objs.size = some (seqObj "list" us.toArray 0) := Heap.get?_push_size _ rfl
  refine wpAny_bind (wpAny_holding ?_)
  refine wpAny_call_entry slot_list_sort ⟨_, hoL, rfl⟩ entry_list_sort ?_ (args_list_sort _)
  refine SrtO.list_sort_ord (SrtO.swo_lex (keyAt s.heap)) hoL hul (fun h2 => ?_) fun out hs hb => ⟨_, rfl, ?_⟩
  · refine SrtO.pairs_sortableO (by omega) (fun v hm => (k2 v hm).keeps fun b o e _ => Heap.get?_push_of_some _ e) fun o e => ?_
    have e' : some o = some (seqObj "list" us.toArray 0) := e.symm.trans hoL
    cases e'
    intro c
    exact absurd (Value.type.inj c) (by decide)
  · refine wpAny_pure (hR _ _ (ep_frz ?_))
    have ks : out.map (keyAt s.heap) = sortP qs := by
      refine sorted_eq ?_ ?_ (sortP_srt qs)
      · refine (hb.perm.map (keyAt s.heap)).trans ?_
        rw [k1]; exact (sortP_perm qs).symm
      · exact List.pairwise_map.mpr hs
    have ho : Held G p H ((sortP qs).map ofP) out := by
      rw [← ks]
      exact held_of fun v hv => k3 v (hb.perm.mem_iff.mp hv)
    obtain ⟨xs, rv, rl⟩ := ho
    have hn : H s.heap.objs.size = none := I.hok.fresh (Nat.le_refl _)
    obtain ⟨ep, hat⟩ := sortedHeap_at (out := out.toArray) hoL
    have hl : xs.length ≤ sizeLine := by rw [rv.length, hb.perm.length_eq]; exact hul
    refine ⟨.ref _, upd H s.heap.objs.size (.lst xs), I.laid (t' := s.toks) (fun b u e => ?_) (Nat.le_refl _) ⟨hl, out, ep, rv, hat⟩, rfl, ?_⟩
    · have hlt : b < s.heap.objs.size := Heap.lt_size e
      rw [sortedHeap_old (Nat.ne_of_lt hlt) (by rw [Heap.size_push]; exact Nat.lt_succ_of_lt hlt)]
      exact Heap.get?_push_of_some _ e
    · unfold finSrt at q
      rw [asPs_map] at q
      exact q.newCst S rl hn
theorem con_sorted : ConR (.builtin "sorted") (gdAll finSrt) := by
  intro g o hr E p st H s Q a hu q
  unfold gdAll at q
  cases ea : gAll g.k g.t g.u g.f (wipeL g.ls g.vs) (g.k.len + 1) 0 st with
  | none => rw [ea] at q; exact q.no
  | some r =>
    obtain ⟨ds, st'⟩ := r
    rw [ea] at q
    obtain ⟨hz, q⟩ := q.ifT
    refine Calls.call_function_entry kind_sorted plain_sorted entry_sorted (args_sorted1 _) ?_
    unfold Builtin.«sorted»
    refine wpAny_bind (m := checkCount "sorted" 1 1 _) (wpAny_pure ?_)
    refine wpAny_bind (GP.collect o hr (GP.nxt2 g) ea a hz fun s' us p' H' f' g' hh => ?_)
    cases ep : asPs ds with
    | none => unfold finSrt at q; rw [ep] at q; exact q.no
    | some qs =>
      have ed := asPs_of ep
      subst ed
      obtain ⟨r9, st9, h9, f9⟩ := q
      exact sort_tail (GP.outer o f'.inv) o.hK f'.sim hh (by rw [← List.length_map (f := ofP)]; exact hz) ⟨r9, st9, h9, fun p3 H3 g3 S3 => f9 p3 H3 (g'.trans g3) S3⟩ fun v s' h => ⟨_, rfl, h⟩
/-- sorted(xs) -/
def fcSrt : FC := fun ds st => match ds with
  | [x] => match asL st x with
    | some xs => finSrt xs st
    | none => none
  | _ => none
end
end R

/-! R16: builtins over data; enumerate; augmented assignments. -/
namespace R
open PySem L2
section
variable {G : Cfg} {E : XK} {X : Cx} {p p' : List Addr} {H H' : Hp} {st : Sto} {ls : Ls} {σ : L2.St} {a b c : Expr} {fa fb fc : SE} {pos : Pos} {tg : Expr} {fs : SA}
/-- a call's reading, told by data -/
def rG (G : Cfg) (E : XK) (g : FC) : List V → Hp → VK → Prop := fun vs H Q => ∃ p st ds, Sim G p st H ∧ RepL G.K p H ds vs ∧ Pend G E (rD G) p H (g ds st) Q
theorem cs_rG {g : FC} : CallS G E g (rG G E g) := fun p st H ds vs Q S r q => ⟨p, st, ds, S, r, q⟩
theorem repL1 {K : PySem.W.Frag} {d : Dv} {vs : List V} (h : RepL K p H [d] vs) : ∃ v, vs = [v] ∧ Rep K p H d v := by
  simp only [RepL] at h
  obtain ⟨x, r, e, h1, h2⟩ := h
  exact ⟨x, by rw [e, h2], h1⟩
theorem repL2 {K : PySem.W.Frag} {d e : Dv} {vs : List V} (h : RepL K p H [d, e] vs) : ∃ v w, vs = [v, w] ∧ Rep K p H d v ∧ Rep K p H e w := by
  simp only [RepL] at h
  obtain ⟨x, r, e, h1, y, r2, e2, h2, e3⟩ := h
  exact ⟨x, y, by rw [e, e2, e3], h1, h2⟩
def fcAbs : FC := fun ds st => match ds with
  | [.int i] => rOk (.int (if i < 0 then -i else i)) st
  | _ => none
theorem f_abs : CallS G E fcAbs (fun xs H Q => ∃ i, xs = [.int i] ∧ Q (.int (if i < 0 then -i else i)) H) := fun p st H ds vs Q S r q => by
  unfold fcAbs at q
  split at q
  · obtain ⟨v, rfl, h⟩ := repL1 r
    rw [rep_int h]
    exact ⟨_, rfl, q.now S (Grow.refl _ _) (by simp [rD, Rep])⟩
  · exact q.no
def fcInt : FC := fun ds st => match ds with
  | [.int i] => rOk (.int i) st
  | [.bl k] => rOk (.int (if k then 1 else 0)) st
  | _ => none
theorem f_int : CallS G E fcInt (fun xs H Q => (∃ i, xs = [.int i] ∧ Q (.int i) H) ∨ ∃ k, xs = [.bl k] ∧ Q (.int (if k then 1 else 0)) H) := fun p st H ds vs Q S r q => by
  unfold fcInt at q
  split at q
  · obtain ⟨v, rfl, h⟩ := repL1 r
    rw [rep_int h]
    exact .inl ⟨_, rfl, q.now S (Grow.refl _ _) (by simp [rD, Rep])⟩
  · obtain ⟨v, rfl, h⟩ := repL1 r
    rw [rep_bl h]
    exact .inr ⟨_, rfl, q.now S (Grow.refl _ _) (by simp [rD, Rep])⟩
  · exact q.no
def fcBool : FC := fun ds st => match ds with
  | [.int i] => rOk (.bl (i != 0)) st
  | [.bl k] => rOk (.bl k) st
  | _ => none
theorem f_bool : CallS G E fcBool (fun xs H Q => (∃ i, xs = [.int i] ∧ Q (.bl (i != 0)) H) ∨ ∃ k, xs = [.bl k] ∧ Q (.bl k) H) := fun p st H ds vs Q S r q => by
  unfold fcBool at q
  split at q
  · obtain ⟨v, rfl, h⟩ := repL1 r
    rw [rep_int h]
    exact .inl ⟨_, rfl, q.now S (Grow.refl _ _) (by simp [rD, Rep])⟩
  · obtain ⟨v, rfl, h⟩ := repL1 r
    rw [rep_bl h]
    exact .inr ⟨_, rfl, q.now S (Grow.refl _ _) (by simp [rD, Rep])⟩
  · exact q.no
def fcMax : FC := fun ds st => match ds with
  | [.int i, .int j] => rOk (.int (if j > i then j else i)) st
  | _ => none
theorem f_max : CallS G E fcMax (fun xs H Q => ∃ i j, xs = [.int i, .int j] ∧ Q (.int (if j > i then j else i)) H) := fun p st H ds vs Q S r q => by
  unfold fcMax at q
  split at q
  · obtain ⟨v, w, rfl, h1, h2⟩ := repL2 r
    rw [rep_int h1, rep_int h2]
    exact ⟨_, _, rfl, q.now S (Grow.refl _ _) (by simp [rD, Rep])⟩
  · exact q.no
def fcMin : FC := fun ds st => match ds with
  | [.int i, .int j] => rOk (.int (if j < i then j else i)) st
  | _ => none
theorem f_min : CallS G E fcMin (fun xs H Q => ∃ i j, xs = [.int i, .int j] ∧ Q (.int (if j < i then j else i)) H) := fun p st H ds vs Q S r q => by
  unfold fcMin at q
  split at q
  · obtain ⟨v, w, rfl, h1, h2⟩ := repL2 r
    rw [rep_int h1, rep_int h2]
    exact ⟨_, _, rfl, q.now S (Grow.refl _ _) (by simp [rD, Rep])⟩
  · exact q.no
def fcLen : FC := fun ds st => match ds with
  | [.tup xs] => rOk (.int xs.length) st
  | [.str z] => if z.length ≤ sizeLine then rOk (.int z.length) st else none
  | [x] => match asL st x with
    | some xs => rOk (.int xs.length) st
    | none => none
  | _ => none
def rLenA (K : PySem.W.Frag) : List V → Hp → VK → Prop := fun xs H Q => (∃ p ys, xs = [.ref p] ∧ (SqL K H p ys ∨ SqT K H p ys) ∧ Q (.int ys.length) H) ∨ ∃ z, xs = [.str z] ∧ z.length ≤ sizeLine ∧ Q (.int z.length) H
theorem c_len : CallR X (.builtin "len") (rLenA X.K) := call_len_seq.or call_len_str
theorem f_len (hK : G.K = X.K := by rfl) : CallS G E fcLen (rLenA X.K) := fun p st H ds vs Q S r q => by
  unfold fcLen at q
  split at q
  · obtain ⟨v, rfl, h⟩ := repL1 r
    obtain ⟨a, xs, rfl, ha, la⟩ := rep_tup h
    rw [hK] at ha
    exact .inl ⟨a, xs, rfl, .inr ha, q.now S (Grow.refl _ _) (by simp [rD, Rep, RepL.length la])⟩
  · obtain ⟨v, rfl, h⟩ := repL1 r
    obtain ⟨hz, q⟩ := q.ifT
    rw [rep_str h]
    exact .inr ⟨_, rfl, hz, q.now S (Grow.refl _ _) (by simp [rD, Rep])⟩
  · obtain ⟨v, rfl, h⟩ := repL1 r
    split at q
    · rename_i e
      obtain ⟨a, xs, rfl, ha, la⟩ := S.asL e h
      rw [hK] at ha
      exact .inl ⟨a, xs, rfl, .inl ha, q.now S (Grow.refl _ _) (by simp [rD, Rep, RepL.length la])⟩
    · exact q.no
  · exact q.no
/-- all are ints -/
def asIs : List Dv → Option (List Int)
  | [] => some []
  | .int i :: ds => (asIs ds).map (i :: ·)
  | _ :: _ => none
theorem asIs_rep {K : PySem.W.Frag} : ∀ {ds : List Dv} {ns : List Int} {xs : List V}, asIs ds = some ns → RepL K p H ds xs → xs = ns.map V.int
  | [], ns, xs, e, r => by
    cases e
    simpa [RepL] using r
  | .int i :: ds, ns, xs, e, r => by
    unfold asIs at e
    cases e2 : asIs ds with
    | none => rw [e2] at e; cases e
    | some m =>
      rw [e2] at e
      cases e
      simp only [RepL] at r
      obtain ⟨x, t, rfl, h1, h2⟩ := r
      rw [rep_int h1, asIs_rep e2 h2]
      rfl
  | .non :: _, _, _, e, _ => by cases e
  | .bl _ :: _, _, _, e, _ => by cases e
  | .str _ :: _, _, _, e, _ => by cases e
  | .tup _ :: _, _, _, e, _ => by cases e
  | .ref _ :: _, _, _, e, _ => by cases e
  | .cst _ :: _, _, _, e, _ => by cases e
  | .wri _ :: _, _, _, e, _ => by cases e
  | .dic _ _ :: _, _, _, e, _ => by cases e
  | .dct _ _ :: _, _, _, e, _ => by cases e
def fcSum : FC := fun ds st => match ds with
  | [x] => match asL st x with
    | some xs => match asIs xs with
      | some ns => rOk (.int ns.sum) st
      | none => none
    | none => none
  | _ => none
theorem f_sum (hK : G.K = X.K := by rfl) : CallS G E fcSum (rSum X.K) := fun p st H ds vs Q S r q => by
  unfold fcSum at q
  split at q
  · obtain ⟨v, rfl, h⟩ := repL1 r
    split at q
    · rename_i e
      split at q
      · rename_i ns e2
        obtain ⟨a, xs, rfl, ha, la⟩ := S.asL e h
        have := asIs_rep e2 la
        subst this
        rw [hK] at ha
        exact ⟨a, ns, rfl, ha, q.now S (Grow.refl _ _) (by simp [rD, Rep])⟩
      · exact q.no
    · exact q.no
  · exact q.no
def fcTup : FC := fun ds st => match ds with
  | [.tup xs] => rOk (.tup xs) st
  | [x] => match asL st x with
    | some xs => rOk (.tup xs) st
    | none => none
  | _ => none
theorem f_tup (hK : G.K = X.K := by rfl) : CallS G E fcTup (fun xs H Q => ∃ p ys, xs = [.ref p] ∧ ((SqL X.K H p ys ∧ ∀ l, H l = none → Q (.ref l) (upd H l (.tup ys))) ∨ (SqT X.K H p ys ∧ Q (.ref p) H))) := fun p st H ds vs Q S r q => by
  unfold fcTup at q
  split at q
  · obtain ⟨v, rfl, h⟩ := repL1 r
    have h' := h
    obtain ⟨a, xs, rfl, ha, la⟩ := rep_tup h
    rw [hK] at ha
    exact ⟨a, xs, rfl, .inr ⟨ha, q.now S (Grow.refl _ _) h'⟩⟩
  · obtain ⟨v, rfl, h⟩ := repL1 r
    split at q
    · rename_i e
      obtain ⟨a, xs, rfl, ha, la⟩ := S.asL e h
      rw [hK] at ha
      exact ⟨a, xs, rfl, .inl ⟨ha, fun l hl => q.now (S.beside hl) (Grow.new hl) ⟨l, xs, rfl, SqT.of upd_same, RepL.grow (Grow.new hl) la⟩⟩⟩
    · exact q.no
  · exact q.no
def fcLst : FC := fun ds st => match ds with
  | [.tup xs] => rOk (.cst xs) st
  | [x] => match asL st x with
    | some xs => rOk (.cst xs) st
    | none => none
  | _ => none
theorem CallR.frz {f : Value} {r : List V → Hp → VK → Prop} (h : CallR X f r) : CallR X f (fun xs H Q => r xs H (orFrz Q)) := fun pins s σ H xs us Q I rr q => thn (h pins s σ H xs us (orFrz Q) I rr q) fun v s1 e => ep_frz e
theorem c_lst : CallR X (.type "list") (fun xs H Q => ∃ p ys, xs = [.ref p] ∧ (SqL X.K H p ys ∨ SqT X.K H p ys) ∧ ∀ l, H l = none → orFrz Q (.ref l) (upd H l (.lst ys))) := CallR.frz call_list_of
theorem f_lst (hK : G.K = X.K := by rfl) : CallS G E fcLst (fun xs H Q => ∃ p ys, xs = [.ref p] ∧ (SqL X.K H p ys ∨ SqT X.K H p ys) ∧ ∀ l, H l = none → orFrz Q (.ref l) (upd H l (.lst ys))) := fun p st H ds vs Q S r q => by
  unfold fcLst at q
  split at q
  · obtain ⟨v, rfl, h⟩ := repL1 r
    obtain ⟨a, xs, rfl, ha, la⟩ := rep_tup h
    rw [hK] at ha
    exact ⟨a, xs, rfl, .inr ha, fun l hl => q.newCst S la hl⟩
  · obtain ⟨v, rfl, h⟩ := repL1 r
    split at q
    · rename_i e
      obtain ⟨a, xs, rfl, ha, la⟩ := S.asL e h
      rw [hK] at ha
      exact ⟨a, xs, rfl, .inl ha, fun l hl => q.newCst S la hl⟩
    · exact q.no
  · exact q.no
/-- list(xs) that will be written -/
def fcLstM : FC := fun ds st => match ds with
  | [.tup xs] => newL xs st
  | [x] => match asL st x with
    | some xs => newL xs st
    | none => none
  | _ => none
theorem f_lstM (hK : G.K = X.K := by rfl) : CallS G E fcLstM (fun xs H Q => ∃ p ys, xs = [.ref p] ∧ (SqL X.K H p ys ∨ SqT X.K H p ys) ∧ ∀ l, H l = none → Q (.ref l) (upd H l (.lst ys))) := fun p st H ds vs Q S r q => by
  unfold fcLstM at q
  split at q
  · obtain ⟨v, rfl, h⟩ := repL1 r
    obtain ⟨a, xs, rfl, ha, la⟩ := rep_tup h
    rw [hK] at ha
    exact ⟨a, xs, rfl, .inr ha, fun l hl => q.newLst S la hl⟩
  · obtain ⟨v, rfl, h⟩ := repL1 r
    split at q
    · rename_i e
      obtain ⟨a, xs, rfl, ha, la⟩ := S.asL e h
      rw [hK] at ha
      exact ⟨a, xs, rfl, .inl ha, fun l hl => q.newLst S la hl⟩
    · exact q.no
  · exact q.no
/-- sorted(xs), xs a list of pairs of ints -/
theorem c_srt (hK : G.K = X.K := by rfl) : CallR X (.builtin "sorted") (rG G E fcSrt) := by
  intro pins s σ H vs us Q I r h
  obtain ⟨p, st, ds, S, rl, q⟩ := h
  unfold fcSrt at q
  split at q
  · obtain ⟨v, rfl, h⟩ := repL1 rl
    split at q
    · rename_i xs e
      obtain ⟨a, ys, rfl, ha, la⟩ := S.asL e h
      rw [hK] at ha
      obtain ⟨its, rv, hl, hz⟩ := I.list ha
      rw [Vals.ref1 r]
      refine Calls.call_function_entry PyProof.Rows.kind_sorted PyProof.Rows.plain_sorted PyProof.Rows.entry_sorted (PyProof.Rows.args_sorted1 _) ?_
      unfold Builtin.«sorted»
      refine wpAny_bind (m := checkCount "sorted" 1 1 _) (wpAny_pure ?_)
      have hlen : its.length ≤ sizeLine := by rw [← rv.length]; exact hz
      refine wpAny_bind (PyProof.Rows.collect_list hl.isList ?_ hlen)
      cases ep : asPs xs with
      | none => unfold finSrt at q; rw [ep] at q; exact q.no
      | some qs =>
        have ed := asPs_of ep
        subst ed
        refine sort_tail (E := E) (I.kept (t' := s.toks) fun b u e => ?_) hK S ⟨ys, rv, la⟩ ?_ q fun v s' h => ⟨_, rfl, h⟩
        · have hlt : b < s.heap.objs.size := Heap.lt_size e
          rw [Heap.get?_update_ne _ _ _ _ (Nat.ne_of_lt hlt)]
          exact Heap.get?_push_of_some _ e
        · have h1 := RepL.length la
          rw [List.length_map] at h1
          rw [← h1]
          exact hz
    · exact q.no
  · exact q.no
end
end R

namespace PySem
open Sem (wp)
theorem meets_enumerate_newB0 {v : Value} {o : Obj} {H : Heap → Prop} (B : Begins v o H) :
    Meets (Builtin.«enumerate.__new__» ⟨[.type "enumerate", v], []⟩) (fun _ R s => H s.heap ∧
      R (.ok (.ret (.ref (s.heap.push o).objs.size))) { s with heap := (s.heap.push o).push { cls := .type "enumerate", data := .fields #[.none, .bool false, .ref s.heap.objs.size, rawInt 0, .none, .none] } }) :=
  .of_wp fun prog w A R s h => by
    obtain ⟨hp, g, d, tk, os⟩ := s; obtain ⟨h1, h⟩ := h
    have hsub := sub_enumerate
    have q1 : ∀ {A' : Around} {E : Value → Shared → Prop} {Q : Value → Shared → Prop}, Q (.ref hp.objs.size) ⟨hp.push o, g, d, tk, os⟩ → wpAny (model prog w) A' (pyIter v) Q E ⟨hp, g, d, tk, os⟩ :=
      fun q => B.iter prog w _ _ ⟨hp, g, d, tk, os⟩ _ h1 q
    wp_walk using q1
    refine wpAny_stack_any fun st => wpAny_pure ?_
    split
    · rename_i c _ _ _ _ _
      cases (c == Value.type "enumerate")
      · wp_walk using q1
        exact ⟨_, rfl, h⟩
      · wp_walk using q1
        exact ⟨_, rfl, h⟩
    · wp_walk using q1
      exact ⟨_, rfl, h⟩
section
variable {prog : Program} {w : World} {A : Around} {E : Value → Shared → Prop} {s : Shared}
theorem enum_begins0 {v : Value} {o : Obj} {H : Heap → Prop} {Q : Value → Shared → Prop} (B : Begins v o H) (h1 : H s.heap)
    (h : ∀ h', IsEnum h' (s.heap.objs.size + 1) s.heap.objs.size 0 .none → h'.get? s.heap.objs.size = some o → h'.objs.size = s.heap.objs.size + 2 →
      (∀ b o, s.heap.get? b = some o → h'.get? b = some o) → Q (.ref (s.heap.objs.size + 1)) { s with heap := h' }) :
    wpAny (model prog w) A (call (.type "enumerate") [v]) Q E s := by
  refine callType_new F.called_enumerate (by decide) (F.typeCall_enumerate_1 _) (F.newCall_enumerate_1 _) (fun obj => F.args_object_init_2 obj _) F.entry_enumerate_new
    (meets_enumerate_newB0 B) ⟨h1, ?_⟩
  have hz : (s.heap.push o).objs.size = s.heap.objs.size + 1 := Heap.size_push ..
  show _ ∧ _
  rw [hz]
  have he : IsEnum ((s.heap.push o).push { cls := .type "enumerate", data := .fields #[.none, .bool false, .ref s.heap.objs.size, rawInt 0, .none, .none] }) (s.heap.objs.size + 1) s.heap.objs.size 0 .none := by
    have := Heap.get?_push_size (s.heap.push o) (o := { cls := .type "enumerate", data := .fields #[.none, .bool false, .ref s.heap.objs.size, rawInt 0, .none, .none] }) rfl
    rw [hz] at this; exact this
  refine ⟨⟨_, he, rfl⟩, h _ he (Heap.get?_push_of_some _ (Heap.get?_push_size _ B.free)) (by rw [Heap.size_push, hz]) fun b o x => Heap.get?_push_of_some _ (Heap.get?_push_of_some _ x)⟩
end
theorem Draws.conv {prog : Program} {w : World} {A : Around} {it : Addr} {fp : List Addr} {n : Nat} {P P' : Nat → Value → Prop} {St St' : Nat → Heap → Prop} (D : Draws prog w A it fp n P St)
    (hP : ∀ i v, P i v → P' i v) (h1 : ∀ i h, St' i h → St i h) (h2 : ∀ i h, St i h → St' i h) : Draws prog w A it fp n P' St' where
  live := fun i h st => D.live i h (h1 i h st)
  frame := fun i h h' st k => h2 i h' (D.frame i h h' (h1 i h st) k)
  item := fun i s Q E hi st hQ => D.item i s Q E hi (h1 _ _ st) fun x h' tk p q e => hQ x h' tk (hP _ _ p) (h2 _ _ q) e
  done := fun s Q E st hE => D.done s Q E (h1 _ _ st) hE
end PySem
namespace R
open PySem L2 PyProof.Rows
/-- what may be walked: a list, a tuple, a text -/
inductive SrcK where
  | lst
  | tup
  | str
def signs (z : Str) : List V := z.cps.toList.map fun c => .str ⟨#[c]⟩
def SrcA (K : PySem.W.Frag) (k : SrcK) (H : Hp) (x : V) (xs : List V) : Prop := match k with
  | .lst => ∃ a, x = .ref a ∧ SqL K H a xs
  | .tup => ∃ a, x = .ref a ∧ SqT K H a xs
  | .str => ∃ z, x = .str z ∧ xs = signs z
def IterAt (k : SrcK) (h : Heap) (it : Addr) (u : Value) (i : Nat) : Prop := match k with
  | .lst => ∃ a, u = .ref a ∧ h.IsListIter it a i
  | .tup => ∃ a, u = .ref a ∧ h.IsTupleIter it a i
  | .str => ∃ z t, u = .str z t ∧ h.IsStrIter it (strIterType z) z t i
theorem IterAt.live {k : SrcK} {h : Heap} {it : Addr} {u : Value} {i : Nat} (st : IterAt k h it u i) : ∃ o, h.get? it = some o ∧ ∀ v, o.data ≠ .cell v := by
  cases k
  · obtain ⟨a, _, o, ho, _, hd⟩ := st; exact ⟨o, ho, fun v q => by rw [hd] at q; cases q⟩
  · obtain ⟨a, _, o, ho, _, hd⟩ := st; exact ⟨o, ho, fun v q => by rw [hd] at q; cases q⟩
  · obtain ⟨z, t, _, o, ho, _, hd⟩ := st; exact ⟨o, ho, fun v q => by rw [hd] at q; cases q⟩
theorem IterAt.at {k : SrcK} {h h' : Heap} {it : Addr} {u : Value} {i : Nat} (st : IterAt k h it u i) (e : ∀ o, h.get? it = some o → h'.get? it = some o) : IterAt k h' it u i := by
  cases k
  · obtain ⟨a, ea, q⟩ := st; exact ⟨a, ea, q.at e⟩
  · obtain ⟨a, ea, q⟩ := st; exact ⟨a, ea, q.at e⟩
  · obtain ⟨z, t, ea, o, ho, q⟩ := st; exact ⟨z, t, ea, o, e o ho, q⟩
section
variable {X : Cx} {pins : List (Addr × Obj)} {σ : L2.St} {H : Hp} {s : Shared} {k : SrcK} {x : V} {u : Value} {xs ys : List V}
theorem vals_get' : ∀ {xs : List V} {us : List Value} {i : Nat} {v : Value}, Vals xs us → us[i]? = some v → ∃ x, xs[i]? = some x ∧ RelV x v
  | _, _, _, _, .nil, e => by simp at e
  | _, _, 0, _, .cons r _, e => by simp at e; subst e; exact ⟨_, rfl, r⟩
  | _, _, i + 1, v, .cons _ t, e => by
    obtain ⟨u, h1, h2⟩ := vals_get' (i := i) (v := v) t (by simpa using e)
    exact ⟨u, by simpa using h1, h2⟩
theorem tuple_inj (I : Inv X pins σ H s) {a : Addr} (h : SqT X.K H a xs) (h' : SqT X.K H a ys) : xs = ys := by
  obtain ⟨its, r, ⟨o, e, _, n, d⟩, _⟩ := I.tuple h
  obtain ⟨its', r', ⟨o', e', _, n', d'⟩, _⟩ := I.tuple h'
  rw [e] at e'; cases e'
  rw [d] at d'
  injection d' with d1 _
  have : its = its' := by simpa using congrArg Array.toList d1
  subst this
  exact r.inj r'
theorem SrcA.inj (I : Inv X pins σ H s) (h : SrcA X.K k H x xs) (h' : SrcA X.K k H x ys) : xs = ys := by
  cases k
  · obtain ⟨a, ea, q⟩ := h
    obtain ⟨b, eb, q'⟩ := h'
    rw [ea] at eb; cases eb
    exact I.list_inj q q'
  · obtain ⟨a, ea, q⟩ := h
    obtain ⟨b, eb, q'⟩ := h'
    rw [ea] at eb; cases eb
    exact tuple_inj I q q'
  · obtain ⟨a, ea, q⟩ := h
    obtain ⟨b, eb, q'⟩ := h'
    rw [ea] at eb; cases eb
    rw [q, q']
theorem signs_get {z : Str} {i c : Nat} (h : z.cps[i]? = some c) : (signs z)[i]? = some (.str ⟨#[c]⟩) := by
  unfold signs
  rw [List.getElem?_map, Array.getElem?_toList, h]
  rfl
theorem signs_len {z : Str} : (signs z).length = z.cps.size := by unfold signs; rw [List.length_map, Array.length_toList]
/-- it is drawn from -/
theorem src_draws {A : Around} (hh : A.handled = none) (I : Inv X pins σ H s) (h : SrcA X.K k H x xs) (ru : RelV x u) (it : Addr) (hlt : ∀ b, u = .ref b → b ≠ it) :
    ∃ (fp : List Addr) (Hold : Heap → Prop), Hold s.heap ∧ it ∈ fp ∧ (∀ b ∈ fp, b = it ∨ u = .ref b) ∧
      Draws X.prog X.w A it fp xs.length (fun i v => ∃ y, xs[i]? = some y ∧ RelV y v) (fun i h => IterAt k h it u i ∧ Hold h) := by
  cases k
  · obtain ⟨a, rfl, q⟩ := h
    cases ru
    obtain ⟨its, rv, p, hz⟩ := I.list q
    refine ⟨[it, a], fun h => h.IsList a its.toArray, p.isList, by simp, fun b hb => ?_, ?_⟩
    · rcases List.mem_cons.mp hb with e | e
      · exact .inl e
      · exact .inr (by rw [List.mem_singleton.mp e])
    · have D := Draws.list (prog := X.prog) (w := X.w) hh it a (hlt a rfl) its.toArray
      rw [List.size_toArray, ← rv.length] at D
      refine D.conv (fun i v e => ?_) (fun i h ⟨⟨b, eb, q⟩, z⟩ => by cases eb; exact ⟨q, z⟩) fun i h ⟨q, z⟩ => ⟨⟨a, rfl, q⟩, z⟩
      have e : its[i]? = some v := by simpa using e
      exact vals_get' rv e
  · obtain ⟨a, rfl, q⟩ := h
    cases ru
    obtain ⟨its, rv, p, hz⟩ := I.tuple q
    refine ⟨[it, a], fun h => h.IsTuple a its.toArray, p, by simp, fun b hb => ?_, ?_⟩
    · rcases List.mem_cons.mp hb with e | e
      · exact .inl e
      · exact .inr (by rw [List.mem_singleton.mp e])
    · have D := Draws.tuple (prog := X.prog) (w := X.w) hh it a (hlt a rfl) its.toArray
      rw [List.size_toArray, ← rv.length] at D
      refine D.conv (fun i v e => ?_) (fun i h ⟨⟨b, eb, q⟩, z⟩ => by cases eb; exact ⟨q, z⟩) fun i h ⟨q, z⟩ => ⟨⟨a, rfl, q⟩, z⟩
      have e : its[i]? = some v := by simpa using e
      exact vals_get' rv e
  · obtain ⟨z, rfl, q⟩ := h
    obtain ⟨t, rfl⟩ := ru
    refine ⟨[it], fun _ => True, trivial, by simp, fun b hb => .inl (List.mem_singleton.mp hb), ?_⟩
    have D := Draws.text (prog := X.prog) (w := X.w) hh it z t
    rw [← signs_len, ← q] at D
    refine D.conv (fun i v ⟨c, u, e, ev⟩ => ⟨_, by rw [q]; exact signs_get e, by rw [ev]; exact ⟨u, rfl⟩⟩) (fun i h ⟨⟨b, t', eb, q⟩, z⟩ => by cases eb; exact q) fun i h q => ⟨⟨z, t, rfl, q⟩, trivial⟩
/-- its iterator begins -/
theorem src_begins (I : Inv X pins σ H s) (h : SrcA X.K k H x xs) (ru : RelV x u) : ∃ (o : Obj) (Hold : Heap → Prop), Begins u o Hold ∧ Hold s.heap ∧ (∀ b, u = .ref b → b < s.heap.objs.size) ∧ ∀ h' it, h'.get? it = some o → IterAt k h' it u 0 := by
  cases k
  · obtain ⟨a, rfl, q⟩ := h
    cases ru
    obtain ⟨its, rv, p, hz⟩ := I.list q
    exact ⟨_, _, begins_list a its.toArray, p.isList, fun b e => by cases e; exact p.lt, fun h' it e => ⟨a, rfl, _, e, rfl, rfl⟩⟩
  · obtain ⟨a, rfl, q⟩ := h
    cases ru
    obtain ⟨its, rv, p, hz⟩ := I.tuple q
    exact ⟨_, _, begins_tuple a its.toArray, p, fun b e => by cases e; exact p.lt, fun h' it e => ⟨a, rfl, _, e, rfl, rfl⟩⟩
  · obtain ⟨z, rfl, q⟩ := h
    obtain ⟨t, rfl⟩ := ru
    exact ⟨_, _, begins_text z t, trivial, (fun b e => by cases e), fun h' it e => ⟨z, t, rfl, _, e, rfl, rfl⟩⟩
end
/-! ### enumerate -/
def IteA (K : PySem.W.Frag) (k : SrcK) (x : V) : It :=
  ⟨fun i H => ∃ (xs : List V) (y : V), SrcA K k H x xs ∧ xs[i]? = some y, fun i H v H' => ∃ T y, v = .ref T ∧ H T = none ∧ H' = upd H T (.tup [.int (i : Nat), y]) ∧ ∀ xs, SrcA K k H x xs → xs[i]? = some y,
   fun i H => ∃ xs : List V, SrcA K k H x xs ∧ xs.length = i⟩
theorem turn_enumA {P : Program} {w : World} {K : PySem.W.Frag} {elts : List Expr} {kk : Nat} {tpos : Pos} {k : SrcK} {x : V} {u : Value} (ru : RelV x u) (m : Nat) (hlt : ∀ b, u = .ref b → b < m) :
    Turn P w K (.Tuple elts kk tpos) (IteA K k x) [m + 1, m] (m + 1) (fun i h => (∃ old, IsEnum h (m + 1) m ((i : Nat) : Int) old) ∧ IterAt k h m u i) where
  mem := by simp
  obj := fun i h ⟨⟨old, he⟩, st⟩ b hb => by
    have e' : b = m + 1 ∨ b = m := by simpa using hb
    rcases e' with z | z
    · rw [z]; exact ⟨_, he, fun v q => nomatch q⟩
    · rw [z]; exact st.live
  keep := fun i h h' ⟨⟨old, he⟩, hi⟩ k => ⟨⟨old, k (m + 1) (by simp) _ he⟩, hi.at fun o q => k m (by simp) o q⟩
  item := by
    intro X hP hw hK hc i pins s σ H E I hf ⟨⟨old, he⟩, hit⟩ ⟨xs, y, hq, hy⟩
    subst hP hw hK
    have hh : X.A.in1.handled = none := by exact I.ok.hd hc
    obtain ⟨fp, Hold, h0, hm, hfp, D⟩ := src_draws (A := X.A.in1) hh I hq ru m fun b e => Nat.ne_of_lt (hlt b e)
    have hef : (m + 1) ∉ fp := fun z => by
      rcases hfp _ z with e | e
      · exact Nat.succ_ne_self m e
      · exact absurd (hlt _ e) (Nat.not_lt.mpr (Nat.le_succ m))
    have W := GoesN.enumFrom (elts := elts) (x1 := kk) (pos := tpos) 0 D (m + 1) (Nat.succ_ne_self m) hef hm
    have hi : i < xs.length := (List.getElem?_eq_some_iff.mp hy).1
    refine W.goes i s _ E hi ⟨⟨old, by simpa using he⟩, hit, h0⟩ fun v h' tk hY st' hk htk => ?_
    obtain ⟨T, t, x', ev, hT, ⟨y', ey, ry⟩, hTup⟩ := hY
    obtain ⟨⟨old', he'⟩, hit', _⟩ := st'
    rw [hy] at ey
    cases ey
    have new : ObjOk X.prog X.w (upd H T (.tup [.int (i : Nat), y])) h' T (.tup [.int (i : Nat), y]) :=
      ⟨by show 2 ≤ sizeLine; decide, [.int (i : Nat) t, x'], .cons ⟨_, rfl⟩ (.cons ry .nil), by rw [Int.zero_add] at hTup; exact hTup⟩
    have I1 : Inv X pins σ (upd H T (.tup [.int (i : Nat), y])) { s with heap := h', toks := tk } :=
      I.turnedNew (ch := [m + 1, m]) (fun b ob hb q => hk b ob hb q) hf hT new
    refine ⟨.ref T, _, I1, by rw [ev]; rfl, ⟨T, y, rfl, I.hok.fresh hT, rfl, fun ys hys => by rw [← hq.inj I hys]; exact hy⟩, ⟨⟨old', ?_⟩, hit'⟩, fun b hb => ?_⟩
    · simpa using he'
    · have hb' : b < s.heap.objs.size := by
        have e' : b = m + 1 ∨ b = m := by simpa using hb
        rcases e' with z | z
        · rw [z]; exact Heap.lt_size he
        · rw [z]; obtain ⟨o, q, _⟩ := hit.live; exact Heap.lt_size q
      rw [upd_ne (Nat.ne_of_lt (Nat.lt_of_lt_of_le hb' hT))]
      exact (hf b hb).1
  done := by
    intro X hP hw hK hc i pins s σ H E I hf ⟨⟨old, he⟩, hit⟩ ⟨xs, hq, hl⟩
    subst hP hw hK
    subst hl
    have hh : X.A.in1.handled = none := by exact I.ok.hd hc
    obtain ⟨fp, Hold, h0, hm, hfp, D⟩ := src_draws (A := X.A.in1) hh I hq ru m fun b e => Nat.ne_of_lt (hlt b e)
    have hef : (m + 1) ∉ fp := fun z => by
      rcases hfp _ z with e | e
      · exact Nat.succ_ne_self m e
      · exact absurd (hlt _ e) (Nat.not_lt.mpr (Nat.le_succ m))
    have W := GoesN.enumFrom (elts := elts) (x1 := kk) (pos := tpos) 0 D (m + 1) (Nat.succ_ne_self m) hef hm
    refine W.stops s _ E ⟨⟨old, by simpa using he⟩, hit, h0⟩ fun h' tk hk htk => ?_
    exact I.turnedL (ch := [m + 1, m]) (fun b ob hb q => hk b ob hb q) hf
  self := fun A i s Q E ⟨⟨_, he⟩, _⟩ h => wpAny_pyIter_enum he h
def iEnumA (K : PySem.W.Frag) (ta : TA) : TI := fun σ H R => ta σ H fun vs H1 => ∃ k x xs, vs = [x] ∧ SrcA K k H1 x xs ∧ R (IteA K k x) H1
theorem pi_enumA {X : Cx} {e : Expr} {ta : TA} {p pos tpos : Pos} {elts : List Expr} {kk : Nat} (hg : Gl X "enumerate") (hm : X.mg "enumerate" = none) (ha : PA X [e] ta) (hs : starEach [e] X.env = [(false, eval e X.env)] := by rfl) :
    PI X (.Tuple elts kk tpos) (.Call (.Name "enumerate" p) [e] [] pos) (iEnumA X.K ta) := by
  refine ⟨fun pins s σ H R I h => ?_⟩
  refine Call_ (ld_blt I hg hm boot_enumerate (PyProof.Rows.callWith_type1 (thn (ha.run pos pins s σ H _ I h) fun us s1 ⟨vs, H1, I1, r1, q1⟩ => ?_) hs rfl))
  obtain ⟨k, x, xs, ex, hq, q⟩ := q1
  subst ex
  cases r1 with
  | cons r rr =>
    cases rr
    obtain ⟨o, Hold, B, h0, hlt, hit⟩ := src_begins I1 hq r
    refine enum_begins0 B h0 fun h' he ho hsz hk => wpAny_pyIter_enum he ?_
    have I2 : Inv X pins σ H1 { s1 with heap := h' } := I1.kept (t' := s1.toks) hk
    refine ⟨s1.heap.objs.size + 1, [s1.heap.objs.size + 1, s1.heap.objs.size], _, _, H1, rfl, I2, turn_enumA r s1.heap.objs.size hlt, ⟨⟨.none, he⟩, hit h' _ ho⟩, fun b hb => ?_, q⟩
    have e' : b = s1.heap.objs.size + 1 ∨ b = s1.heap.objs.size := by simpa using hb
    have hle : s1.heap.objs.size ≤ b := by
      rcases e' with z | z
      · rw [z]; exact Nat.le_add_right _ _
      · rw [z]; exact Nat.le_refl _
    exact I1.fpOk hle (I1.hok.fresh hle)
end R

namespace R
open PySem L2 PyProof.Rows
def IzA (K : PySem.W.Frag) (k k2 : SrcK) (x y : V) : It :=
  ⟨fun i H => ∃ (xs ys : List V) (v w : V), SrcA K k H x xs ∧ SrcA K k2 H y ys ∧ xs[i]? = some v ∧ ys[i]? = some w,
   fun i H v H' => ∃ T a b, v = .ref T ∧ H T = none ∧ H' = upd H T (.tup [a, b]) ∧ (∀ xs, SrcA K k H x xs → xs[i]? = some a) ∧ ∀ ys, SrcA K k2 H y ys → ys[i]? = some b,
   fun i H => ∃ xs ys : List V, SrcA K k H x xs ∧ SrcA K k2 H y ys ∧ min xs.length ys.length = i⟩
theorem zsep2 {m : Nat} {u u2 : Value} {fp fp2 : List Addr} (h1 : ∀ b, u = .ref b → b < m) (h2 : ∀ b, u2 = .ref b → b < m) (m1 : m ∈ fp) (m2 : (m + 1) ∈ fp2) (f1 : ∀ b ∈ fp, b = m ∨ u = .ref b) (f2 : ∀ b ∈ fp2, b = m + 1 ∨ u2 = .ref b) : ZipSep2 (m + 4) (m + 2) (m + 3) m (m + 1) fp fp2 := by
  have o1 : ∀ k, m + (k + 1) ∉ fp := fun k z => by
    rcases f1 _ z with e | e
    · exact absurd e (show m + (k + 1) ≠ m by omega)
    · exact absurd (h1 _ e) (Nat.not_lt.mpr (Nat.le_add_right m (k + 1)))
  have o2 : ∀ k, m + k ≠ m + 1 → m + k ∉ fp2 := fun k hk z => by
    rcases f2 _ z with e | e
    · exact hk e
    · exact absurd (h2 _ e) (Nat.not_lt.mpr (Nat.le_add_right m k))
  exact ⟨show m + 2 ≠ m + 4 by omega, show m + 3 ≠ m + 4 by omega, show m + 2 ≠ m + 3 by omega, show m + 2 ≠ m by omega, m1, o1 3, o1 2, show m + 2 ≠ m + 1 by omega, m2, o2 4 (by omega), o2 3 (by omega), o2 0 (by omega), o1 0⟩
theorem turn_zipA {P : Program} {w : World} {K : PySem.W.Frag} {elts : List Expr} {kk : Nat} {tpos : Pos} {k k2 : SrcK} {x y : V} {u u2 : Value} (ru : RelV x u) (ru2 : RelV y u2) (m : Nat) (hlt : ∀ b, u = .ref b → b < m) (hlt2 : ∀ b, u2 = .ref b → b < m) :
    Turn P w K (.Tuple elts kk tpos) (IzA K k k2 x y) [m + 4, m + 3, m, m + 1, m + 2] (m + 4) (fun i h => IsZip h (m + 4) (m + 2) (m + 3) .none ∧ IsTupOf2 h (m + 2) (.ref m) (.ref (m + 1)) ∧ (∃ a1 a2, IsTupOf2 h (m + 3) a1 a2) ∧ IterAt k h m u i ∧ IterAt k2 h (m + 1) u2 i) where
  mem := by simp
  obj := fun i h ⟨hz, hTI, ⟨a1, a2, hTO⟩, st, st2⟩ b hb => by
    have e' : b = m + 4 ∨ b = m + 3 ∨ b = m ∨ b = m + 1 ∨ b = m + 2 := by simpa using hb
    rcases e' with z | z | z | z | z
    · rw [z]; exact ⟨_, hz, fun v q => nomatch q⟩
    · rw [z]; exact ⟨_, hTO, fun v q => nomatch q⟩
    · rw [z]; exact st.live
    · rw [z]; exact st2.live
    · rw [z]; exact ⟨_, hTI, fun v q => nomatch q⟩
  keep := fun i h h' ⟨hz, hTI, ⟨a1, a2, hTO⟩, st, st2⟩ k => ⟨k (m + 4) (by simp) _ hz, k (m + 2) (by simp) _ hTI, ⟨a1, a2, k (m + 3) (by simp) _ hTO⟩, st.at fun o q => k m (by simp) o q, st2.at fun o q => k (m + 1) (by simp) o q⟩
  item := by
    intro X hP hw hK hc i pins s σ H E I hf ⟨hz, hTI, hTO, st, st2⟩ ⟨xs, ys, v, w, hq, hq2, hv, hw'⟩
    subst hP hw hK
    have hh : X.A.in1.handled = none := by exact I.ok.hd hc
    obtain ⟨fp, Hold, h0, hm, hfp, D⟩ := src_draws (A := X.A.in1) hh I hq ru m fun b e => Nat.ne_of_lt (hlt b e)
    obtain ⟨fp2, Hold2, h02, hm2, hfp2, D2⟩ := src_draws (A := X.A.in1) hh I hq2 ru2 (m + 1) fun b e => Nat.ne_of_lt (Nat.lt_succ_of_lt (hlt2 b e))
    have W := GoesN.zip2 (elts := elts) (x1 := kk) (pos := tpos) (zsep2 hlt hlt2 hm hm2 hfp hfp2) D D2
    have hi : i < min xs.length ys.length := Nat.lt_min.mpr ⟨(List.getElem?_eq_some_iff.mp hv).1, (List.getElem?_eq_some_iff.mp hw').1⟩
    refine W.goes i s _ E hi ⟨hz, hTI, hTO, ⟨st, h0⟩, ⟨st2, h02⟩⟩ fun z h' tk hY st' hk htk => ?_
    obtain ⟨T, a, b, ev, hT, ⟨a', ea, ra⟩, ⟨b', eb, rb⟩, hTup⟩ := hY
    obtain ⟨hz', hTI', hTO', ⟨st', _⟩, ⟨st2', _⟩⟩ := st'
    rw [hv] at ea
    rw [hw'] at eb
    cases ea
    cases eb
    have new : ObjOk X.prog X.w (upd H T (.tup [v, w])) h' T (.tup [v, w]) := ⟨by show 2 ≤ sizeLine; decide, [a, b], .cons ra (.cons rb .nil), hTup⟩
    have hf' : ∀ b ∈ [m + 4, m + 3, m, m + 1], FpOk X pins H b := fun b hb => hf b (List.mem_append_left [m + 2] hb)
    have I1 : Inv X pins σ (upd H T (.tup [v, w])) { s with heap := h', toks := tk } := I.turnedNew (ch := [m + 4, m + 3, m, m + 1]) (fun b ob hb q => hk b ob hb q) hf' hT new
    refine ⟨.ref T, _, I1, by rw [ev]; rfl, ⟨T, v, w, rfl, I.hok.fresh hT, rfl, fun l hl => by rw [← hq.inj I hl]; exact hv, fun l hl => by rw [← hq2.inj I hl]; exact hw'⟩, ⟨hz', hTI', hTO', st', st2'⟩, fun b hb => ?_⟩
    have hb' : b < s.heap.objs.size := by
      have e' : b = m + 4 ∨ b = m + 3 ∨ b = m ∨ b = m + 1 ∨ b = m + 2 := by simpa using hb
      rcases e' with z | z | z | z | z
      · rw [z]; exact Heap.lt_size hz
      · rw [z]; obtain ⟨_, _, q⟩ := hTO; exact Heap.lt_size q
      · rw [z]; obtain ⟨o, q, _⟩ := st.live; exact Heap.lt_size q
      · rw [z]; obtain ⟨o, q, _⟩ := st2.live; exact Heap.lt_size q
      · rw [z]; exact Heap.lt_size hTI
    rw [upd_ne (Nat.ne_of_lt (Nat.lt_of_lt_of_le hb' hT))]
    exact (hf b hb).1
  done := by
    intro X hP hw hK hc i pins s σ H E I hf ⟨hz, hTI, hTO, st, st2⟩ ⟨xs, ys, hq, hq2, hl⟩
    subst hP hw hK
    subst hl
    have hh : X.A.in1.handled = none := by exact I.ok.hd hc
    obtain ⟨fp, Hold, h0, hm, hfp, D⟩ := src_draws (A := X.A.in1) hh I hq ru m fun b e => Nat.ne_of_lt (hlt b e)
    obtain ⟨fp2, Hold2, h02, hm2, hfp2, D2⟩ := src_draws (A := X.A.in1) hh I hq2 ru2 (m + 1) fun b e => Nat.ne_of_lt (Nat.lt_succ_of_lt (hlt2 b e))
    have W := GoesN.zip2 (elts := elts) (x1 := kk) (pos := tpos) (zsep2 hlt hlt2 hm hm2 hfp hfp2) D D2
    refine W.stops s _ E ⟨hz, hTI, hTO, ⟨st, h0⟩, ⟨st2, h02⟩⟩ fun h' tk hk htk => ?_
    exact I.turnedL (ch := [m + 4, m + 3, m, m + 1]) (fun b ob hb q => hk b ob hb q) fun b hb => hf b (List.mem_append_left [m + 2] hb)
  self := fun A i s Q E st h => wpAny_pyIter_zip st.1 h
def iZA (K : PySem.W.Frag) (ta : TA) : TI := fun σ H R => ta σ H fun vs H1 => ∃ k k2 x y xs ys, vs = [x, y] ∧ SrcA K k H1 x xs ∧ SrcA K k2 H1 y ys ∧ R (IzA K k k2 x y) H1
theorem pi_zA {X : Cx} {e e2 : Expr} {ta : TA} {p pos tpos : Pos} {elts : List Expr} {kk : Nat} (hg : Gl X "zip") (hm : X.mg "zip" = none) (ha : PA X [e, e2] ta)
    (hs : starEach [e, e2] X.env = (false, eval e X.env) :: starEach [e2] X.env := by rfl) (hpl : (backTo pos (starEach [e2] X.env)).any (·.1) = false := by rfl) :
    PI X (.Tuple elts kk tpos) (.Call (.Name "zip" p) [e, e2] [] pos) (iZA X.K ta) := by
  refine ⟨fun pins s σ H R I h => ?_⟩
  refine Call_ (ld_blt I hg hm PyProof.Rows.boot_zip (PyProof.Rows.callWith_type1 (thn (ha.run pos pins s σ H _ I h) fun us s1 ⟨vs, H1, I1, r1, q1⟩ => ?_) hs hpl))
  obtain ⟨k, k2, x, y, xs, ys, ex, hqx, hqy, q⟩ := q1
  subst ex
  cases r1 with
  | cons r rr =>
    cases rr with
    | cons r' rr =>
      cases rr
      obtain ⟨o, Hold, B, h0, hlt, hit⟩ := src_begins I1 hqx r
      obtain ⟨o2, Hold2, B2, h02, hlt2, hit2⟩ := src_begins I1 hqy r'
      refine zip_begins2 B B2 h0 h02 fun h' hz hTI hTO h1 h2 hsz hk => wpAny_pyIter_zip hz ?_
      have I2 : Inv X pins σ H1 { s1 with heap := h' } := I1.kept (t' := s1.toks) hk
      refine ⟨s1.heap.objs.size + 4, [s1.heap.objs.size + 4, s1.heap.objs.size + 3, s1.heap.objs.size, s1.heap.objs.size + 1, s1.heap.objs.size + 2], _, _, H1, rfl, I2, turn_zipA r r' s1.heap.objs.size hlt hlt2, ⟨hz, hTI, ⟨_, _, hTO⟩, hit h' _ h1, hit2 h' _ h2⟩, fun c hcm => ?_, q⟩
      have hle : s1.heap.objs.size ≤ c := by
        have e' : c = s1.heap.objs.size + 4 ∨ c = s1.heap.objs.size + 3 ∨ c = s1.heap.objs.size ∨ c = s1.heap.objs.size + 1 ∨ c = s1.heap.objs.size + 2 := by simpa using hcm
        rcases e' with z | z | z | z | z
        · rw [z]; exact Nat.le_add_right _ _
        · rw [z]; exact Nat.le_add_right _ _
        · rw [z]; exact Nat.le_refl _
        · rw [z]; exact Nat.le_add_right _ _
        · rw [z]; exact Nat.le_add_right _ _
      exact I1.fpOk hle (I1.hok.fresh hle)
/-! ### three -/
def Iz3 (K : PySem.W.Frag) (k k2 k3 : SrcK) (x y z : V) : It :=
  ⟨fun i H => ∃ (xs ys zs : List V) (v w r : V), SrcA K k H x xs ∧ SrcA K k2 H y ys ∧ SrcA K k3 H z zs ∧ xs[i]? = some v ∧ ys[i]? = some w ∧ zs[i]? = some r,
   fun i H v H' => ∃ T a b c, v = .ref T ∧ H T = none ∧ H' = upd H T (.tup [a, b, c]) ∧ (∀ xs, SrcA K k H x xs → xs[i]? = some a) ∧ (∀ ys, SrcA K k2 H y ys → ys[i]? = some b) ∧ ∀ ys, SrcA K k3 H z ys → ys[i]? = some c,
   fun i H => ∃ xs ys zs : List V, SrcA K k H x xs ∧ SrcA K k2 H y ys ∧ SrcA K k3 H z zs ∧ min (min xs.length ys.length) zs.length = i⟩
theorem zsep3 {m : Nat} {u u2 u3 : Value} {fp fp2 fp3 : List Addr} (h1 : ∀ b, u = .ref b → b < m) (h2 : ∀ b, u2 = .ref b → b < m) (h3 : ∀ b, u3 = .ref b → b < m) (m1 : m ∈ fp) (m2 : (m + 1) ∈ fp2) (m3 : (m + 2) ∈ fp3) (f1 : ∀ b ∈ fp, b = m ∨ u = .ref b) (f2 : ∀ b ∈ fp2, b = m + 1 ∨ u2 = .ref b) (f3 : ∀ b ∈ fp3, b = m + 2 ∨ u3 = .ref b) :
    ZipSep3 (m + 5) (m + 3) (m + 4) m (m + 1) (m + 2) fp fp2 fp3 := by
  have o1 : ∀ k, m + k ≠ m → m + k ∉ fp := fun k hk z => by
    rcases f1 _ z with e | e
    · exact hk e
    · exact absurd (h1 _ e) (Nat.not_lt.mpr (Nat.le_add_right m k))
  have o2 : ∀ k, m + k ≠ m + 1 → m + k ∉ fp2 := fun k hk z => by
    rcases f2 _ z with e | e
    · exact hk e
    · exact absurd (h2 _ e) (Nat.not_lt.mpr (Nat.le_add_right m k))
  have o3 : ∀ k, m + k ≠ m + 2 → m + k ∉ fp3 := fun k hk z => by
    rcases f3 _ z with e | e
    · exact hk e
    · exact absurd (h3 _ e) (Nat.not_lt.mpr (Nat.le_add_right m k))
  exact ⟨show m + 3 ≠ m + 5 by omega, show m + 4 ≠ m + 5 by omega, show m + 3 ≠ m + 4 by omega, show m + 3 ≠ m by omega, m1, o1 5 (by omega), o1 4 (by omega), show m + 3 ≠ m + 1 by omega, m2, o2 5 (by omega), o2 4 (by omega),
    show m + 3 ≠ m + 2 by omega, m3, o3 5 (by omega), o3 4 (by omega), o2 0 (by omega), o3 0 (by omega), o1 1 (by omega), o3 1 (by omega), o1 2 (by omega), o2 2 (by omega)⟩
theorem turn_zip3 {P : Program} {w : World} {K : PySem.W.Frag} {elts : List Expr} {kk : Nat} {tpos : Pos} {k k2 k3 : SrcK} {x y z : V} {u u2 u3 : Value} (ru : RelV x u) (ru2 : RelV y u2) (ru3 : RelV z u3) (m : Nat) (hlt : ∀ b, u = .ref b → b < m) (hlt2 : ∀ b, u2 = .ref b → b < m) (hlt3 : ∀ b, u3 = .ref b → b < m) :
    Turn P w K (.Tuple elts kk tpos) (Iz3 K k k2 k3 x y z) [m + 5, m + 4, m, m + 1, m + 2, m + 3] (m + 5) (fun i h => IsZip h (m + 5) (m + 3) (m + 4) .none ∧ IsTupOf3 h (m + 3) (.ref m) (.ref (m + 1)) (.ref (m + 2)) ∧ (∃ a1 a2 a3, IsTupOf3 h (m + 4) a1 a2 a3) ∧ IterAt k h m u i ∧ IterAt k2 h (m + 1) u2 i ∧ IterAt k3 h (m + 2) u3 i) where
  mem := by simp
  obj := fun i h ⟨hz, hTI, ⟨a1, a2, a3, hTO⟩, st, st2, st3⟩ b hb => by
    have e' : b = m + 5 ∨ b = m + 4 ∨ b = m ∨ b = m + 1 ∨ b = m + 2 ∨ b = m + 3 := by simpa using hb
    rcases e' with z | z | z | z | z | z
    · rw [z]; exact ⟨_, hz, fun v q => nomatch q⟩
    · rw [z]; exact ⟨_, hTO, fun v q => nomatch q⟩
    · rw [z]; exact st.live
    · rw [z]; exact st2.live
    · rw [z]; exact st3.live
    · rw [z]; exact ⟨_, hTI, fun v q => nomatch q⟩
  keep := fun i h h' ⟨hz, hTI, ⟨a1, a2, a3, hTO⟩, st, st2, st3⟩ k => ⟨k (m + 5) (by simp) _ hz, k (m + 3) (by simp) _ hTI, ⟨a1, a2, a3, k (m + 4) (by simp) _ hTO⟩, st.at fun o q => k m (by simp) o q, st2.at fun o q => k (m + 1) (by simp) o q, st3.at fun o q => k (m + 2) (by simp) o q⟩
  item := by
    intro X hP hw hK hc i pins s σ H E I hf ⟨hz, hTI, hTO, st, st2, st3⟩ ⟨xs, ys, zs, v, w, r, hq, hq2, hq3, hv, hw', hr⟩
    subst hP hw hK
    have hh : X.A.in1.handled = none := by exact I.ok.hd hc
    obtain ⟨fp, Hold, h0, hm, hfp, D⟩ := src_draws (A := X.A.in1) hh I hq ru m fun b e => Nat.ne_of_lt (hlt b e)
    obtain ⟨fp2, Hold2, h02, hm2, hfp2, D2⟩ := src_draws (A := X.A.in1) hh I hq2 ru2 (m + 1) fun b e => Nat.ne_of_lt (Nat.lt_succ_of_lt (hlt2 b e))
    obtain ⟨fp3, Hold3, h03, hm3, hfp3, D3⟩ := src_draws (A := X.A.in1) hh I hq3 ru3 (m + 2) fun b e => Nat.ne_of_lt (Nat.lt_of_lt_of_le (hlt3 b e) (Nat.le_add_right m 2))
    have W := GoesN.zip3 (elts := elts) (x1 := kk) (pos := tpos) (zsep3 hlt hlt2 hlt3 hm hm2 hm3 hfp hfp2 hfp3) D D2 D3
    have hi : i < min (min xs.length ys.length) zs.length := Nat.lt_min.mpr ⟨Nat.lt_min.mpr ⟨(List.getElem?_eq_some_iff.mp hv).1, (List.getElem?_eq_some_iff.mp hw').1⟩, (List.getElem?_eq_some_iff.mp hr).1⟩
    refine W.goes i s _ E hi ⟨hz, hTI, hTO, ⟨st, h0⟩, ⟨st2, h02⟩, ⟨st3, h03⟩⟩ fun zz h' tk hY st' hk htk => ?_
    obtain ⟨T, a, b, c, ev, hT, ⟨a', ea, ra⟩, ⟨b', eb, rb⟩, ⟨c', ec, rc⟩, hTup⟩ := hY
    obtain ⟨hz', hTI', hTO', ⟨st', _⟩, ⟨st2', _⟩, ⟨st3', _⟩⟩ := st'
    rw [hv] at ea
    rw [hw'] at eb
    rw [hr] at ec
    cases ea
    cases eb
    cases ec
    have new : ObjOk X.prog X.w (upd H T (.tup [v, w, r])) h' T (.tup [v, w, r]) := ⟨by show 3 ≤ sizeLine; decide, [a, b, c], .cons ra (.cons rb (.cons rc .nil)), hTup⟩
    have hf' : ∀ b ∈ [m + 5, m + 4, m, m + 1, m + 2], FpOk X pins H b := fun b hb => hf b (List.mem_append_left [m + 3] hb)
    have I1 : Inv X pins σ (upd H T (.tup [v, w, r])) { s with heap := h', toks := tk } := I.turnedNew (ch := [m + 5, m + 4, m, m + 1, m + 2]) (fun b ob hb q => hk b ob hb q) hf' hT new
    refine ⟨.ref T, _, I1, by rw [ev]; rfl, ⟨T, v, w, r, rfl, I.hok.fresh hT, rfl, fun l hl => by rw [← hq.inj I hl]; exact hv, fun l hl => by rw [← hq2.inj I hl]; exact hw', fun l hl => by rw [← hq3.inj I hl]; exact hr⟩, ⟨hz', hTI', hTO', st', st2', st3'⟩, fun b hb => ?_⟩
    have hb' : b < s.heap.objs.size := by
      have e' : b = m + 5 ∨ b = m + 4 ∨ b = m ∨ b = m + 1 ∨ b = m + 2 ∨ b = m + 3 := by simpa using hb
      rcases e' with z | z | z | z | z | z
      · rw [z]; exact Heap.lt_size hz
      · rw [z]; obtain ⟨_, _, _, q⟩ := hTO; exact Heap.lt_size q
      · rw [z]; obtain ⟨o, q, _⟩ := st.live; exact Heap.lt_size q
      · rw [z]; obtain ⟨o, q, _⟩ := st2.live; exact Heap.lt_size q
      · rw [z]; obtain ⟨o, q, _⟩ := st3.live; exact Heap.lt_size q
      · rw [z]; exact Heap.lt_size hTI
    rw [upd_ne (Nat.ne_of_lt (Nat.lt_of_lt_of_le hb' hT))]
    exact (hf b hb).1
  done := by
    intro X hP hw hK hc i pins s σ H E I hf ⟨hz, hTI, hTO, st, st2, st3⟩ ⟨xs, ys, zs, hq, hq2, hq3, hl⟩
    subst hP hw hK
    subst hl
    have hh : X.A.in1.handled = none := by exact I.ok.hd hc
    obtain ⟨fp, Hold, h0, hm, hfp, D⟩ := src_draws (A := X.A.in1) hh I hq ru m fun b e => Nat.ne_of_lt (hlt b e)
    obtain ⟨fp2, Hold2, h02, hm2, hfp2, D2⟩ := src_draws (A := X.A.in1) hh I hq2 ru2 (m + 1) fun b e => Nat.ne_of_lt (Nat.lt_succ_of_lt (hlt2 b e))
    obtain ⟨fp3, Hold3, h03, hm3, hfp3, D3⟩ := src_draws (A := X.A.in1) hh I hq3 ru3 (m + 2) fun b e => Nat.ne_of_lt (Nat.lt_of_lt_of_le (hlt3 b e) (Nat.le_add_right m 2))
    have W := GoesN.zip3 (elts := elts) (x1 := kk) (pos := tpos) (zsep3 hlt hlt2 hlt3 hm hm2 hm3 hfp hfp2 hfp3) D D2 D3
    refine W.stops s _ E ⟨hz, hTI, hTO, ⟨st, h0⟩, ⟨st2, h02⟩, ⟨st3, h03⟩⟩ fun h' tk hk htk => ?_
    exact I.turnedL (ch := [m + 5, m + 4, m, m + 1, m + 2]) (fun b ob hb q => hk b ob hb q) fun b hb => hf b (List.mem_append_left [m + 3] hb)
  self := fun A i s Q E st h => wpAny_pyIter_zip st.1 h
def iZ3 (K : PySem.W.Frag) (ta : TA) : TI := fun σ H R => ta σ H fun vs H1 => ∃ k k2 k3 x y z xs ys zs, vs = [x, y, z] ∧ SrcA K k H1 x xs ∧ SrcA K k2 H1 y ys ∧ SrcA K k3 H1 z zs ∧ R (Iz3 K k k2 k3 x y z) H1
theorem pi_z3 {X : Cx} {e e2 e3 : Expr} {ta : TA} {p pos tpos : Pos} {elts : List Expr} {kk : Nat} (hg : Gl X "zip") (hm : X.mg "zip" = none) (ha : PA X [e, e2, e3] ta)
    (hs : starEach [e, e2, e3] X.env = (false, eval e X.env) :: starEach [e2, e3] X.env := by rfl) (hpl : (backTo pos (starEach [e2, e3] X.env)).any (·.1) = false := by rfl) :
    PI X (.Tuple elts kk tpos) (.Call (.Name "zip" p) [e, e2, e3] [] pos) (iZ3 X.K ta) := by
  refine ⟨fun pins s σ H R I h => ?_⟩
  refine Call_ (ld_blt I hg hm PyProof.Rows.boot_zip (PyProof.Rows.callWith_type1 (thn (ha.run pos pins s σ H _ I h) fun us s1 ⟨vs, H1, I1, r1, q1⟩ => ?_) hs hpl))
  obtain ⟨k, k2, k3, x, y, z, xs, ys, zs, ex, hqx, hqy, hqz, q⟩ := q1
  subst ex
  cases r1 with
  | cons r rr =>
    cases rr with
    | cons r' rr =>
      cases rr with
      | cons r'' rr =>
        cases rr
        obtain ⟨o, Hold, B, h0, hlt, hit⟩ := src_begins I1 hqx r
        obtain ⟨o2, Hold2, B2, h02, hlt2, hit2⟩ := src_begins I1 hqy r'
        obtain ⟨o3, Hold3, B3, h03, hlt3, hit3⟩ := src_begins I1 hqz r''
        refine zip_begins3 B B2 B3 h0 h02 h03 fun h' hz hTI hTO h1 h2 h3 hsz hk => wpAny_pyIter_zip hz ?_
        have I2 : Inv X pins σ H1 { s1 with heap := h' } := I1.kept (t' := s1.toks) hk
        refine ⟨s1.heap.objs.size + 5, [s1.heap.objs.size + 5, s1.heap.objs.size + 4, s1.heap.objs.size, s1.heap.objs.size + 1, s1.heap.objs.size + 2, s1.heap.objs.size + 3], _, _, H1, rfl, I2, turn_zip3 r r' r'' s1.heap.objs.size hlt hlt2 hlt3, ⟨hz, hTI, ⟨_, _, _, hTO⟩, hit h' _ h1, hit2 h' _ h2, hit3 h' _ h3⟩, fun c hcm => ?_, q⟩
        have hle : s1.heap.objs.size ≤ c := by
          have e' : c = s1.heap.objs.size + 5 ∨ c = s1.heap.objs.size + 4 ∨ c = s1.heap.objs.size ∨ c = s1.heap.objs.size + 1 ∨ c = s1.heap.objs.size + 2 ∨ c = s1.heap.objs.size + 3 := by simpa using hcm
          rcases e' with z | z | z | z | z | z
          · rw [z]; exact Nat.le_add_right _ _
          · rw [z]; exact Nat.le_add_right _ _
          · rw [z]; exact Nat.le_refl _
          · rw [z]; exact Nat.le_add_right _ _
          · rw [z]; exact Nat.le_add_right _ _
          · rw [z]; exact Nat.le_add_right _ _
        exact I1.fpOk hle (I1.hok.fresh hle)
end R

/-! R17: enumerate, zip; more assignments. -/
namespace R
open PySem L2
section
variable {G : Cfg} {E : XK} {X : Cx} {p p' : List Addr} {H H' : Hp} {st : Sto} {ls : Ls} {σ : L2.St} {a b c : Expr} {fa fb fc : SE} {pos : Pos} {tg : Expr} {fs : SA}
/-! ### what may be walked -/
def strD (z : Str) : List Dv := z.cps.toList.map fun c => .str ⟨#[c]⟩
def asS (st : Sto) : Dv → Option (List Dv)
  | .tup ds => some ds
  | .str z => some (strD z)
  | x => asL st x
def kindD : Dv → SrcK
  | .tup _ => .tup
  | .str _ => .str
  | _ => .lst
theorem strD_rep (z : Str) : RepL G.K p H (strD z) (signs z) := by
  unfold strD signs
  generalize z.cps.toList = l
  induction l with
  | nil => exact RepL.nil
  | cons c l ih => exact RepL.cons (by simp [Rep]) ih
theorem Sim.asS (S : Sim G p st H) {d : Dv} {ds : List Dv} {v : V} (h : asS st d = some ds) (r : Rep G.K p H d v) : ∃ xs, SrcA G.K (kindD d) H v xs ∧ RepL G.K p H ds xs := by
  cases d with
  | tup es =>
    cases h
    obtain ⟨a, xs, e, hq, l⟩ := rep_tup r
    exact ⟨xs, ⟨a, e, hq⟩, l⟩
  | str z =>
    cases h
    exact ⟨_, ⟨z, rep_str r, rfl⟩, strD_rep z⟩
  | ref n => obtain ⟨a, xs, e, hq, l⟩ := S.asL (d := .ref n) h r; exact ⟨xs, ⟨a, e, hq⟩, l⟩
  | cst es => obtain ⟨a, xs, e, hq, l⟩ := S.asL (d := .cst es) h r; exact ⟨xs, ⟨a, e, hq⟩, l⟩
  | wri es => obtain ⟨a, xs, e, hq, l⟩ := S.asL (d := .wri es) h r; exact ⟨xs, ⟨a, e, hq⟩, l⟩
  | non => cases h
  | bl _ => cases h
  | int _ => cases h
  | dic _ _ => cases h
  | dct _ _ => cases h
def wkE (x : Dv) (l : Nat) : Wk := ⟨l, fun i st => match asS st x with
  | some ds => if i ≤ ds.length then some (ds[i]?.map fun d => .tup [.int (i : Nat), d]) else none
  | none => none⟩
theorem rw_enum {d0 : Dv} {l : Nat} {v0 : V} (ha : Rep G.K p H d0 v0) : rW G p H (wkE d0 l) (IteA G.K (kindD d0) v0) := by
  intro p1 H1 st1 g S i
  cases e : asS st1 d0 with
  | none =>
    have e0 : (wkE d0 l).at_ i st1 = none := by show (match asS st1 d0 with | some ds => _ | none => none) = _; rw [e]
    rw [e0]; trivial
  | some ds =>
    obtain ⟨xs, hq, r⟩ := S.asS e (ha.grow g)
    have e0 : (wkE d0 l).at_ i st1 = if i ≤ ds.length then some (ds[i]?.map fun d => .tup [.int (i : Nat), d]) else none := by show (match asS st1 d0 with | some ds => _ | none => none) = _; rw [e]
    rw [e0]
    by_cases hi : i ≤ ds.length
    · rw [if_pos hi]
      cases e2 : ds[i]? with
      | none =>
        have := List.getElem?_eq_none_iff.mp e2
        exact ⟨xs, hq, by rw [RepL.length r]; omega⟩
      | some d =>
        obtain ⟨x, h1, h2⟩ := RepL.get r e2
        refine ⟨⟨xs, x, hq, h1⟩, fun y H' ⟨T, z, hv, hn, eH, hy⟩ => ?_⟩
        have hz := hy xs hq
        rw [h1] at hz
        cases hz
        rw [eH, hv]
        exact ⟨p1, Grow.new hn, S.beside hn, T, _, rfl, SqT.of upd_same, RepL.cons (by simp [Rep]) (RepL.cons (h2.grow (Grow.new hn)) RepL.nil)⟩
    · rw [if_neg hi]
      trivial
def wEnum (fs : SA) : SW := fun ls st => (fs ls st).bind fun ds st1 => match ds with
  | [x] => match asS st1 x with
    | some xs => rOk (wkE x xs.length) st1
    | none => none
  | _ => none
theorem w_enum {pp tpos : Pos} {elts : List Expr} {kk : Nat} (hg : Gl X "enumerate") (hm : X.mg "enumerate" = none) (ha : PA X [a] (tA G E fs)) (hK : G.K = X.K := by rfl) (hs : starEach [a] X.env = [(false, eval a X.env)] := by rfl) :
    PI X (.Tuple elts kk tpos) (.Call (.Name "enumerate" pp) [a] [] pos) (tI G E (wEnum fs)) :=
  PI.fit (pi_enumA hg hm ha hs) fun σ H Q ⟨p, ls, st, S, L, q⟩ => tM_bind S L q fun p1 st1 ds vs H1 S1 g1 L1 r1 q1 => by
    split at q1
    · split at q1
      · rename_i x _ xs e
        obtain ⟨v, rfl, h⟩ := repL1 r1
        obtain ⟨ys, hq, r⟩ := S1.asS e h
        rw [hK] at hq
        refine ⟨_, _, ys, rfl, hq, q1.now S1 (Grow.refl _ _) ?_⟩
        rw [← hK]
        exact rw_enum h
      · exact q1.no
    · exact q1.no
def zAt (xs ys : List Dv) (i : Nat) : Option Dv := match xs[i]?, ys[i]? with
  | some x, some y => some (.tup [x, y])
  | _, _ => none
def wkZ (x y : Dv) (l : Nat) : Wk := ⟨l, fun i st => match asS st x, asS st y with
  | some xs, some ys => if i ≤ min xs.length ys.length then some (zAt xs ys i) else none
  | _, _ => none⟩
theorem zAt_none {xs ys : List Dv} {i : Nat} (h : zAt xs ys i = none) : xs.length ≤ i ∨ ys.length ≤ i := by
  unfold zAt at h
  cases e1 : xs[i]? with
  | none => exact .inl (List.getElem?_eq_none_iff.mp e1)
  | some x =>
    cases e2 : ys[i]? with
    | none => exact .inr (List.getElem?_eq_none_iff.mp e2)
    | some y => rw [e1, e2] at h; cases h
theorem zAt_some {xs ys : List Dv} {i : Nat} {d : Dv} (h : zAt xs ys i = some d) : ∃ x y, xs[i]? = some x ∧ ys[i]? = some y ∧ d = .tup [x, y] := by
  unfold zAt at h
  cases e1 : xs[i]? with
  | none => rw [e1] at h; cases h
  | some x =>
    cases e2 : ys[i]? with
    | none => rw [e1, e2] at h; cases h
    | some y => rw [e1, e2] at h; cases h; exact ⟨x, y, rfl, rfl, rfl⟩
theorem rw_zip {d0 d1 : Dv} {l : Nat} {v0 v1 : V} (ha : Rep G.K p H d0 v0) (hb : Rep G.K p H d1 v1) : rW G p H (wkZ d0 d1 l) (IzA G.K (kindD d0) (kindD d1) v0 v1) := by
  intro p1 H1 st1 g S i
  have e0 : (wkZ d0 d1 l).at_ i st1 = match asS st1 d0, asS st1 d1 with
    | some xs, some ys => if i ≤ min xs.length ys.length then some (zAt xs ys i) else none
    | _, _ => none := rfl
  cases e : asS st1 d0 with
  | none => rw [e] at e0; rw [e0]; trivial
  | some ds =>
    cases f : asS st1 d1 with
    | none => rw [e, f] at e0; rw [e0]; trivial
    | some es =>
      have e0 : (wkZ d0 d1 l).at_ i st1 = if i ≤ min ds.length es.length then some (zAt ds es i) else none := by rw [e0, e, f]
      obtain ⟨xs, hq, r⟩ := S.asS e (ha.grow g)
      obtain ⟨ys, hq2, r2⟩ := S.asS f (hb.grow g)
      rw [e0]
      by_cases hi : i ≤ min ds.length es.length
      · rw [if_pos hi]
        cases ez : zAt ds es i with
        | none =>
          have := zAt_none ez
          exact ⟨xs, ys, hq, hq2, by rw [RepL.length r, RepL.length r2]; omega⟩
        | some d =>
          obtain ⟨x, y, h1, h2, rfl⟩ := zAt_some ez
          obtain ⟨v, k1, k2⟩ := RepL.get r h1
          obtain ⟨w, k3, k4⟩ := RepL.get r2 h2
          refine ⟨⟨xs, ys, v, w, hq, hq2, k1, k3⟩, fun z H' ⟨T, z1, z2, hv, hn, eH, hy1, hy2⟩ => ?_⟩
          have hz1 := hy1 xs hq
          have hz2 := hy2 ys hq2
          rw [k1] at hz1
          rw [k3] at hz2
          cases hz1
          cases hz2
          rw [eH, hv]
          exact ⟨p1, Grow.new hn, S.beside hn, T, _, rfl, SqT.of upd_same, RepL.cons (k2.grow (Grow.new hn)) (RepL.cons (k4.grow (Grow.new hn)) RepL.nil)⟩
      · rw [if_neg hi]
        trivial
def wZip (fs : SA) : SW := fun ls st => (fs ls st).bind fun ds st1 => match ds with
  | [x, y] => match asS st1 x, asS st1 y with
    | some xs, some _ => rOk (wkZ x y xs.length) st1
    | _, _ => none
  | _ => none
theorem w_zip {pp tpos : Pos} {elts : List Expr} {kk : Nat} (hg : Gl X "zip") (hm : X.mg "zip" = none) (ha : PA X [a, b] (tA G E fs)) (hK : G.K = X.K := by rfl)
    (hs : starEach [a, b] X.env = (false, eval a X.env) :: starEach [b] X.env := by rfl) (hpl : (backTo pos (starEach [b] X.env)).any (·.1) = false := by rfl) :
    PI X (.Tuple elts kk tpos) (.Call (.Name "zip" pp) [a, b] [] pos) (tI G E (wZip fs)) :=
  PI.fit (pi_zA hg hm ha hs hpl) fun σ H Q ⟨p, ls, st, S, L, q⟩ => tM_bind S L q fun p1 st1 ds vs H1 S1 g1 L1 r1 q1 => by
    split at q1
    · split at q1
      · rename_i x y _ _ xs ys e f
        obtain ⟨v, w, rfl, h1, h2⟩ := repL2 r1
        obtain ⟨us, hq, r⟩ := S1.asS e h1
        obtain ⟨ws, hq2, r2⟩ := S1.asS f h2
        rw [hK] at hq hq2
        refine ⟨_, _, _, _, us, ws, rfl, hq, hq2, q1.now S1 (Grow.refl _ _) ?_⟩
        rw [← hK]
        exact rw_zip h1 h2
      · exact q1.no
    · exact q1.no
def zAt3 (xs ys zs : List Dv) (i : Nat) : Option Dv := match xs[i]?, ys[i]?, zs[i]? with
  | some x, some y, some z => some (.tup [x, y, z])
  | _, _, _ => none
def wkZ3 (x y z : Dv) (l : Nat) : Wk := ⟨l, fun i st => match asS st x, asS st y, asS st z with
  | some xs, some ys, some zs => if i ≤ min (min xs.length ys.length) zs.length then some (zAt3 xs ys zs i) else none
  | _, _, _ => none⟩
theorem repL3 {K : PySem.W.Frag} {d e f : Dv} {vs : List V} (h : RepL K p H [d, e, f] vs) : ∃ u v w, vs = [u, v, w] ∧ Rep K p H d u ∧ Rep K p H e v ∧ Rep K p H f w := by
  simp only [RepL] at h
  obtain ⟨x, r, e, h1, y, r2, e2, h2, z, r3, e3, h3, e4⟩ := h
  exact ⟨x, y, z, by rw [e, e2, e3, e4], h1, h2, h3⟩
theorem rw_zip3 {d0 d1 d2 : Dv} {l : Nat} {v0 v1 v2 : V} (ha : Rep G.K p H d0 v0) (hb : Rep G.K p H d1 v1) (hc : Rep G.K p H d2 v2) : rW G p H (wkZ3 d0 d1 d2 l) (Iz3 G.K (kindD d0) (kindD d1) (kindD d2) v0 v1 v2) := by
  intro p1 H1 st1 g S i
  have e0 : (wkZ3 d0 d1 d2 l).at_ i st1 = match asS st1 d0, asS st1 d1, asS st1 d2 with
    | some xs, some ys, some zs => if i ≤ min (min xs.length ys.length) zs.length then some (zAt3 xs ys zs i) else none
    | _, _, _ => none := rfl
  cases e : asS st1 d0 with
  | none => rw [e] at e0; rw [e0]; trivial
  | some ds =>
    cases f : asS st1 d1 with
    | none => rw [e, f] at e0; rw [e0]; trivial
    | some es =>
      cases f2 : asS st1 d2 with
      | none => rw [e, f, f2] at e0; rw [e0]; trivial
      | some fs =>
        have e0 : (wkZ3 d0 d1 d2 l).at_ i st1 = if i ≤ min (min ds.length es.length) fs.length then some (zAt3 ds es fs i) else none := by rw [e0, e, f, f2]
        obtain ⟨xs, hq, r⟩ := S.asS e (ha.grow g)
        obtain ⟨ys, hq2, r2⟩ := S.asS f (hb.grow g)
        obtain ⟨zs, hq3, r3⟩ := S.asS f2 (hc.grow g)
        rw [e0]
        by_cases hi : i ≤ min (min ds.length es.length) fs.length
        · rw [if_pos hi]
          by_cases hl : i < min (min ds.length es.length) fs.length
          · have l1 : i < ds.length := by omega
            have l2 : i < es.length := by omega
            have l3 : i < fs.length := by omega
            obtain ⟨v, k1, k2⟩ := RepL.get r (List.getElem?_eq_getElem l1)
            obtain ⟨w, k3, k4⟩ := RepL.get r2 (List.getElem?_eq_getElem l2)
            obtain ⟨u, k5, k6⟩ := RepL.get r3 (List.getElem?_eq_getElem l3)
            have ez : zAt3 ds es fs i = some (.tup [ds[i], es[i], fs[i]]) := by
              unfold zAt3
              rw [List.getElem?_eq_getElem l1, List.getElem?_eq_getElem l2, List.getElem?_eq_getElem l3]
            rw [ez]
            refine ⟨⟨xs, ys, zs, v, w, u, hq, hq2, hq3, k1, k3, k5⟩, fun z H' ⟨T, z1, z2, z3, hv, hn, eH, hy1, hy2, hy3⟩ => ?_⟩
            have hz1 := hy1 xs hq
            have hz2 := hy2 ys hq2
            have hz3 := hy3 zs hq3
            rw [k1] at hz1
            rw [k3] at hz2
            rw [k5] at hz3
            cases hz1
            cases hz2
            cases hz3
            rw [eH, hv]
            exact ⟨p1, Grow.new hn, S.beside hn, T, _, rfl, SqT.of upd_same, RepL.cons (k2.grow (Grow.new hn)) (RepL.cons (k4.grow (Grow.new hn)) (RepL.cons (k6.grow (Grow.new hn)) RepL.nil))⟩
          · have ez : zAt3 ds es fs i = none := by
              unfold zAt3
              cases e1 : ds[i]? with
              | none => rfl
              | some x =>
                cases e2 : es[i]? with
                | none => rfl
                | some y =>
                  cases e3 : fs[i]? with
                  | none => rfl
                  | some z =>
                    have a1 := (List.getElem?_eq_some_iff.mp e1).1
                    have a2 := (List.getElem?_eq_some_iff.mp e2).1
                    have a3 := (List.getElem?_eq_some_iff.mp e3).1
                    omega
            rw [ez]
            exact ⟨xs, ys, zs, hq, hq2, hq3, by rw [RepL.length r, RepL.length r2, RepL.length r3]; omega⟩
        · rw [if_neg hi]
          trivial
def wZip3 (fs : SA) : SW := fun ls st => (fs ls st).bind fun ds st1 => match ds with
  | [x, y, z] => match asS st1 x, asS st1 y, asS st1 z with
    | some xs, some _, some _ => rOk (wkZ3 x y z xs.length) st1
    | _, _, _ => none
  | _ => none
theorem w_zip3 {pp tpos : Pos} {elts : List Expr} {kk : Nat} (hg : Gl X "zip") (hm : X.mg "zip" = none) (ha : PA X [a, b, c] (tA G E fs)) (hK : G.K = X.K := by rfl)
    (hs : starEach [a, b, c] X.env = (false, eval a X.env) :: starEach [b, c] X.env := by rfl) (hpl : (backTo pos (starEach [b, c] X.env)).any (·.1) = false := by rfl) :
    PI X (.Tuple elts kk tpos) (.Call (.Name "zip" pp) [a, b, c] [] pos) (tI G E (wZip3 fs)) :=
  PI.fit (pi_z3 hg hm ha hs hpl) fun σ H Q ⟨p, ls, st, S, L, q⟩ => tM_bind S L q fun p1 st1 ds vs H1 S1 g1 L1 r1 q1 => by
    split at q1
    · split at q1
      · rename_i x y z _ _ _ xs ys zs e f f2
        obtain ⟨v, w, u, rfl, h1, h2, h3⟩ := repL3 r1
        obtain ⟨us, hq, r⟩ := S1.asS e h1
        obtain ⟨ws, hq2, r2⟩ := S1.asS f h2
        obtain ⟨ts, hq3, r3⟩ := S1.asS f2 h3
        rw [hK] at hq hq2 hq3
        refine ⟨_, _, _, _, _, _, us, ws, ts, rfl, hq, hq2, hq3, q1.now S1 (Grow.refl _ _) ?_⟩
        rw [← hK]
        exact rw_zip3 h1 h2 h3
      · exact q1.no
    · exact q1.no

/-! ### assignments -/
theorem r_par3 {i j l : Nat} {x y z : Str} {px py pz pt : Pos} {kt k2 pt2} (hc : X.calm = true) (hN : X.N.Nodup) (hi : X.N[i]? = some x) (hj : X.N[j]? = some y) (hl : X.N[l]? = some z) (hij : i ≠ j) (hil : i ≠ l) (hjl : j ≠ l)
    (hx : X.env.scope.names.lookup x = some .local) (hy : X.env.scope.names.lookup y = some .local) (hz : X.env.scope.names.lookup z = some .local) (ha : PA X [a, b, c] (tA G E fs))
    (hw : swappedStores [.Tuple [.Name x px, .Name y py, .Name z pz] kt pt] (.Tuple [a, b, c] k2 pt2) X.env = pure (some [x, y, z]))
    (hs : swapsWithSole [.Tuple [.Name x px, .Name y py, .Name z pz] kt pt] (.Tuple [a, b, c] k2 pt2) pos.line X.env = pure false := by rfl) :
    PS X (.Assign [.Tuple [.Name x px, .Name y py, .Name z pz] kt pt] (.Tuple [a, b, c] k2 pt2) pos) (tS G E (sPar3 i j l fs)) :=
  PS.fit (ps_par3 hc hN hi hj hl hij hil hjl hx hy hz ha hw hs) fun D σ H ⟨p, ls, st, S, L, q⟩ => tM_bind S L q fun p1 st1 ds vs H1 S1 g1 L1 r1 q1 => by
    split at q1
    · obtain ⟨_, q1⟩ := q1.ifT
      simp only [rL, RepL] at r1
      obtain ⟨u, _, e1, r1, v, _, e2, r2, w, _, e3, r3, e4⟩ := r1
      subst e4 e3 e2 e1
      exact ⟨u, v, w, rfl, q1.now (b := (FlV.nx, _)) S1 (Grow.refl _ _) ⟨trivial, ((L1.set r1).set r2).set r3⟩⟩
    · exact q1.no
/-- name op= e, ints -/
def sAugI (f : Int → Int → Int) (i : Nat) (fa : SE) : SS := fun ls st => match ls[i]? with
  | some (some (.int x)) => (fa ls st).bind fun d st1 => match d with
    | .int y => if i < ls.length then rOk (.nx, ls.set i (some (.int (f x y)))) st1 else none
    | _ => none
  | _ => none
theorem r_aug {i : Nat} {x : Str} {op : Operator} {f : Int → Int → Int} {pos' : Pos} (hN : X.N.Nodup) (hi : X.N[i]? = some x) (hx : Loc X.env.scope x) (ho : PIp X op (ipI f)) (ha : PE X a (tE G E fa))
    (hf : X.fn x = true ∨ X.env.scope.names.lookup x = some .local := by first | exact .inl rfl | exact .inr rfl | assumption) : PS X (.AugAssign (.Name x pos') op a pos) (tS G E (sAugI f i fa)) :=
  PS.fit (ps_aug hN hi hx ha ho hf) fun D σ H ⟨p, ls, st, S, L, q⟩ => by
    unfold sAugI at q
    split at q
    · rename_i z e
      obtain ⟨v, h1, h2⟩ := L.2 i _ e
      have h2 := rep_int h2
      subst h2
      refine ⟨_, h1, tM_bind S L q fun p1 st1 d w H1 S1 g1 L1 r1 q1 => ?_⟩
      split at q1
      · obtain ⟨_, q1⟩ := q1.ifT
        rw [rep_int r1]
        exact ⟨_, _, rfl, rfl, q1.now (b := (FlV.nx, _)) S1 (Grow.refl _ _) ⟨trivial, L1.set (by simp [Rep])⟩⟩
      · exact q1.no
    · exact q.no
/-- o[i], o a list, by values -/
def rGetL (K : PySem.W.Frag) : V → V → Hp → VK → Prop := fun o i H Q => ∃ p xs k v, o = .ref p ∧ i = .int k ∧ SqL K H p xs ∧ atI xs k = some v ∧ Q v H
theorem get_list : PGet X (rGetL X.K) := by
  intro pins s σ H o i ov iv Q I ro ri h
  obtain ⟨p, xs, k, z, rfl, rfl, hq, he, q⟩ := h
  cases ro
  obtain ⟨t, rfl⟩ := ri
  obtain ⟨its, r, pl, hz⟩ := I.list hq
  obtain ⟨j, h1, h2, h3, h4, h5⟩ := atI_get he
  obtain ⟨w, ew, rw'⟩ := r.get h2
  have hl := r.length
  have hn := line63
  have fin : EP X pins σ Q w s := ⟨z, H, I, rw', q⟩
  by_cases h0 : 0 ≤ k
  · have hj : k.toNat = j := by
      rw [seqIndex_of h0 h5] at h1
      exact Option.some.inj h1
    exact wpAny_getItem_list pl.isList h0 (by omega) (by rw [hj]; simpa using ew) fin
  · have hj : (k + (its.toArray.size : Int)).toNat = j := by
      rw [seqIndex_neg (by omega) h4] at h1
      rw [List.size_toArray, ← hl]
      exact Option.some.inj h1
    exact wpAny_getItem_list_neg pl.isList (by omega) (by rw [List.size_toArray] <;> omega) (by omega) (by rw [hj]; simpa using ew) fin
/-- a list's item is written -/
def setL (n : Nat) (k : Int) (d : Dv) (st : Sto) : Option Sto := match st[n]? with
  | some (.lst ds) => match ixN ds.length k with
    | some j => some (st.set n (.lst (ds.set j d)))
    | none => none
  | _ => none
theorem set_rep {n : Nat} {k : Int} {d : Dv} {st' : Sto} {o v : V} {Q : Hp → Prop} (S : Sim G p st H) (h : setL n k d st = some st') (ro : Rep G.K p H (.ref n) o) (rv : Rep G.K p H d v) (hQ : ∀ H', Sim G p st' H' → Grow p H p H' → Q H') : rSetL o (.int k) v H Q := by
  unfold setL at h
  split at h
  · rename_i ds e
    split at h
    · rename_i j ej
      cases h
      obtain ⟨a, xs, rfl, hp, hH, la⟩ := S.lstM e ro
      have gs : Grow p H p (upd H a (.lst (xs.set j v))) := Grow.soft hH trivial (List.mem_of_getElem? hp)
      refine ⟨a, xs, k, j, rfl, rfl, hH, by rw [RepL.length la]; exact ej, hQ _ (S.set (x := .lst (ds.set j d)) hp hH trivial (o := .lst (xs.set j v)) True.intro ⟨_, upd_same, RepL.set (RepL.grow gs la) (rv.grow gs)⟩) gs⟩
    · cases h
  · cases h
/-- o[i] = .. -/
def gSub (fo fi : SE) : SG := fun d ls st => (fo ls st).bind fun x st1 => (fi ls st1).bind fun y st2 => match x, y with
  | .ref n, .int k => match setL n k d st2 with
    | some st3 => rOk ls st3
    | none => none
  | _, _ => none
theorem r_gsub {Z : L2.St → L2.St → Prop} {o i : Expr} {fo fi : SE} (ho : PE X o (tE G E fo)) (hi : PE X i (tE G E fi)) (hR : ∀ σ, Z σ σ := by intro _; trivial)
    (ha : ∀ v, assign (.Subscript o i pos) X.env v = (do
      let ov ← holding [v] (eval o X.env)
      let iv ← holding [v, ov] (eval i X.env)
      standAt pos
      holding [v, ov, iv] (setItem ov iv v)
      release [v, ov, iv] []) := by intro _; rfl) : PG X (.Subscript o i pos) (tGr G E Z (gSub fo fi)) :=
  PG.fit (pg_sub ho hi set_list ha) fun v σ H Q ⟨p, ls, st, d, S, L, r, q⟩ => by
    refine tM_bind (f := fo) S L q fun p1 st1 x o H1 S1 g1 L1 r1 q1 => tM_bind S1 L1 q1 fun p2 st2 y i H2 S2 g2 L2' r2 q2 => ?_
    split at q2
    · rename_i n k
      split at q2
      · rename_i st3 e
        rw [rep_int r2]
        exact set_rep S2 e (r1.grow g2) (r.grow (g1.trans g2)) fun H' S' g' => q2.now (b := σ) S' g' (L2'.grow g') (hR σ)
      · exact q2.no
    · exact q2.no
/-- o[i] op= e, a list of ints -/
def sAugS (f : Int → Int → Int) (fo fi fa : SE) : SS := fun ls st => (fo ls st).bind fun x st1 => (fi ls st1).bind fun y st2 => match x, y with
  | .ref n, .int k => match lstAt st2 n with
    | some ds => match atI ds k with
      | some (.int u) => (fa ls st2).bind fun d st3 => match d with
        | .int w => match setL n k (.int (f u w)) st3 with
          | some st4 => rOk (.nx, ls) st4
          | none => none
        | _ => none
      | _ => none
    | none => none
  | _, _ => none
theorem r_augS {o i : Expr} {fo fi : SE} {op : Operator} {f : Int → Int → Int} {tpos : Pos} (hp : PIp X op (ipI f)) (ho : PE X o (tE G E fo)) (hi : PE X i (tE G E fi)) (he : PE X a (tE G E fa)) (hK : G.K = X.K := by rfl)
    (ha : ∀ ov iv new, augStore i ov iv new = (do holding [new, ov, iv] (setItem ov iv new); release [new, ov, iv] []; pure .next) := by intros; rfl) : PS X (.AugAssign (.Subscript o i tpos) op a pos) (tS G E (sAugS f fo fi fa)) :=
  PS.fit (ps_augS ho hi get_list he hp set_list ha) fun D σ H ⟨p, ls, st, S, L, q⟩ => by
    refine tM_bind S L q fun p1 st1 x o H1 S1 g1 L1 r1 q1 => tM_bind S1 L1 q1 fun p2 st2 y i H2 S2 g2 L2' r2 q2 => ?_
    split at q2
    · rename_i n k
      split at q2
      · rename_i ds e
        split at q2
        · rename_i u eu
          obtain ⟨a, xs, ea, hq, la⟩ := S2.seqL e (r1.grow g2)
          obtain ⟨w, h1, h2⟩ := atI_rep la eu
          rw [rep_int r2]
          have r1' := r1.grow g2
          refine ⟨a, xs, k, w, ea, rfl, by rw [← hK]; exact hq, h1, ?_⟩
          rw [rep_int h2]
          refine tM_bind S2 L2' q2 fun p3 st3 z c H3 S3 g3 L3 r3 q3 => ?_
          split at q3
          · split at q3
            · rename_i st4 e4
              rw [rep_int r3]
              exact ⟨_, _, rfl, rfl, set_rep S3 e4 (r1'.grow g3) (by simp [Rep]) fun H' S' g' => q3.now (b := (FlV.nx, σ)) S' g' ⟨trivial, L3.grow g'⟩⟩
            · exact q3.no
          · exact q3.no
        · exact q2.no
      · exact q2.no
    · exact q2.no
end
end R

/-! R18: what the top leaves, by names; defs; a lambda told. -/
namespace R
open PySem L2
/-- the configuration of a written part: classes, errors, defs with tables, all by name -/
def cfgOf (K : PySem.W.Frag) (cls exc : List Str) (tfn : List (He.Defn × Str)) : Cfg where
  K := K
  cls := fun i => He.ga K (cls.getD i "")
  exc := fun i => He.ga K (exc.getD i "")
  lam := tfn.map fun t => ((He.cT K t.1).2, t.2)
/-- the facts of a law's top -/
structure Tx (fa : List He.Fa) (fn : List He.DefD) (ts : List He.Tab) (tfn : List (He.Defn × Str)) (ex : PySem.W.Frag → Bool) (w : World) (K : PySem.W.Frag) (mg : Str → Option Value) (base : Heap) : Prop where
  h : ∃ h : Heap, K.In h ∧ h.Ns mainGlobals mg ∧ He.SaysX fa fn ts (tfn.map (·.1)) ex w h K
  tb : ∀ p ∈ tfn.map (·.1), LamX.TabB base mg (He.cT K p).1 (He.cT K p).2
  nd : (tfn.map fun t => (He.cT K t.1).2).Nodup
section
variable {fa : List He.Fa} {fn : List He.DefD} {ts : List He.Tab} {tfn : List (He.Defn × Str)} {ex : PySem.W.Frag → Bool} {w : World} {K : PySem.W.Frag} {mg : Str → Option Value} {base : Heap} {P : Program}
theorem Tx.fact (T : Tx fa fn ts tfn ex w K mg base) (i : Nat) {f : He.Fa} (e : fa[i]? = some f) : f.ok K = true := by
  obtain ⟨h, _, _, c⟩ := T.h
  exact c.t.d.fact i e
theorem Tx.glo (T : Tx fa fn ts tfn ex w K mg base) (i : Nat) {x : Str} (e : fa[i]? = some (.glo x)) : mg x = some (.ref (He.ga K x)) := by
  obtain ⟨h, KX, G, c⟩ := T.h
  exact He.glo_ok KX G (c.t.d.fact i e)
theorem Tx.free (T : Tx fa fn ts tfn ex w K mg base) (i : Nat) {x : Str} (e : fa[i]? = some (.free x)) : mg x = none := by
  obtain ⟨h, KX, G, c⟩ := T.h
  exact He.free_ok KX G (c.t.d.fact i e)
theorem Tx.exc (T : Tx fa fn ts tfn ex w K mg base) (i : Nat) {x : Str} (e : fa[i]? = some (.exc x)) :
    PySem.W.excIn K (He.ga K x) He.veBase "ValueError.__new__" = true ∧ PySem.W.keepIn K (.ref (He.ga K x)) = true ∧ PySem.W.subIn K (.ref (He.ga K x)) (.type "BaseException") = some true ∧ PySem.W.typeIn K (.ref (He.ga K x)) = some (.type "type") := He.exc_ok (T.fact i e)
theorem Tx.exm (T : Tx fa fn ts tfn ex w K mg base) (i : Nat) {x y : Str} {b : Bool} (e : fa[i]? = some (.exm x y b)) : PySem.W.exmOne K (.ref (He.ga K x)) (.ref (He.ga K y)) = some b := He.exm_ok (T.fact i e)
theorem Tx.def_ (T : Tx fa fn ts tfn ex w K mg base) (i : Nat) {d : He.DefD} (e : fn[i]? = some d) : ∃ fd, FunD K d.name d.qual d.params d.body d.scope (d.dvs K) (d.kws K) (He.fAd K d.at_) fd := by
  obtain ⟨h, KX, G, c⟩ := T.h
  exact c.t.d.def_ i e
theorem nd_uniq {α β : Type} {f : α → β} : ∀ {l : List α}, (l.map f).Nodup → ∀ {a b : α}, a ∈ l → b ∈ l → f a = f b → a = b
  | [], _, _, _, h, _, _ => absurd h (by simp)
  | c :: l, n, a, b, ha, hb, e => by
    rw [List.map_cons, List.nodup_cons] at n
    rcases List.mem_cons.mp ha with rfl | ha
    · rcases List.mem_cons.mp hb with rfl | hb
      · rfl
      · exact (n.1 (List.mem_map.mpr ⟨b, hb, e.symm⟩)).elim
    · rcases List.mem_cons.mp hb with rfl | hb
      · exact (n.1 (List.mem_map.mpr ⟨a, ‹a ∈ l›, e⟩)).elim
      · exact nd_uniq n.2 ha hb e
theorem Tx.lamq (T : Tx fa fn ts tfn ex w K mg base) {cls exc : List Str} (i : Nat) {p : He.Defn} {q : Str} (e : tfn[i]? = some (p, q)) : ((He.cT K p).2, q) ∈ (cfgOf K cls exc tfn).lam ∧ ∀ x ∈ (cfgOf K cls exc tfn).lam, x.1 = (He.cT K p).2 → x.2 = q := by
  have hm : (p, q) ∈ tfn := List.mem_of_getElem? e
  refine ⟨List.mem_map.mpr ⟨_, hm, rfl⟩, fun x hx he => ?_⟩
  obtain ⟨t, ht, rfl⟩ := List.mem_map.mp hx
  rw [nd_uniq T.nd ht hm he]
theorem Tx.tabB (T : Tx fa fn ts tfn ex w K mg base) (i : Nat) {p : He.Defn} {q : Str} (e : tfn[i]? = some (p, q)) : LamX.TabB base mg (He.cT K p).1 (He.cT K p).2 :=
  T.tb p (List.mem_map.mpr ⟨(p, q), List.mem_of_getElem? e, rfl⟩)
/-- the place of a generator expression -/
theorem Tx.gen {X : Cx} {cls exc : List Str} (T : Tx fa fn ts tfn ex w K mg base) (i : Nat) {p : He.Defn} {q : Str} (e : tfn[i]? = some (p, q)) (hb : X.base = base := by rfl) (hm : X.mg = mg := by rfl) (hc : X.env.code = .ref (He.codeOf K p) := by rfl) (hq : X.env.qual ++ "<genexpr>" = q := by rfl) : GenTab (cfgOf K cls exc tfn) X := by
  obtain ⟨h1, h2⟩ := T.lamq (cls := cls) (exc := exc) i e
  refine ⟨(He.cT K p).1, (He.cT K p).2, ?_, hc, by rw [hq]; exact h1, by rw [hq]; exact h2⟩
  rw [hb, hm]
  exact T.tabB i e

/-! ### defs -/
theorem fun_lk {x qual : Str} {params : Arguments} {body : List Stmt} {scope : Scope} {dvs : List V} {kws : List (Str × V)} {f : Addr} {fd : FuncData} (F : FunD K x qual params body scope dvs kws f fd) : ∃ oc od osl, K.lookup f = some ⟨oc, od, .func fd, osl⟩ := by
  obtain ⟨oc, od, dV, kV, doc, pm, an, cdv, ct, osl, rfl, lk, hcd, _, _⟩ := F.ex
  exact ⟨oc, od, osl, lk⟩
/-- a def by its name: it keeps its promise, all its arguments given -/
structure FnB (P : Program) (w : World) (K : PySem.W.Frag) (mg : Str → Option Value) (base : Heap) (k : Nat) (x : Str) (ps : List Str) (sp : Sp) : Prop where
  ex : ∃ fd, FnOk P w K mg base (L2.CX P w) k (He.ga K x) fd ps sp ∧ Binds K fd ps [] ∧ PySem.W.keepIn K (.ref (He.ga K x)) = true ∧ mg x = some (.ref (He.ga K x)) ∧ ∃ oc od osl, K.lookup (He.ga K x) = some ⟨oc, od, .func fd, osl⟩
theorem ok_fn {G : Cfg} {d : He.DefD} {fd : FuncData} {dvs : List V} {kws : List (Str × V)} {N ps : List Str} {k : Nat} {m : FC} (g : Nat → SS) (F : FunD G.K d.name d.qual d.params d.body d.scope dvs kws (He.fAd G.K d.at_) fd) (S : FnScope N ps d.scope)
    (body : ∀ (n : Nat) (A : Around) (outer : List Env) (s : Shared) (H : Hp) (E : XK), Room k (A.deeper (PyProof.Rows.envOfC d.qual d.scope s.heap.objs.size (He.fAd G.K d.at_) (.ref (He.codeOf G.K d.at_)))) →
      PSs (cxOf (L2.CX P w) P w G.K mg base N d.qual d.scope (He.fAd G.K d.at_) (.ref (He.codeOf G.K d.at_)) A outer s H E) d.body (tS G E (g n)))
    (mir : ∀ ds st r st', ds.length = ps.length → Closed st → LessL st.length ds → m ds st = some (r, st') → ∃ n r2 st2, fnOf (g n) N.length ds st = some (r2, st2) ∧ st.length ≤ st'.length ∧ Trim r st' r2 st2) :
    FnOk P w G.K mg base (L2.CX P w) (k + 1) (He.fAd G.K d.at_) fd ps (spOf G ps.length m) := by
  obtain ⟨oc, od, dV, kV, doc, pm, an, cdv, ct, osl, rfl, lk, hcd, _, _⟩ := F.ex
  obtain ⟨c, rfl⟩ := He.codeIn_ref hcd
  have ec : He.codeOf G.K d.at_ = c := He.codeOf_eq lk rfl
  subst ec
  refine fn_of lk hcd S (fun vs H Q E h => h.1) fun A outer s H vs Q E hr h => ?_
  obtain ⟨hl, p, st, ds, S0, r0, r, st', e, q⟩ := h
  have hdl : ds.length = ps.length := by rw [← RepL.length r0]; exact hl
  obtain ⟨n, r2, st2, e2, hle, er, ⟨g', eg⟩, cl, ls⟩ := mir ds st r st' hdl S0.closed (by rw [← S0.len]; exact RepL.less r0) e
  subst er eg
  refine ⟨tS G E (g n), body n A outer s H E hr, p, _, st, S0, RepS.start r0 N, ?_⟩
  refine pend_fn ⟨r2, st' ++ g', e2, fun p' H' gr S' => ?_⟩
  have hp : p.length ≤ st'.length := by rw [S0.len]; exact hle
  have z := q (p'.take st'.length) H' (gr.take hp) (S'.take cl)
  cases r2 with
  | exc c => exact z
  | ok d => exact fun v hv => z v (Rep.cut (ls d rfl) hv)
/-- nothing is left behind that is forgotten -/
theorem ok_fn0 {G : Cfg} {d : He.DefD} {fd : FuncData} {dvs : List V} {kws : List (Str × V)} {N ps : List Str} {k : Nat} {m : FC} (g : Nat → SS) (F : FunD G.K d.name d.qual d.params d.body d.scope dvs kws (He.fAd G.K d.at_) fd) (S : FnScope N ps d.scope)
    (body : ∀ (n : Nat) (A : Around) (outer : List Env) (s : Shared) (H : Hp) (E : XK), Room k (A.deeper (PyProof.Rows.envOfC d.qual d.scope s.heap.objs.size (He.fAd G.K d.at_) (.ref (He.codeOf G.K d.at_)))) →
      PSs (cxOf (L2.CX P w) P w G.K mg base N d.qual d.scope (He.fAd G.K d.at_) (.ref (He.codeOf G.K d.at_)) A outer s H E) d.body (tS G E (g n)))
    (mir : ∀ ds st r st', ds.length = ps.length → m ds st = some (r, st') → ∃ n, fnOf (g n) N.length ds st = some (r, st')) :
    FnOk P w G.K mg base (L2.CX P w) (k + 1) (He.fAd G.K d.at_) fd ps (spOf G ps.length m) := by
  obtain ⟨oc, od, dV, kV, doc, pm, an, cdv, ct, osl, rfl, lk, hcd, _, _⟩ := F.ex
  obtain ⟨c, rfl⟩ := He.codeIn_ref hcd
  have ec : He.codeOf G.K d.at_ = c := He.codeOf_eq lk rfl
  subst ec
  refine fn_of lk hcd S (fun vs H Q E h => h.1) fun A outer s H vs Q E hr h => ?_
  obtain ⟨hl, p, st, ds, S0, r0, r, st', e, q⟩ := h
  have hdl : ds.length = ps.length := by rw [← RepL.length r0]; exact hl
  obtain ⟨n, e2⟩ := mir ds st r st' hdl e
  exact ⟨tS G E (g n), body n A outer s H E hr, p, _, st, S0, RepS.start r0 N, pend_fn ⟨r, st', e2, q⟩⟩
/-- a promise that nobody can ask for -/
theorem ok_none {G : Cfg} {f : Addr} {fd : FuncData} {ps : List Str} {k n : Nat} : FnOk P w K mg base (L2.CX P w) k f fd ps (spOf G n fun _ _ => none) := by
  have no : ∀ {vs : List V} {H : Hp} {Q : VK} {E : XK} {Z : Prop}, spOf G n (fun _ _ => none) vs H Q E → Z := fun ⟨_, p, st, ds, _, _, r, st', e, _⟩ => by cases e
  exact ⟨fun vs H Q E h => no h, fun A outer s H args us vs Q E hr e0 hb r h => no h⟩
section
variable {G : Cfg} {E : XK} {X : Cx} {a : Expr} {es : List Expr} {fs : SA} {pos pp : Pos} {x : Str}
theorem r_callF {k : Nat} {ps : List Str} {g : FC} (B : FnB X.prog X.w X.K X.mg X.base k x ps (spOf G ps.length g)) (hr : Room k X.A) (tk : Takes X (WT E)) (hg : Gl X x) (ha : PA X (a :: es) (tA G E fs)) (hlen : LenA fs ps.length)
    (hdb : (x == ("__debug__" : Str)) = false := by decide) (he : starEach (a :: es) X.env = (false, eval a X.env) :: starEach es X.env := by rfl) (hpl : (backTo pos (starEach es X.env)).any (·.1) = false := by rfl) :
    PE X (.Call (.Name x pp) (a :: es) [] pos) (tE G E (eCall g fs)) := by
  obtain ⟨fd, F, b, hk, hm, _⟩ := B.ex
  exact r_call F hr tk hg hm hk b ha hlen hdb he hpl
theorem r_callF0 {k : Nat} {g : FC} (B : FnB X.prog X.w X.K X.mg X.base k x [] (spOf G 0 g)) (hr : Room k X.A) (tk : Takes X (WT E)) (hg : Gl X x) (hdb : (x == ("__debug__" : Str)) = false := by decide) : PE X (.Call (.Name x pp) [] [] pos) (tE G E fun _ st => g [] st) := by
  obtain ⟨fd, F, b, hk, hm, _⟩ := B.ex
  exact r_call0 F hr tk hg hm hk b hdb
end

/-! ### a lambda told -/
/-- try: return e / except: return ret -/
def eTold (ok : Nat → Bool) (ret : Str) (fe : SE) : SE := fun ls st => match fe ls st with
  | some (.ok d, st1) => some (.ok d, st1)
  | some (.exc c, st1) => if ok c = true then rOk (.str ret) st1 else none
  | none => none
/-- which errors are caught by the class at CS -/
def Caught (G : Cfg) (K : PySem.W.Frag) (CS : Addr) (ok : Nat → Bool) : Prop := ∀ c, ok c = true → PySem.W.exmOne K (.ref (G.exc c)) (.ref CS) = some true
section
variable {G : Cfg} {E : XK} {X : Cx} {p : List Addr} {H : Hp} {st : Sto} {ls : Ls} {σ : L2.St}
theorem told_pend {K : PySem.W.Frag} {CS : Addr} {ok : Nat → Bool} {ret : Str} {fe : SE} {Q : VK} (hx : Caught G K CS ok) (h : Pend G E (rD G) p H (eTold ok ret fe ls st) Q) :
    Pend G (fun cls _ H' => ∃ b, PySem.W.exmOne K cls (.ref CS) = some b ∧ (b = true → Q (.str ret) H') ∧ (b = false → False)) (rD G) p H (fe ls st) Q := by
  obtain ⟨r, st', e, f⟩ := h
  unfold eTold at e
  split at e
  · rename_i d st1 e1
    cases e
    exact ⟨_, _, e1, f⟩
  · rename_i c st1 e1
    split at e
    · rename_i hc
      cases e
      refine ⟨_, _, e1, fun p' H' g S => ⟨true, hx c hc, fun _ => f p' H' g S _ (by simp [rD, Rep]), fun z => by cases z⟩⟩
    · cases e
  · cases e
theorem told_red {T : List (Addr × Str)} {K : PySem.W.Frag} {CS : Addr} {ok : Nat → Bool} {ret : Str} {fe : SE} (hT : T = G.lam) (hx : Caught G K CS ok) : ∀ σ H Q, tE G E (eTold ok ret fe) σ H Q → LamX.tLam T (LamX.TTold K CS ret) (fun E => tE G E fe) σ H Q := fun σ H Q ⟨p, ls, st, S, L, q⟩ => by
  subst hT
  refine ⟨S.tab.lam, fun H1 eN T1 => ?_⟩
  obtain ⟨S1, g1⟩ := S.extn eN T1
  refine ⟨p, ls, st, S1, L.grow g1, ?_⟩
  obtain ⟨r9, st9, h9, f9⟩ := q
  exact told_pend hx ⟨r9, st9, h9, fun p3 H3 g3 S3 => f9 p3 H3 (g1.trans g3) S3⟩
/-- x(lambda: body), x: def x(a): try: return a() / except e: return ret -/
theorem r_told {x a e ret : Str} {CS : Addr} {ok : Nat → Bool} {pg : Arguments} {sg : Scope} {kws : List (Str × V)} {fd : FuncData} {Ng : List Str} {c P : Addr} {k j : Nat} {params : Arguments} {body : Expr} {scope : Scope} {fe : SE} {p lpos pos p1 p2 p3 p4 p5 p6 p7 p8 : Pos}
    (F : FunD X.K x x pg [.Try [.Return (some (.Call (.Name a p1) [] [] p2)) p3] [.ExceptHandler (some (.Name e p4)) none [.Return (some (.Constant (.str ret) j p5)) p6] p7] [] [] p8] sg [] kws (He.ga X.K x) fd)
    (hbnd : ∀ (kV doc pm : Value) (an : Option Addr) (cdv ct : Value) (us : List Value), us.length = 1 → bindArgs (PySem.W.fnOf x x pg [.Try [.Return (some (.Call (.Name a p1) [] [] p2)) p3] [.ExceptHandler (some (.Name e p4)) none [.Return (some (.Constant (.str ret) j p5)) p6] p7] [] [] p8] sg .none kV doc pm an cdv ct) ⟨us, []⟩ = pure ([a].zip us))
    (Sg : FnScope Ng [a] sg) (hNg : Ng[0]? = some a) (hva : Vis sg a) (hge : sg.names.lookup e = some .globalImplicit) (hme : X.mg e = some (.ref CS)) (hx : Caught G X.K CS ok)
    (hg : Gl X x) (hm : X.mg x = some (.ref (He.ga X.K x))) (TB : LamX.TabB X.base X.mg c P) (hcode : X.env.code = .ref c) (hmT : (P, X.env.qual ++ "<lambda>") ∈ G.lam) (hu : ∀ p ∈ G.lam, p.1 = P → p.2 = X.env.qual ++ "<lambda>") (hr : Room (k + 2) X.A)
    (L : LamX.LamS X.env.scope scope) (hdef : defaultsOf params X.env = ([], [])) (hbind : ∀ (q : Str) (cl : List (Str × Addr)) (pm cv ctv : Value), bindArgs (PySem.W.kla_fn "<lambda>" q params body scope cl pm cv ctv) ⟨[], []⟩ = pure [])
    (hbody : ∀ (A : Around) (outer : List Env) (s : Shared) (H : Hp) (E : XK) (f c' : Addr), Room k (A.deeper (LamX.lamEnv X scope s.heap.objs.size f c')) → PE (LamX.lamCx X A outer s H E scope f c') body (tE G E fe))
    (h0 : ∀ f : Addr, (L2.start Ng [V.ref f])[0]? = some (some (V.ref f)) := by intro _; rfl)
    (hde : (e == ("__debug__" : Str)) = false := by decide) (hdb : (x == ("__debug__" : Str)) = false := by decide) (hd : (a == ("__debug__" : Str)) = false := by decide) (hcd : (a == ("__classdict__" : Str)) = false := by decide) :
    PE X (.Call (.Name x p) [.Lambda params body scope lpos] [] pos) (tE G E (eTold ok ret fe)) := by
  have hbs : Binds X.K fd [a] [] := F.bindsN (ps := [a]) hbnd
  have hk := F.kp
  obtain ⟨oc, od, dV, kV, doc, pm, an, cdv, ct, osl, rfl, lk, hcg, _, _⟩ := F.ex
  exact (LamX.pe_lamcall (T := G.lam) (TT := LamX.TTold X.K CS ret) (t := fun E => tE G E fe) hg hm hk lk hcg hbs Sg hNg hva (LamX.told_gives hge hme hde h0) TB hcode hmT hu hr L hdef hbind hbody hdb hd hcd).fit (told_red rfl hx)
end
end
end R

/-! R19: in; room and errors within generators, lambdas. -/
namespace R
open PySem L2
section
variable {G : Cfg} {E : XK} {X : Cx}
def opIn : F2 := fun x y st => match toP deepN st x, toP deepN st y with
  | some d, some (.list ds) => if SeqAt.shaped d = true ∧ SeqAt.shaped (.list ds) = true then rOk (.bl (ds.any fun z => PyData.eqv z d)) st else none
  | _, _ => none
def opNi : F2 := fun x y st => match toP deepN st x, toP deepN st y with
  | some d, some (.list ds) => if SeqAt.shaped d = true ∧ SeqAt.shaped (.list ds) = true then rOk (.bl (!ds.any fun z => PyData.eqv z d)) st else none
  | _, _ => none
theorem c_in (hu : X.A.units + 65 < cLine) (hK : G.K = X.K := by rfl) : CR X G E .In opIn := ⟨_, op_inD hu, by
  intro p st H x y u v Q S r1 r2 q
  unfold opIn at q
  split at q
  · rename_i d ds e1 e2
    obtain ⟨⟨s1, s2⟩, q⟩ := q.ifT
    have h1 := toP_dp S deepN _ _ _ e1 r1
    have h2 := toP_dp S deepN _ _ _ e2 r2
    rw [hK] at h1 h2
    exact ⟨d, ds, h1, h2, s1, s2, q.now S (Grow.refl _ _) (by simp [rD, Rep])⟩
  · exact q.no⟩
theorem c_ni (hu : X.A.units + 65 < cLine) (hK : G.K = X.K := by rfl) : CR X G E .NotIn opNi := ⟨_, op_notInD hu, by
  intro p st H x y u v Q S r1 r2 q
  unfold opNi at q
  split at q
  · rename_i d ds e1 e2
    obtain ⟨⟨s1, s2⟩, q⟩ := q.ifT
    have h1 := toP_dp S deepN _ _ _ e1 r1
    have h2 := toP_dp S deepN _ _ _ e2 r2
    rw [hK] at h1 h2
    exact ⟨d, ds, h1, h2, s1, s2, q.now S (Grow.refl _ _) (by simp [rD, Rep])⟩
  · exact q.no⟩
theorem u65 {k : Nat} {A : Around} (r : Room k A) : A.units + 65 < cLine := by have := r.un; omega
theorem takes_k {P : Program} {w : World} {K : PySem.W.Frag} {mg : Str → Option Value} {base : Heap} {N : List Str} {qual : Str} {scope : Scope} {f : Addr} {cdv : Value} {A : Around} {outer : List Env} {s : Shared} {H : Hp} {E : XK} : Takes (cxOf (L2.CX P w) P w K mg base N qual scope f cdv A outer s H E) (WT E) := takes_of rfl rfl rfl rfl
theorem passes_k {P : Program} {w : World} {K : PySem.W.Frag} {mg : Str → Option Value} {base : Heap} {N : List Str} {qual : Str} {scope : Scope} {f : Addr} {cdv : Value} {A : Around} {outer : List Env} {s : Shared} {H : Hp} {E : XK} :
    PassesOwn (model (cxOf (L2.CX P w) P w K mg base N qual scope f cdv A outer s H E).prog (cxOf (L2.CX P w) P w K mg base N qual scope f cdv A outer s H E).w) (cxOf (L2.CX P w) P w K mg base N qual scope f cdv A outer s H E).A (cxOf (L2.CX P w) P w K mg base N qual scope f cdv A outer s H E).env (cxOf (L2.CX P w) P w K mg base N qual scope f cdv A outer s H E).xe := passes_of rfl
theorem takes_en {X : Cx} : Takes X (WT EN) := LamX.takes0
theorem takes_lam {A : Around} {outer : List Env} {s : Shared} {H : Hp} {E : XK} {scope : Scope} {f c' : Addr} : Takes (LamX.lamCx X A outer s H E scope f c') (WT E) := takes_of (X := LamX.lamCx X A outer s H E scope f c') rfl rfl rfl rfl
theorem Room.gen {k : Nat} {s4 : Shared} {H4 : Hp} {scope : Scope} {code : Value} {fp : List Addr} (r : Room (k + 6) X.A) : Room k (genCx X s4 H4 scope code fp).A :=
  ⟨r.hd, by have := r.dp; show X.A.depth + 1 + 3 * k + 5 < _; omega, by have := r.un; show X.A.units + 1 + 1 + 1 + 1 + 1 + 3 + 16 * k + 200 < _; omega⟩
theorem r_wand1 {a : Expr} {pos : Pos} {t : SB} (ha : PT X a (tT G E t)) : PW X (.BoolOp .And [a] pos) (tT G E t) := pw_and1 ha
theorem r_wor1 {a : Expr} {pos : Pos} {t : SB} (ha : PT X a (tT G E t)) : PW X (.BoolOp .Or [a] pos) (tT G E t) := pw_or1 ha
theorem r_and1 {a : Expr} {pos : Pos} {f : SE} (ha : PE X a (tE G E f)) : PE X (.BoolOp .And [a] pos) (tE G E f) := pe_one ha
theorem r_or1 {a : Expr} {pos : Pos} {f : SE} (ha : PE X a (tE G E f)) : PE X (.BoolOp .Or [a] pos) (tE G E f) := pe_one ha
end
end R

/-! R20: a lambda as a value. -/
namespace R
open PySem L2
/-- the object o stands at f -/
def FnO (f : Addr) (o : Obj) : HO := .ext fun h => h.get? f = some o
abbrev lamO (X : Cx) (params : Arguments) (body : Expr) (scope : Scope) (pm : Value) (c' : Addr) (ctv : Value) : Obj :=
  PySem.W.kla_obj "<lambda>" (X.env.qual ++ "<lambda>") params body scope (cloFrom X.env.cells scope.names []) pm c' ctv
theorem laid_fn {X : Cx} {pins : List (Addr × Obj)} {σ : L2.St} {H : Hp} {s : Shared} {o : Obj} (I : Inv X pins σ H s) (hf : o.isFreed = false) : Inv X pins σ (upd H s.heap.objs.size (FnO s.heap.objs.size o)) { s with heap := s.heap.push o } :=
  I.laid (t' := s.toks) (fun _ _ e => Heap.get?_push_of_some _ e) (Nat.le_refl _) ⟨Heap.get?_push_size _ hf, ⟨_, Heap.get?_push_size _ hf⟩, fun _ _ e st => st _ e⟩
section
variable {X : Cx} {pins : List (Addr × Obj)} {σ : L2.St} {H : Hp} {s : Shared}
/-- it is made and told of -/
theorem lam_made {T : List (Addr × Str)} {c P : Addr} {params : Arguments} {body : Expr} {scope : Scope} {pos : Pos} {E' : Value → Shared → Prop} {Q : Value → Shared → Prop} (I : Inv X pins σ H s) (TB : LamX.TabB X.base X.mg c P) (hcode : X.env.code = .ref c)
    (hm : (P, X.env.qual ++ "<lambda>") ∈ T) (hu : ∀ p ∈ T, p.1 = P → p.2 = X.env.qual ++ "<lambda>") (hT : LamX.Tabs T H) (hdef : defaultsOf params X.env = ([], [])) (hfree : ∀ y ∈ scope.names, y.2 = .free → ∃ c, X.env.cells.lookup y.1 = some c)
    (h : ∀ (f c' : Addr) (pm ctv : Value) (H1 : Hp) (s' : Shared), Inv X pins σ H1 s' → LamX.ExtN H H1 → LamX.Tabs T H1 → H1 f = some (FnO f (lamO X params body scope pm c' ctv)) → f ∉ frs X.stack → H1 c' = some (LamX.CodeO c' (X.env.qual ++ "<lambda>")) → Q (.ref f) s') :
    wpAny (model X.prog X.w) X.A (eval (.Lambda params body scope pos) X.env) Q E' s := by
  obtain ⟨ps, hP, ht, ha⟩ := hT _ hm
  refine PySem.W.kla_eval hdef ?_
  have bP : s.heap.BuiltinsAt X.mg P := TB.bm.keeps I.bk
  have hPs : s.heap.get? P = some { cls := .none, data := .fields ps } := I.hok P _ hP
  have away : ∀ f, s.heap.objs.size ≤ f → f ∉ frs X.stack := fun f hf z => by
    rcases List.mem_cons.mp (I.stkSub _ z) with e | e
    · have lt := I.lt
      rw [← e] at lt
      exact Nat.lt_irrefl _ (Nat.lt_of_lt_of_le lt hf)
    · exact I.nofs hf e
  have last : ∀ (c' : Addr) (ctv : Value) (H1 : Hp) (s1 : Shared), Inv X pins σ H1 s1 → s.heap.objs.size ≤ s1.heap.objs.size → LamX.ExtN H H1 → LamX.Tabs T H1 → H1 c' = some (LamX.CodeO c' (X.env.qual ++ "<lambda>")) →
      Q (.ref s1.heap.objs.size) { s1 with heap := s1.heap.push (lamO X params body scope ((X.mg "__name__").getD .none) c' ctv) } := fun c' ctv H1 s1 I1 hz eN T1 hc => by
    have hn : H1 s1.heap.objs.size = none := I1.hok.fresh (Nat.le_refl _)
    have keep : ∀ b o, H1 b = some o → upd H1 s1.heap.objs.size (FnO s1.heap.objs.size (lamO X params body scope ((X.mg "__name__").getD .none) c' ctv)) b = some o := fun b o e => by
      rw [upd_ne (ne_of_none e hn)]; exact e
    exact h _ c' _ ctv _ _ (laid_fn I1 rfl) (eN.trans (LamX.ExtN.of keep)) (T1.ext keep) upd_same (away _ hz) (keep _ _ hc)
  cases hc : codeAmong pos ps.toList with
  | none =>
    refine PySem.W.kla_makeFunction (mg := X.mg) (c := c) (P := P) (ps := ps) (closure_ok hfree) I.ok.glob (I.mod.glob.keeps I.bk) hcode (TB.code.keeps I.bk) hPs ht hc TB.gP bP ?_
    intro c' ctv h' tk hx hge hlt hrec htb
    obtain ⟨c2, oc, vs, t, e2, hoc, hd, hv⟩ := hrec
    cases e2
    have nC : H c' = none := I.hok.fresh hge
    have I1 := LamX.inv_table (t' := tk) (q := X.env.qual ++ "<lambda>") (more := #[rawInt pos.line, rawInt pos.col, .ref c']) (h' := h') I hP (fun b o hb e => hx b o hb e) htb hge ⟨oc, vs, t, hoc, hd, hv⟩
    have hE : LamX.ExtN H (upd (upd H P (.tbl (ps ++ #[rawInt pos.line, rawInt pos.col, .ref c']))) c' (LamX.CodeO c' (X.env.qual ++ "<lambda>"))) := fun b o e n => by
      rw [upd_ne (ne_of_none e nC)]
      rw [upd_ne (fun z => n ps (Option.some.inj (e.symm.trans (by rw [z]; exact hP))))]
      exact e
    have eL : (ps ++ #[rawInt pos.line, rawInt pos.col, .ref c']).toList = ps.toList ++ [rawInt pos.line, rawInt pos.col, .ref c'] := by simp
    refine last c' ctv _ _ I1 (Nat.le_trans hge (Nat.le_of_lt hlt)) hE (fun p hp => ?_) upd_same
    by_cases hb : p.1 = P
    · rw [hu p hp hb, hb]
      refine ⟨_, by rw [upd_ne (ne_of_none hP nC), upd_same], by rw [eL]; exact PySem.TriplesOk_snoc _ _ _ _ ht, fun p' cv hcv => ?_⟩
      rw [eL] at hcv
      rcases LamX.among_app _ ht hcv with z | z
      · obtain ⟨c0, e1, e2⟩ := ha p' cv z
        exact ⟨c0, e1, hE _ _ e2 LamX.codeO_ne⟩
      · exact ⟨c', z, upd_same⟩
    · obtain ⟨ps', a1, a2, a3⟩ := hT p hp
      refine ⟨ps', by rw [upd_ne (ne_of_none a1 nC), upd_ne hb]; exact a1, a2, fun p' cv hcv => ?_⟩
      obtain ⟨c0, e1, e2⟩ := a3 p' cv hcv
      exact ⟨c0, e1, hE _ _ e2 LamX.codeO_ne⟩
  | some cv =>
    obtain ⟨c', e, hco⟩ := ha pos cv hc
    subst e
    refine PySem.W.kla_makeFunctionHit (mg := X.mg) (c := c) (P := P) (ps := ps) (closure_ok hfree) I.ok.glob (I.mod.glob.keeps I.bk) hcode (TB.code.keeps I.bk) hPs ht hc bP ?_
    intro ctv h' tk hx hsz
    have I1 : Inv X pins σ H { s with heap := h', toks := tk } := I.kept fun b o e => hx b o e
    exact last c' ctv H _ I1 hsz (LamX.ExtN.refl H) hT hco
end
end R

/-! R21: a lambda that stands in a list is told. -/
namespace R
open PySem L2 LamX
section
variable {X : Cx} {pins : List (Addr × Obj)} {σ : L2.St} {H HZ : Hp} {s s1 : Shared}
/-- as pe_act, the lambda's object told of by the heap -/
theorem act_of {CXg : CXT} {Eg : XK} {Ng : List Str} {qg : Str} {sg : Scope} {g f c' : Addr} {cdg pm ctv : Value} {params : Arguments} {body : Expr} {scope : Scope} {k i : Nat} {a : Str} {pn : List (Addr × Obj)} {xe : Value → Shared → Prop} {W : WX} {E : XK} {tb : TE} {p1 p2 : Pos}
    (I : Inv X pins σ H s) (L : LamS X.env.scope scope)
    (hbind : bindArgs (PySem.W.kla_fn "<lambda>" (X.env.qual ++ "<lambda>") params body scope (cloFrom X.env.cells scope.names []) pm (.ref c') ctv) ⟨[], []⟩ = pure [])
    (tk : Takes ((cxOf CXg X.prog X.w X.K X.mg X.base Ng qg sg g cdg X.A X.stack s H Eg).tr pn xe) W) (hW : ∀ cls d σ' H', E cls d H' → W cls d σ' H') (hr : Room (k + 1) (X.A.deeper (PyProof.Rows.envOfC qg sg s.heap.objs.size g cdg)))
    (hbody : ∀ (A : Around) (outer : List Env) (s : Shared) (H : Hp), Room k (A.deeper (lamEnv X scope s.heap.objs.size f c')) → PE (lamCx X A outer s H E scope f c') body tb)
    (hN : Ng[i]? = some a) (hv : Vis sg a) (hd : (a == ("__debug__" : Str)) = false := by decide) (hcd : (a == ("__classdict__" : Str)) = false := by decide) :
    PE ((cxOf CXg X.prog X.w X.K X.mg X.base Ng qg sg g cdg X.A X.stack s H Eg).tr pn xe) (.Call (.Name a p1) [] [] p2)
      (fun σZ HZ Q => σZ[i]? = some (some (.ref f)) ∧ HZ c' = some (CodeO c' (X.env.qual ++ "<lambda>")) ∧ HZ f = some (FnO f (lamO X params body scope pm c' ctv)) ∧ tb σ HZ Q) := by
  refine ⟨fun pinsZ sZ σZ HZ Q IZ h => ?_⟩
  obtain ⟨hs, hc, hfO, ht⟩ := h
  have pvr := (pe_var (pos := p1) (i := i) hN hv hd hcd).run pinsZ sZ σZ HZ (fun v H1 => v = .ref f ∧ H1 = HZ) IZ ⟨.ref f, hs, rfl, rfl⟩
  refine wpAny_Call_Name_kw (thn pvr fun u s1 ⟨v, H1, I1, r1, ev, eH⟩ => ?_)
  subst ev
  rw [eH] at I1
  obtain rfl : u = Value.ref f := r1
  obtain ⟨of1, _, _⟩ := I1.hok f _ hfO
  refine PySem.W.callWith_F0 ⟨_, _, _, _, of1⟩ ?_
  have un : Un (frs X.stack) [] H HZ s.heap s1.heap := I1.base
  obtain ⟨⟨oc, vs, t, hoc, hdc, hvc⟩, _, _⟩ := I1.hok c' _ hc
  have rc : codeAny (model X.prog X.w) (X.A.deeper (PyProof.Rows.envOfC qg sg s.heap.objs.size g cdg)) (.call (.ref f) ⟨[], []⟩) (L2.CR (L2.CX X.prog X.w) (PyProof.Rows.envOfC qg sg s.heap.objs.size g cdg :: X.stack) X.prog X.w HZ s1 Q E) s1 := by
    refine PySem.W.kla_callFunE hr.depth of1 rfl L.co L.gen rfl ⟨c', oc, vs, t, rfl, hoc, hdc, hvc⟩ ?_
    rw [hbind]
    refine wpAny_pure ?_
    refine wpAny_newFunctionEnv (fun y hy => (L.own y hy).2) (fun y hy => absurd hy (by simp)) (fun h₁ hns hsb => ?_) L.kind
    refine ⟨I1.nolimit.fresh _ hsb, ?_⟩
    show codeAny _ _ (.expr body (lamEnv X scope s1.heap.objs.size f c')) _ _
    have kp : ∀ b o, s1.heap.get? b = some o → h₁.get? b = some o := fun b o e => hsb.extBut b o (Nat.ne_of_lt (Heap.lt_size e)) (Heap.get?_push_of_some _ e)
    have J := lam_start2 (tk := s1.toks + ([] : List (Str × Value)).length) (E := E) (f := f) (c' := c') I L I1.env0 hr.hd un hns kp
    refine PySem.W.kla_codeExpr ?_
    refine wpAny_mono ((hbody _ _ s1 HZ (hr.deeper _)).run [] _ _ HZ Q J ht) (fun v s' hq => ?_) fun e s' hq => hq
    obtain ⟨w', H', J', rv, q⟩ := hq
    exact ⟨w', H', J'.os, J'.bare, J'.base, J'.hok, rv, q⟩
  have hx : Passes (L2.CX X.prog X.w) ((cxOf CXg X.prog X.w X.K X.mg X.base Ng qg sg g cdg X.A X.stack s H Eg).tr pn xe) E := passes_call tk hW
  refine wpAny_call (codeAny_mono rc fun r s' hq => ?_)
  cases r with
  | error e => exact hx pinsZ σZ HZ s1 e s' I1 hq
  | ok fl =>
    cases fl with
    | ret u => exact I1.after hq
    | next => exact False.elim hq
    | brk => exact False.elim hq
    | cont => exact False.elim hq

/-- one lambda of a list: its run, how it reads -/
structure LamD where
  params : Arguments
  body : Expr
  scope : Scope
  fe : SE
/-- what is asked of it in X -/
structure LamOk (G : Cfg) (X : Cx) (k : Nat) (d : LamD) : Prop where
  L : LamS X.env.scope d.scope
  hdef : defaultsOf d.params X.env = ([], [])
  hbind : ∀ (q : Str) (cl : List (Str × Addr)) (pm cv ctv : Value), bindArgs (PySem.W.kla_fn "<lambda>" q d.params d.body d.scope cl pm cv ctv) ⟨[], []⟩ = pure []
  hbody : ∀ (A : Around) (outer : List Env) (s : Shared) (H : Hp) (E : XK) (f c' : Addr), Room k (A.deeper (lamEnv X d.scope s.heap.objs.size f c')) → PE (lamCx X A outer s H E d.scope f c') d.body (tE G E d.fe)
/-- it stands at f -/
def LamAt (X : Cx) (H : Hp) (d : LamD) (f : Addr) : Prop := ∃ c' pm ctv, H f = some (FnO f (lamO X d.params d.body d.scope pm c' ctv)) ∧ H c' = some (CodeO c' (X.env.qual ++ "<lambda>"))
theorem LamAt.mono {H H' : Hp} {d : LamD} {f : Addr} (h : LamAt X H d f) (e : ∀ b o, H b = some o → (∀ ps, o ≠ .tbl ps) → (∀ x, ¬ Soft x → o = x → H' b = some o)) : LamAt X H' d f := by
  obtain ⟨c', pm, ctv, h1, h2⟩ := h
  exact ⟨c', pm, ctv, e _ _ h1 (fun ps z => by unfold FnO at z; cases z) _ (fun z => by unfold FnO at z; exact z) rfl, e _ _ h2 (fun ps z => by unfold CodeO at z; cases z) _ (fun z => by unfold CodeO at z; exact z) rfl⟩
variable {G : Cfg}
/-- x(fv), in a place Z of X's frame: fv holds the lambda d -/
theorem told_call {Z : Cx} {x a e ret fv : Str} {CS g : Addr} {ok : Nat → Bool} {pg : Arguments} {sg : Scope} {dV kV doc pm cdv ct oc : Value} {an od : Option Addr} {osl : Array (Option Value)} {Ng : List Str} {k j i : Nat} {d : LamD} {p pf pos p1 p2 p3 p4 p5 p6 p7 p8 : Pos} {E : XK}
    {σX : L2.St} {pinsX pinsZ : List (Addr × Obj)} {σZ : L2.St} {Q : VK} {f : Addr}
    (zA : Z.A = X.A) (zs : Z.stack = X.stack) (zp : Z.prog = X.prog) (zw : Z.w = X.w) (zK : Z.K = X.K) (zm : Z.mg = X.mg) (zb : Z.base = X.base)
    (lk : X.K.lookup g = some ⟨oc, od, .func (PySem.W.fnOf x x pg [.Try [.Return (some (.Call (.Name a p1) [] [] p2)) p3] [.ExceptHandler (some (.Name e p4)) none [.Return (some (.Constant (.str ret) j p5)) p6] p7] [] [] p8] sg dV kV doc pm an cdv ct), osl⟩)
    (hcg : PySem.W.codeIn X.K cdv x = true) (hk : PySem.W.keepIn X.K (.ref g) = true)
    (hb : L2.Binds X.K (PySem.W.fnOf x x pg [.Try [.Return (some (.Call (.Name a p1) [] [] p2)) p3] [.ExceptHandler (some (.Name e p4)) none [.Return (some (.Constant (.str ret) j p5)) p6] p7] [] [] p8] sg dV kV doc pm an cdv ct) [a] [])
    (Sg : FnScope Ng [a] sg) (hNg : Ng[0]? = some a) (hva : Vis sg a) (hge : sg.names.lookup e = some .globalImplicit) (hme : X.mg e = some (.ref CS)) (hx : Caught G X.K CS ok)
    (hg : Gl Z x) (hm : Z.mg x = some (.ref g)) (hr : Room (k + 2) X.A) (D : LamOk G X k d)
    (h0 : ∀ f : Addr, (L2.start Ng [V.ref f])[0]? = some (some (V.ref f)))
    (hde : (e == ("__debug__" : Str)) = false) (hdb : (x == ("__debug__" : Str)) = false) (hda : (a == ("__debug__" : Str)) = false) (hcd : (a == ("__classdict__" : Str)) = false)
    (hv : PE Z (.Name fv pf) (tVar i)) (hst : starEach [.Name fv pf] Z.env = (false, eval (.Name fv pf) Z.env) :: starEach [] Z.env)
    (IZ : Inv Z pinsZ σZ H s) (IX : ∀ s' , Inv Z pinsZ σZ H s' → Inv X pinsX σX H s') (hf : σZ[i]? = some (some (.ref f))) (hL : LamAt X H d f) (h : tE G E (eTold ok ret d.fe) σX H Q) :
    wpAny (model Z.prog Z.w) Z.A (eval (.Call (.Name x p) [.Name fv pf] [] pos) Z.env) (EP Z pinsZ σZ Q) Z.xe s := by
  obtain ⟨c', pm', ctv, hfO, hco⟩ := hL
  refine wpAny_Call_Name_kw (ld_glob IZ hg hm ?_ hdb)
  refine PySem.W.callWith_K (h₀ := Z.base) IZ.ok.mod.kin (by rw [zK]; exact hk) ?_ hst (by rfl)
  rw [hst]
  show wpAny _ _ (spliced ((false, eval (.Name fv pf) Z.env) :: backTo pos (starEach [] Z.env))) _ _ s
  refine Calls.spliced_cons (thn (hv.run pinsZ s σZ H (fun v H1 => v = .ref f ∧ H1 = H) IZ ⟨.ref f, hf, rfl, rfl⟩) fun u s1 ⟨v, H1, I1, r1, ev, eH⟩ => ?_)
  subst ev
  rw [eH] at I1
  obtain rfl : u = Value.ref f := r1
  refine Calls.spliced_nil ⟨I1.kIn, ?_⟩
  have JX := IX s1 I1
  have red := told_red (T := G.lam) (E := E) rfl hx σX H Q h
  have rc : codeAny (model X.prog X.w) X.A (.call (.ref g) ⟨[.ref f], []⟩) (L2.CR C8.CX0 X.stack X.prog X.w H s1 Q C8.E0) s1 := by
    refine run_ofS (N := Ng) (ps := [a]) (us := [.ref f]) (vs := [.ref f]) lk hcg Sg hr JX.env0 (hb s1 [.ref f] JX.kIn rfl) (.cons rfl .nil) rfl fun hr' => ?_
    have gv := told_gives (X := X) (Ng := Ng) (x := x) (a := a) (q := X.env.qual ++ "<lambda>") (ret := ret) (g := g) (cdg := cdv) (j := j) (p1 := p1) (p2 := p2) (p3 := p3) (p4 := p4) (p5 := p5) (p6 := p6) (p7 := p7) (p8 := p8) hge hme hde h0
    obtain ⟨t', ht', hq'⟩ := gv f c' s1 H Q (fun E H' Q' => H' f = some (FnO f (lamO X d.params d.body d.scope pm' c' ctv)) ∧ tE G E d.fe σX H' Q') (fun W pn xe E p1 p2 tk hW => act_of (i := 0) JX D.L (D.hbind _ _ _ _ _) tk hW hr' (fun A outer s H hr2 => D.hbody A outer s H E f c' hr2) hNg hva hda hcd) hco ⟨hfO, red.2 H (ExtN.refl H) red.1⟩
    exact ⟨t', ht'.nox, hq'⟩
  have rc2 : codeAny (model Z.prog Z.w) Z.A (.call (.ref g) ⟨[.ref f], []⟩) (L2.CR C8.CX0 Z.stack Z.prog Z.w H s1 Q C8.E0) s1 := by rw [zA, zp, zw, zs]; exact rc
  refine wpAny_call (codeAny_mono rc2 fun r s2 hq => ?_)
  cases r with
  | error e => exact (show False from hq).elim
  | ok fl =>
    cases fl with
    | ret u => exact I1.after hq
    | next => exact False.elim hq
    | brk => exact False.elim hq
    | cont => exact False.elim hq
end
end R

/-! R22: a list of lambdas, each of which is told. -/
namespace R
open PySem L2 LamX
/-- the runs one after another, each told as ret -/
def tolds (ok : Nat → Bool) (ret : Str) : List SE → Ls → Sto → Option Sto
  | [], _, st => some st
  | f :: fs, ls, st => match f ls st with
    | some (.exc c, st1) => if ok c = true then tolds ok ret fs ls st1 else none
    | _ => none
def LamsAt (X : Cx) (H : Hp) : List LamD → List Addr → Prop
  | [], fs => fs = []
  | d :: ds, fs => ∃ f r, fs = f :: r ∧ LamAt X H d f ∧ LamsAt X H ds r
section
variable {X : Cx} {G : Cfg} {E : XK} {p p' : List Addr} {H H' : Hp} {σ : L2.St}
theorem LamAt.grow {d : LamD} {f : Addr} (h : LamAt X H d f) (e : ∀ b φ, H b = some (.ext φ) → H' b = some (.ext φ)) : LamAt X H' d f := by
  obtain ⟨c', pm, ctv, h1, h2⟩ := h
  exact ⟨c', pm, ctv, e _ _ h1, e _ _ h2⟩
theorem LamsAt.grow (e : ∀ b φ, H b = some (.ext φ) → H' b = some (.ext φ)) : ∀ {ds : List LamD} {fs : List Addr}, LamsAt X H ds fs → LamsAt X H' ds fs
  | [], _, h => h
  | d :: ds, fs, h => by
    obtain ⟨f, r, rfl, h1, h2⟩ := h
    exact ⟨f, r, rfl, h1.grow e, LamsAt.grow e h2⟩
theorem LamsAt.len : ∀ {ds : List LamD} {fs : List Addr}, LamsAt X H ds fs → fs.length = ds.length
  | [], _, h => by rw [h]; rfl
  | d :: ds, fs, h => by
    obtain ⟨f, r, rfl, _, h2⟩ := h
    rw [List.length_cons, List.length_cons, h2.len]
theorem LamsAt.at : ∀ {ds : List LamD} {fs : List Addr} {i : Nat} {f : Addr}, LamsAt X H ds fs → fs[i]? = some f → ∃ d, ds[i]? = some d ∧ LamAt X H d f
  | [], _, i, f, h, e => by rw [h] at e; simp at e
  | d :: ds, fs, 0, f, h, e => by
    obtain ⟨f', r, rfl, h1, h2⟩ := h
    simp at e
    subst e
    exact ⟨d, rfl, h1⟩
  | d :: ds, fs, i + 1, f, h, e => by
    obtain ⟨f', r, rfl, h1, h2⟩ := h
    obtain ⟨d', q1, q2⟩ := h2.at (i := i) (f := f) (by simpa using e)
    exact ⟨d', by simpa using q1, q2⟩
/-! ### the list -/
def tLamV (G : Cfg) (X : Cx) (d : LamD) : TE := fun σ H Q => Tabs G.lam H ∧ ∀ f H1, ExtN H H1 → Tabs G.lam H1 → LamAt X H1 d f → Q (.ref f) H1
def tLamsV (G : Cfg) (X : Cx) (ds : List LamD) : TA := fun σ H Q => Tabs G.lam H ∧ ∀ fs H1, ExtN H H1 → Tabs G.lam H1 → LamsAt X H1 ds fs → Q (fs.map V.ref) H1
/-- where the lambdas are made -/
structure LamHome (G : Cfg) (X : Cx) : Prop where
  tab : ∃ c P, TabB X.base X.mg c P ∧ X.env.code = .ref c ∧ (P, X.env.qual ++ "<lambda>") ∈ G.lam ∧ ∀ p ∈ G.lam, p.1 = P → p.2 = X.env.qual ++ "<lambda>"
theorem extn_ext (e : ExtN H H') : ∀ b φ, H b = some (.ext φ) → H' b = some (.ext φ) := fun b φ h => e b _ h fun ps z => by cases z
theorem pe_lamV {k : Nat} {d : LamD} {pos : Pos} (hm : LamHome G X) (D : LamOk G X k d) : PE X (.Lambda d.params d.body d.scope pos) (tLamV G X d) := by
  obtain ⟨c, P, TB, hcode, h1, h2⟩ := hm
  refine ⟨fun pins s σ H Q I h => ?_⟩
  exact lam_made I TB hcode h1 h2 h.1 D.hdef (D.L.has I.ok) fun f c' pm ctv H1 s' I1 eN T1 hf hfr hc => ⟨.ref f, H1, I1, rfl, h.2 f H1 eN T1 ⟨c', pm, ctv, hf, hc⟩⟩
theorem pa_lam0 : PA X [] (tLamsV G X []) := pa_nil.fit fun σ H Q h => h.2 [] H (ExtN.refl H) h.1 rfl
theorem pa_lam1 {k : Nat} {d : LamD} {ds : List LamD} {es : List Expr} {pos : Pos} (hm : LamHome G X) (D : LamOk G X k d) (hr : PA X es (tLamsV G X ds)) (hs : starEach (.Lambda d.params d.body d.scope pos :: es) X.env = (false, eval (.Lambda d.params d.body d.scope pos) X.env) :: starEach es X.env := by rfl) :
    PA X (.Lambda d.params d.body d.scope pos :: es) (tLamsV G X (d :: ds)) :=
  (pa_cons (pe_lamV hm D) hr hs).fit fun σ H Q h => ⟨h.1, fun f H1 e1 T1 a1 => ⟨T1, fun fs H2 e2 T2 a2 => h.2 (f :: fs) H2 (e1.trans e2) T2 ⟨f, fs, rfl, a1.grow (extn_ext e2), a2⟩⟩⟩
/-- a list that is only read -/
def tFro (t : TA) : TE := fun σ H Q => t σ H fun xs H1 => xs.length ≤ sizeLine ∧ ∀ q o, H1 q = none → Q (.ref q) (upd H1 q (.frz o (.lst xs)))
theorem pe_fro {es : List Expr} {t : TA} {pos : Pos} (h : PA X es t) : PE X (.List es pos) (tFro t) := by
  refine ⟨fun pins s σ H Q I hq => ?_⟩
  refine wpAny_List_spliced (thn (h.run pos pins s σ H _ I hq) fun us s1 ⟨xs, H1, I1, r, z, q⟩ => ?_)
  refine ⟨by rw [← r.length]; exact z, ?_⟩
  have hn : H1 s1.heap.objs.size = none := I1.hok.fresh (Nat.le_refl _)
  have at1 : (s1.heap.push { cls := .type "list", data := .seq us.toArray }).get? s1.heap.objs.size = some { cls := .type "list", data := .seq us.toArray } := Heap.get?_push_size _ rfl
  exact ⟨.ref _, upd H1 s1.heap.objs.size (.frz { cls := .type "list", data := .seq us.toArray } (.lst xs)), I1.laid (t' := s1.toks) (fun b u e => Heap.get?_push_of_some _ e) (Nat.le_refl _) ⟨at1, z, us, 0, r, at1⟩, rfl, q _ _ hn⟩
/-- the lambdas stand in a list at slot y; the store is told -/
def BadAt (G : Cfg) (X : Cx) (y : Nat) (ds : List LamD) (p : List Addr) (ls : Ls) (st : Sto) (σ : L2.St) (H : Hp) : Prop :=
  ∃ L o fs, σ[y]? = some (some (.ref L)) ∧ H L = some (.frz o (.lst (fs.map V.ref))) ∧ LamsAt X H ds fs ∧ Sim G p st H ∧ RepS G p H ls σ
theorem ps_bad {y k : Nat} {nm : Str} {ds : List LamD} {es : List Expr} {py lp sp : Pos} {A : TS} (hN : X.N.Nodup) (hi : X.N[y]? = some nm) (hx : X.env.scope.names.lookup nm = some .local) (ha : PA X es (tLamsV G X ds)) (hz : ds.length ≤ sizeLine)
    (hs : swapsWith (.List es lp) (some (.Name nm py)) sp.line X.env = pure false := by rfl) :
    PS X (.Assign [.Name nm py] (.List es lp) sp) (fun D σ H => ∃ p ls st, Sim G p st H ∧ RepS G p H ls σ ∧ y < ls.length ∧ ∀ H' σ', Grow p H p H' → BadAt G X y ds p (ls.set y none) st σ' H' → D.nx σ' H') := by
  refine PS.fit (ps_set (i := y) hN hi (.inl hx) (pe_fro ha) hs (.inr hx)) fun D σ H ⟨p, ls, st, S, L, hy, q⟩ => ?_
  refine ⟨S.tab.lam, fun fs H1 e1 T1 a1 => ⟨by rw [List.length_map, a1.len]; exact hz, fun l o hl => ?_⟩⟩
  obtain ⟨S1, g1⟩ := S.extn e1 T1
  have g2 : Grow p H1 p (upd H1 l (.frz o (.lst (fs.map V.ref)))) := Grow.new hl
  refine q _ _ (g1.trans g2) ⟨l, o, fs, ?_, upd_same, a1.grow g2.ext, S1.beside hl, ?_⟩
  · rw [List.getElem?_set_self (by rw [← L.1]; exact hy)]
  · have L2 := (L.grow g1).grow g2
    refine ⟨by rw [List.length_set, List.length_set]; exact L2.1, fun i d e => ?_⟩
    by_cases hyi : y = i
    · subst hyi
      rw [List.getElem?_set_self hy] at e
      cases e
    · rw [List.getElem?_set_ne hyi] at e ⊢
      exact L2.2 i d e
end
end R

/-! R23: [1 for f in bad if told(f) != 'X'] != []. -/
namespace R
open PySem L2 LamX
/-- the def that tells, as it stands -/
structure ToldFn (G : Cfg) (X : Cx) (x ret : Str) (ok : Nat → Bool) : Prop where
  ex : ∃ (a e : Str) (CS g : Addr) (pg : Arguments) (sg : Scope) (dV kV doc pm cdv ct oc : Value) (an od : Option Addr) (osl : Array (Option Value)) (Ng : List Str) (j : Nat) (p1 p2 p3 p4 p5 p6 p7 p8 : Pos),
    X.K.lookup g = some ⟨oc, od, .func (PySem.W.fnOf x x pg [.Try [.Return (some (.Call (.Name a p1) [] [] p2)) p3] [.ExceptHandler (some (.Name e p4)) none [.Return (some (.Constant (.str ret) j p5)) p6] p7] [] [] p8] sg dV kV doc pm an cdv ct), osl⟩ ∧
    PySem.W.codeIn X.K cdv x = true ∧ PySem.W.keepIn X.K (.ref g) = true ∧
    L2.Binds X.K (PySem.W.fnOf x x pg [.Try [.Return (some (.Call (.Name a p1) [] [] p2)) p3] [.ExceptHandler (some (.Name e p4)) none [.Return (some (.Constant (.str ret) j p5)) p6] p7] [] [] p8] sg dV kV doc pm an cdv ct) [a] [] ∧
    FnScope Ng [a] sg ∧ Ng[0]? = some a ∧ Vis sg a ∧ sg.names.lookup e = some .globalImplicit ∧ X.mg e = some (.ref CS) ∧ Caught G X.K CS ok ∧ X.mg x = some (.ref g) ∧ (∀ f : Addr, (L2.start Ng [V.ref f])[0]? = some (some (V.ref f))) ∧
    (e == ("__debug__" : Str)) = false ∧ (x == ("__debug__" : Str)) = false ∧ (a == ("__debug__" : Str)) = false ∧ (a == ("__classdict__" : Str)) = false
/-- the comprehension's run: all are told as ret -/
def eBadC (ok : Nat → Bool) (ret : Str) (fes : List SE) : SE := fun ls st => match tolds ok ret fes ls (st ++ [.lst []]) with
  | some st1 => rOk (.ref st.length) st1
  | none => none
theorem eqP_str {a : Str} {st : Sto} (h : PyData.strOk a = true) : eqP (.str a) (.str a) st = some true := by
  have e : PyData.eqv (.str a) (.str a) = true := by simp [PyData.eqv]
  have d : (PyData.str a).depth ≤ 64 := by simp [PyData.depth]
  simp [eqP, toP, deepN, SeqAt.shaped, e, d, PyData.canLay0, h]
section
variable {X : Cx} {G : Cfg} {E : XK} {x ret fv nm : Str} {ok : Nat → Bool} {ds : List LamD} {y iv k : Nat} {scope : Scope} {elt : Expr} {pos q2 q3 q4 q5 q6 q7 q8 : Pos} {j2 : Nat}
def tBadC (G : Cfg) (E : XK) (X : Cx) (y : Nat) (ok : Nat → Bool) (ret : Str) (ds : List LamD) : TE := fun σ H Q => ∃ p ls st, BadAt G X y ds p ls st σ H ∧ Pend G E (rD G) p H (eBadC ok ret (ds.map (·.fe)) ls st) Q
abbrev badTest (x ret fv : Str) (q4 q5 q6 q7 q8 : Pos) (j2 : Nat) : Expr := .Compare (.Call (.Name x q4) [.Name fv q5] [] q6) [.NotEq] [.Constant (.str ret) j2 q7] q8
theorem pe_badc (hK : G.K = X.K) (hsr : PyData.strOk ret = true) (hc : X.calm = true) (hN : X.N.Nodup) (hr : Room (k + 2) X.A) (T : ToldFn G X x ret ok) (hms : ∀ d ∈ ds, LamOk G X k d) (hy : X.N[y]? = some nm) (hyl : X.env.scope.names.lookup nm = some .local)
    (okb : BlkOk X.N X.env.scope scope [(fv, iv)]) (hivl : iv < X.N.length)
    (hgl : ∀ (s : Shared) (H : Hp) (C : Addr) (cl : List (Str × Addr)) (fp : List Addr), Gl (X.blk s H scope (compEnvC scope cl C X.env) fp) x)
    (hvf : ∀ (s : Shared) (H : Hp) (C : Addr) (cl : List (Str × Addr)) (fp : List Addr), PE (X.blk s H scope (compEnvC scope cl C X.env) fp) (.Name fv q5) (tVar iv))
    (hgf : ∀ (s : Shared) (H : Hp) (C : Addr) (cl : List (Str × Addr)) (fp : List Addr), PG (X.blk s H scope (compEnvC scope cl C X.env) fp) (.Name fv q2) (gName iv))
    (hst : ∀ (s : Shared) (H : Hp) (C : Addr) (cl : List (Str × Addr)) (fp : List Addr), starEach [.Name fv q5] (X.blk s H scope (compEnvC scope cl C X.env) fp).env = (false, eval (.Name fv q5) (X.blk s H scope (compEnvC scope cl C X.env) fp).env) :: starEach [] (X.blk s H scope (compEnvC scope cl C X.env) fp).env := by intros; rfl)
    (hd : (nm == ("__debug__" : Str)) = false := by decide) (hcd : (nm == ("__classdict__" : Str)) = false := by decide) :
    PE X (.ListComp elt [⟨.Name fv q2, .Name nm q3, [badTest x ret fv q4 q5 q6 q7 q8 j2], 0⟩] scope pos) (tBadC G E X y ok ret ds) := by
  refine ⟨fun pins s σ H Q I h => ?_⟩
  obtain ⟨p, ls, st, ⟨L, o, fs, hσ, hL, hA, S, rs⟩, q⟩ := h
  have hfree : ∀ z ∈ scope.names, z.2 = .free → ∃ c, X.env.cells.lookup z.1 = some c := fun z hz e => by
    rcases okb.free z hz e with w | w
    · exact I.ok.has _ (.inl w)
    · exact I.ok.has _ (.inr w)
  rw [eval_ListComp]
  refine wpAny_comprehension_free (use := none) rfl (fun _ => rfl) (closure_ok hfree) okb.kind (fun z hz e => by rw [okb.uniq z hz, e]) ?_
  have hi := (pi_list (tg := .Name fv q2) (pe_var (pos := q3) hy (.inl hyl) hd hcd)).run pins s σ H (fun J H1 => J = Itl X.K L ∧ H1 = H) I ⟨.ref L, hσ, L, rfl, ⟨_, .inl (.inr ⟨o, hL⟩)⟩, rfl, rfl⟩
  refine thn hi fun xv s1 hx => thn hx fun itv s2 ⟨it, fp, tn, J, H2, e, I2, Tu, tn2, f2, eJ, eH⟩ => ?_
  subst e eJ
  rw [eH] at I2 f2
  refine wpAny_newObj_type (newEnv_comp ?_) (by show 0 ≤ sizeLine; decide)
  generalize hD : s2.heap.objs.size = D
  have hDn : H D = none := I2.hok.fresh (Nat.le_of_eq hD)
  generalize hs3 : ({ s2 with heap := s2.heap.push { cls := .type "list", data := .seq ([] : List Value).toArray } } : Shared) = s3
  have e3 : s3.heap = s2.heap.push { cls := .type "list", data := .seq ([] : List Value).toArray } := by rw [← hs3]
  generalize hH3 : upd H D (.lst []) = H3
  have I3 : Inv X pins σ H3 s3 := by
    rw [← hs3, ← hH3]
    refine I2.laid (t' := s2.toks) (fun b o e => Heap.get?_push_of_some _ e) (Nat.le_of_eq hD) ⟨Nat.zero_le _, [], 0, .nil, ?_⟩
    rw [← hD]
    exact Heap.get?_push_size _ rfl
  have g3 : Grow p H (p ++ [D]) H3 := by rw [← hH3]; exact Grow.more1 hDn
  have S3 : Sim G (p ++ [D]) (st ++ [.lst []]) H3 := by
    rw [← hH3]
    exact S.alloc (o := .lst []) hDn True.intro ⟨[], upd_same, RepL.nil⟩
  have small : ∀ b ∈ fp, b < s2.heap.objs.size := fun b hb => by
    obtain ⟨ob, e, _⟩ := Tu.obj _ _ tn2 b hb
    exact Heap.lt_size e
  have f3 : ∀ b ∈ fp, FpOk X pins H3 b ∧ b < s3.heap.objs.size := fun b hb => by
    have lt := small b hb
    refine ⟨⟨?_, (f2 b hb).2⟩, by rw [e3, Heap.size_push]; exact Nat.lt_succ_of_lt lt⟩
    rw [← hH3, upd_ne (by rw [← hD]; exact Nat.ne_of_lt lt)]
    exact (f2 b hb).1
  have tn3 : tn 0 s3.heap := Tu.keep _ _ _ tn2 fun b _ u e => by rw [e3]; exact Heap.get?_push_of_some _ e
  have I4 := block_start I3 okb hN f3
  show codeAny _ _ (.compStart _ 0 (.ref it) (.ref D) (compEnvC scope (cellsFrom (s3.heap.objs.size + 1) scope.names (cloFrom X.env.cells scope.names [])) s3.heap.objs.size X.env)) (compPost (model X.prog X.w) X.A X.xe none (EP X pins σ Q) (.ref D) s3.heap.objs.size) { s3 with heap := pushCells (s3.heap.push { cls := .type "dict", data := .dict #[] }) scope.names }
  have gl := hgl s3 H3 s3.heap.objs.size (cellsFrom (s3.heap.objs.size + 1) scope.names (cloFrom X.env.cells scope.names [])) fp
  have vf := hvf s3 H3 s3.heap.objs.size (cellsFrom (s3.heap.objs.size + 1) scope.names (cloFrom X.env.cells scope.names [])) fp
  have gf := hgf s3 H3 s3.heap.objs.size (cellsFrom (s3.heap.objs.size + 1) scope.names (cloFrom X.env.cells scope.names [])) fp
  have stv := hst s3 H3 s3.heap.objs.size (cellsFrom (s3.heap.objs.size + 1) scope.names (cloFrom X.env.cells scope.names [])) fp
  generalize hce : compEnvC scope (cellsFrom (s3.heap.objs.size + 1) scope.names (cloFrom X.env.cells scope.names [])) s3.heap.objs.size X.env = ce at I4 gl vf gf stv ⊢
  have cL : ce.locals = s3.heap.objs.size := by rw [← hce]; rfl
  generalize hs4 : ({ s3 with heap := pushCells (s3.heap.push { cls := .type "dict", data := .dict #[] }) scope.names } : Shared) = s4 at I4 ⊢
  have tn4 : tn 0 s4.heap := Tu.keep _ _ _ tn3 fun b _ u e => by rw [← hs4]; exact pushCells_keeps _ _ _ _ (Heap.get?_push_of_some _ e)
  have stay : ∀ {σ' : L2.St} {H' : Hp} {s' : Shared}, Inv (X.blk s3 H3 scope ce fp) [] σ' H' s' → (∀ b ∈ fp, H' b = none) → ∀ b ∈ fp, FpOk (X.blk s3 H3 scope ce fp) [] H' b := fun {σ' H' s'} I' hn b hb =>
    ⟨hn b hb, (I'.ok.exf b hb).1, I'.ok.exfs b hb, .inl hb, fun x c e => (I'.ok.exf b hb).2 x c e, fun w hw => absurd (show w ∈ ([] : List (Addr × Obj)) ++ [] from hw) (by simp)⟩
  have out : ∀ {pl : List (Addr × Obj)} {σ' : L2.St} {H' : Hp} {s' : Shared}, Inv (X.blk s3 H3 scope ce fp) pl σ' H' s' → Inv X pins σ H' s' := fun {pl σ' H' s'} I' =>
    I3.call' (ch := fp) I'.os I'.base I'.hok I'.bare fun b hb => ⟨(f3 b hb).1.2.2.2.1, (f3 b hb).1.2.1, (f3 b hb).1.2.2.2.2.1, (f3 b hb).1.2.2.2.2.2⟩
  obtain ⟨r9, st9, h9, q9⟩ := q
  obtain ⟨stE, hE, er⟩ : ∃ stE, tolds ok ret (ds.map (·.fe)) ls (st ++ [.lst []]) = some stE ∧ (r9, st9) = (Res.ok (Dv.ref st.length), stE) := by
    unfold eBadC at h9
    cases ht : tolds ok ret (ds.map (·.fe)) ls (st ++ [.lst []]) with
    | none => rw [ht] at h9; cases h9
    | some stE => rw [ht] at h9; cases h9; exact ⟨_, rfl, rfl⟩
  injection er with er1 er2
  subst er1 er2
  have hlen : fs.length = ds.length := hA.len
  have hu : (X.blk s3 H3 scope ce fp).A.units + 64 < cLine := hr.units
  have loop : codeAny (model X.prog X.w) X.A (.compLoop (.ListComp elt [⟨.Name fv q2, .Name nm q3, [badTest x ret fv q4 q5 q6 q7 q8 j2], 0⟩] scope pos) 0 (.ref it) (.ref D) ce) (compPost (model X.prog X.w) X.A X.xe none (EP X pins σ Q) (.ref D) s3.heap.objs.size) s4 := by
    refine compLoop_any (fun n s' => ∃ i p' st' H', n = fs.length - i ∧ i ≤ fs.length ∧ Inv (X.blk s3 H3 scope ce fp) [] (wipe σ [iv]) H' s' ∧ tn i s'.heap ∧ (∀ b ∈ fp, H' b = none) ∧ Sim G p' st' H' ∧ Grow (p ++ [D]) H3 p' H' ∧ tolds ok ret ((ds.drop i).map (·.fe)) ls st' = some st9) ?_ (fs.length - 0)
      ⟨0, p ++ [D], _, H3, rfl, Nat.zero_le _, I4, tn4, fun b hb => (f3 b hb).1.1, S3, Grow.refl _ _, by simpa using hE⟩
    rintro n s5 ⟨i, p5, st5, H5, rfl, hi5, I5, tn5, n5, S5, g5, t5⟩
    have hL5 : H5 L = some (.frz o (.lst (fs.map V.ref))) := g5.frz _ _ _ (g3.frz _ _ _ hL)
    have hq5 : SqL X.K H5 L (fs.map V.ref) := .inl (.inr ⟨o, hL5⟩)
    have hA5 : LamsAt X H5 ds fs := hA.grow fun b φ e => g5.ext b φ (g3.ext b φ e)
    by_cases hlt : i < fs.length
    · -- one more
      have hfi : (fs.map V.ref)[i]? = some (.ref fs[i]) := by simp [hlt]
      have ti := Tu.item (X.blk s3 H3 scope ce fp) rfl rfl rfl hc i [] s5 _ H5 (fun _ _ => False) I5 (stay I5 n5) tn5 ⟨_, _, hq5, hfi⟩
      refine thnF ti fun r s6 ⟨u, hr6, h6⟩ => ?_
      subst hr6
      refine thnF h6 fun _ s7 ⟨x7, H7, I7, r7, ⟨eH7, y7⟩, tn7, n7⟩ => ?_
      rw [eH7] at I7 n7
      have ex7 : x7 = .ref fs[i] := by
        have := y7 _ hq5
        rw [hfi] at this
        exact (Option.some.inj this).symm
      subst ex7
      have I7' := I7.pinned (stay I7 n7) (Tu.obj _ _ tn7)
      refine thnF (gf.run _ s7 _ H5 (.ref fs[i]) u (fun σ' H' => σ' = (wipe σ [iv]).set iv (some (.ref fs[i])) ∧ H' = H5) I7' r7 ⟨rfl, rfl⟩) fun _ s8 ⟨σ8, H8, I8, e8, eH8⟩ => ?_
      rw [eH8] at I8
      obtain ⟨d, hd1, hd2⟩ := hA5.at (i := i) (f := fs[i]) (by simp [hlt])
      have hdm : d ∈ ds := List.mem_of_getElem? hd1
      have hdrop : ds.drop i = d :: ds.drop (i + 1) := by
        obtain ⟨hl, e⟩ := List.getElem?_eq_some_iff.mp hd1
        rw [List.drop_eq_getElem_cons hl, e]
      rw [hdrop] at t5
      -- its run
      have t5' : (match d.fe ls st5 with
        | some (.exc c, st1) => if ok c = true then tolds ok ret ((ds.drop (i + 1)).map (·.fe)) ls st1 else none
        | _ => none) = some st9 := t5
      obtain ⟨c, st6, hfe, hok, t6⟩ : ∃ c st6, d.fe ls st5 = some (.exc c, st6) ∧ ok c = true ∧ tolds ok ret ((ds.drop (i + 1)).map (·.fe)) ls st6 = some st9 := by
        split at t5'
        · rename_i c st1 e1
          split at t5'
          · rename_i hc
            exact ⟨c, st1, e1, hc, t5'⟩
          · cases t5'
        · cases t5'
      refine wpAny_tests_one ?_
      obtain ⟨a, e, CS, g, pg, sg, dV, kV, doc, pm, cdv, ct, oc, an, od, osl, Ng, j, p1, p2, p3, p4, p5', p6, p7, p8, lk, hcg, hk, hb, Sg, hNg, hva, hge, hme, hx, hm, h0, hde, hdb, hda, hcd⟩ := T.ex
      have rs5 : RepS G p5 H5 ls σ := (rs.grow g3).grow g5
      have call := told_call (X := X) (Z := X.blk s3 H3 scope ce fp) (E := E) (pos := q6) (p := q4) (pf := q5) (σX := σ) (pinsX := pins) (σZ := σ8) (Q := fun v H' => v = .str ret ∧ ∃ p6 , Sim G p6 st6 H' ∧ Grow p5 H5 p6 H') rfl rfl rfl rfl rfl rfl rfl lk hcg hk hb Sg hNg hva hge hme hx gl hm hr (hms d hdm) h0 hde hdb hda hcd vf stv I8 (fun s' I' => out I') (by
          rw [e8, List.getElem?_set_self (by rw [wipe_length, I.len]; exact hivl)]) hd2
        ⟨p5, ls, st5, S5, rs5, .ok (.str ret), st6, by unfold eTold; rw [hfe]; simp [hok, rOk], fun p6 H6 g6 S6 v hv => ⟨rep_str hv, p6, S6, g6⟩⟩
      refine wpAny_isTrue_Compare1 (thnF call fun v s9 ⟨xv, H9, I9, r9, ex9, p9, S9, g9⟩ => ?_) (nomark _)
      subst ex9
      have ps := (pe_str (X := X.blk s3 H3 scope ce fp) (x := ret) (j := j2) (pos := q7)).run _ s9 σ8 H9 (fun w H' => w = .str ret ∧ H' = H9) I9 ⟨rfl, rfl⟩
      refine thnF ps fun w s10 ⟨wv, H10, I10, r10, ew, eH10⟩ => ?_
      subst ew
      rw [eH10] at I10
      obtain ⟨rr, op1, op2⟩ := c_ne (X := X.blk s3 H3 scope ce fp) (G := G) (E := E) hu hK
      have cmp := op1 _ s10 σ8 H9 (.str ret) (.str ret) v w (fun z H' => z = .bl false ∧ ∃ p11, Sim G p11 st6 H' ∧ Grow p9 H9 p11 H') I10 r9 r10 (op2 p9 st6 H9 (.str ret) (.str ret) _ _ _ S9 (by simp [Rep]) (by simp [Rep])
        ⟨.ok (.bl false), st6, by unfold opNe; rw [eqP_str hsr]; rfl, fun p11 H11 g11 S11 z hz => ⟨rep_bl hz, p11, S11, g11⟩⟩)
      refine thnF cmp fun z s11 ⟨zv, H11, I11, r11, ez, p11, S11, g11⟩ => ?_
      subst ez
      obtain rfl : z = Value.bool false := r11
      refine wpAny_truthy_bool ?_
      show (if false = true then _ else _)
      simp only [Bool.false_eq_true, if_false]
      -- the turn's end
      have pin' : ∀ b ∈ fp, ∀ ob, s7.heap.get? b = some ob → s11.heap.get? b = some ob ∧ H11 b = none := fun b hb ob eo =>
        let w := I11.pin (b, ob) (List.mem_append_right _ (List.mem_append_right _ (mem_pinsAt hb eo)))
        ⟨w.1, w.2.1⟩
      refine ⟨fs.length - (i + 1), by omega, i + 1, p11, st6, H11, rfl, hlt, (I11.unpinned (pins := [])).weak ?_ (fun q w eq => ?_), Tu.keep _ _ _ tn7 fun b hb ob eo => (pin' b hb ob eo).1, fun b hb => ?_, S11, g5.trans (g9.trans g11), t6⟩
      · rw [e8, List.length_set]
      · rw [e8]
        by_cases hq : iv = q
        · subst hq
          have := (wipe_some eq).2
          exact absurd List.mem_cons_self this
        · rw [List.getElem?_set_ne hq]; exact eq
      · obtain ⟨ob, eo, _⟩ := Tu.obj _ _ tn7 b hb
        exact (pin' b hb ob eo).2
    · -- it ends
      have hin : i = fs.length := by omega
      have td := Tu.done (X.blk s3 H3 scope ce fp) rfl rfl rfl hc i [] s5 _ H5 (fun _ _ => False) I5 (stay I5 n5) tn5 ⟨_, hq5, by rw [List.length_map]; omega⟩
      refine thnF td fun r s6 ⟨hr6, I6⟩ => ?_
      subst hr6
      have I7 := out I6
      have nC : H5 s3.heap.objs.size = none := by
        have z : H5 ce.locals = none := I6.free
        rw [cL] at z
        exact z
      obtain ⟨m, hn, _⟩ := I6.loc
      have hn : s6.heap.Ns ce.locals m := hn
      rw [cL] at hn
      obtain ⟨f0, f1, f2', f3', f4, f5⟩ := I3.fpOk (Nat.le_refl _) nC
      refine ⟨m, hn, fun h'' sb => ⟨.ref D, H5, I7.turned (t' := s6.toks) (fun b ob hb e => (sb.2 b hb).trans e) f0 f1 f3' f4 f5, rfl, ?_⟩⟩
      have e0 : ds.drop i = [] := List.drop_of_length_le (by omega)
      rw [e0] at t5
      cases t5
      exact q9 p5 H5 (g3.trans g5) S5 (.ref D) ⟨D, g5.pre _ _ S.last, rfl⟩
  exact codeAny_compStart_list loop (Tu.self X.A 0 _ _ _ tn4 loop)
end
end R

/-! R24: bad = [lambda: .., ..]; if [1 for f in bad if told(f) != 'X'] != [] or ..: .. -/
namespace R
open PySem L2 LamX
section
variable {X : Cx} {G : Cfg} {E : XK} {ds : List LamD} {y : Nat} {α β γ δ : Type}
/-- a reading where the list of lambdas stands at y -/
def tBM (G : Cfg) (E : XK) (X : Cx) (y : Nat) (ds : List LamD) (rep : List Addr → Hp → α → β → Prop) (f : Ls → Sto → Mo α) (σ : L2.St) (H : Hp) (Q : β → Hp → Prop) : Prop := ∃ p ls st, BadAt G X y ds p ls st σ H ∧ Pend G E rep p H (f ls st) Q
theorem tBM_bind {rep : List Addr → Hp → α → β → Prop} {rep' : List Addr → Hp → γ → δ → Prop} {f : Ls → Sto → Mo α} {k : α → Sto → Mo γ} {Q : δ → Hp → Prop} {Q' : β → Hp → Prop} {p : List Addr} {ls : Ls} {st : Sto} {σ : L2.St} {H : Hp} (B : BadAt G X y ds p ls st σ H) (h : Pend G E rep' p H ((f ls st).bind k) Q)
    (hk : ∀ p1 st1 a b H1, Sim G p1 st1 H1 → Grow p H p1 H1 → RepS G p1 H1 ls σ → rep p1 H1 a b → Pend G E rep' p1 H1 (k a st1) Q → Q' b H1) : tBM G E X y ds rep f σ H Q' := by
  obtain ⟨L, o, fs, h1, h2, h3, h4, h5⟩ := id B
  exact ⟨p, ls, st, B, (Pend.bind (rep := rep) h).mono fun b H1 ⟨p1, st1, a, S1, g1, ra, q⟩ => hk p1 st1 a b H1 S1 g1 (h5.grow g1) ra q⟩
variable {ok : Nat → Bool} {ret : Str} {comp : Expr} {p1 p2 pos : Pos}
abbrev eBadT (ok : Nat → Bool) (ret : Str) (fes : List SE) : SE := eOp opNe (eBadC ok ret fes) (eLst aNil)
theorem pt_badc {k : Nat} (hK : G.K = X.K) (hr : Room (k + 2) X.A) (hc : PE X comp (tBadC G E X y ok ret ds)) : PT X (.Compare comp [.NotEq] [.List [] p1] p2) (tBM G E X y ds rB (bB (eBadT ok ret (ds.map (·.fe))))) := by
  obtain ⟨r, h1, h2⟩ := c_ne (X := X) (G := G) (E := E) hr.units hK
  refine (pt_cmpR h1 hc (r_lst (E := E) (G := G) r_anil) (nomark _)).fit fun σ H Q ⟨p, ls, st, B, q⟩ => ?_
  unfold bB eBadT eOp at q
  rw [Mo.assoc] at q
  refine tBM_bind (rep := rD G) B q fun pp1 st1 a b H1 S1 g1 L1 ra q1 => ?_
  rw [Mo.assoc] at q1
  refine tM_bind (rep := rD G) S1 L1 q1 fun pp2 st2 a2 b2 H2 S2 g2 L2' ra2 q2 => ?_
  refine h2 pp2 st2 H2 a a2 b b2 _ S2 (ra.grow g2) ra2 ((Pend.bind (rep := rD G) q2).mono fun z H3 ⟨p3, st3, d, S3, g3, rd, q3⟩ => ?_)
  split at q3
  · exact ⟨_, rep_bl rd, q3.now S3 (Grow.refl _ _) rfl⟩
  · exact q3.no
theorem pt_bador {b : Expr} {rest : List Expr} {a : Expr} {t u : SB} (ha : PT X a (tBM G E X y ds rB t)) (hb : PW X (.BoolOp .Or (b :: rest) pos) (tT G E u)) : PT X (.BoolOp .Or (a :: b :: rest) pos) (tBM G E X y ds rB (bOr t u)) :=
  (pw_or ha hb).pt.fit fun σ H Q ⟨p, ls, st, B, q⟩ => tBM_bind (rep := rB) B q fun pp1 st1 x v H1 S1 g1 L1 r1 q1 => by
    have e : x = v := r1
    subst e
    cases x with
    | false => exact ⟨pp1, ls, st1, S1, L1, q1⟩
    | true => exact q1.now S1 (Grow.refl _ _) rfl
def tBS (G : Cfg) (E : XK) (X : Cx) (y : Nat) (ds : List LamD) (g : SS) : TS := fun D σ H => tBM G E X y ds (rS G) g σ H (post D)
theorem ps_badif {c : Expr} {sa sb : List Stmt} {t : SB} {g1 g2 : SS} (ht : PT X c (tBM G E X y ds rB t)) (ha : PSs X sa (tS G E g1)) (hb : PSs X sb (tS G E g2)) : PS X (.If c sa sb pos) (tBS G E X y ds (sIf t g1 g2)) :=
  PS.fit (ps_if ht ha hb) fun D σ H ⟨p, ls, st, B, q⟩ => tBM_bind (rep := rB) B q fun pp1 st1 x v H1 S1 gg L1 r1 q1 => by
    have e : x = v := r1
    subst e
    cases x with
    | true => exact ⟨pp1, ls, st1, S1, L1, q1⟩
    | false => exact ⟨pp1, ls, st1, S1, L1, q1⟩
theorem pss_badif {s : Stmt} {ss : List Stmt} {g1 g2 : SS} (h1 : PS X s (tBS G E X y ds g1)) (h2 : PSs X ss (tS G E g2)) : PSs X (s :: ss) (tBS G E X y ds (sSeq g1 g2)) :=
  PSs.fit (pss_cons h1 h2) fun D σ H ⟨p, ls, st, B, q⟩ => by
    refine tBM_bind (rep := rS G) B q fun p1 st1 x z H1 S1 g1 L1 r1 q1 => ?_
    obtain ⟨x1, x2⟩ := x
    obtain ⟨y1, y2⟩ := z
    obtain ⟨r1, r2⟩ := r1
    have r1 : rFl G p1 H1 x1 y1 := r1
    have r2 : RepS G p1 H1 x2 y2 := r2
    rcases rFl_cases r1 with ⟨e1, e2⟩ | ⟨d, v, e1, e2, e3⟩ | ⟨e1, e2⟩ | ⟨e1, e2⟩ <;> subst e1 e2
    · exact ⟨p1, x2, st1, S1, r2, q1⟩
    · exact q1.now (b := (FlV.rt v, y2)) S1 (Grow.refl _ _) ⟨e3, r2⟩
    · exact q1.now (b := (FlV.bk, y2)) S1 (Grow.refl _ _) ⟨trivial, r2⟩
    · exact q1.now (b := (FlV.ct, y2)) S1 (Grow.refl _ _) ⟨trivial, r2⟩
/-- the list is made, then g -/
def sBad (y : Nat) (g : SS) : SS := fun ls st => if y < ls.length then g (ls.set y none) st else none
theorem r_bad {nm : Str} {es : List Expr} {py lp sp : Pos} {ss : List Stmt} {g : SS} (hN : X.N.Nodup) (hi : X.N[y]? = some nm) (hx : X.env.scope.names.lookup nm = some .local) (ha : PA X es (tLamsV G X ds)) (hz : ds.length ≤ sizeLine)
    (h2 : PSs X ss (tBS G E X y ds g)) (hs : swapsWith (.List es lp) (some (.Name nm py)) sp.line X.env = pure false := by rfl) : PSs X (.Assign [.Name nm py] (.List es lp) sp :: ss) (tS G E (sBad y g)) :=
  PSs.fit (pss_cons (ps_bad (k := 0) (A := fun _ _ _ => True) hN hi hx ha hz hs) h2) fun D σ H ⟨p, ls, st, S, L, q⟩ => by
    unfold sBad at q
    obtain ⟨hy, q⟩ := q.ifT
    refine ⟨p, ls, st, S, L, hy, fun H' σ' g' B => ⟨p, _, st, B, ?_⟩⟩
    obtain ⟨r9, st9, h9, f9⟩ := q
    exact ⟨r9, st9, h9, fun p3 H3 g3 S3 => f9 p3 H3 (g'.trans g3) S3⟩
/-- the def that tells, by its facts -/
theorem toldFn_of {x a e ret : Str} {CS : Addr} {ok : Nat → Bool} {pg : Arguments} {sg : Scope} {kws : List (Str × V)} {fd : FuncData} {Ng : List Str} {j : Nat} {p1 p2 p3 p4 p5 p6 p7 p8 : Pos}
    (F : FunD X.K x x pg [.Try [.Return (some (.Call (.Name a p1) [] [] p2)) p3] [.ExceptHandler (some (.Name e p4)) none [.Return (some (.Constant (.str ret) j p5)) p6] p7] [] [] p8] sg [] kws (He.ga X.K x) fd)
    (hbnd : ∀ (kV doc pm : Value) (an : Option Addr) (cdv ct : Value) (us : List Value), us.length = 1 → bindArgs (PySem.W.fnOf x x pg [.Try [.Return (some (.Call (.Name a p1) [] [] p2)) p3] [.ExceptHandler (some (.Name e p4)) none [.Return (some (.Constant (.str ret) j p5)) p6] p7] [] [] p8] sg .none kV doc pm an cdv ct) ⟨us, []⟩ = pure ([a].zip us))
    (Sg : FnScope Ng [a] sg) (hNg : Ng[0]? = some a) (hva : Vis sg a) (hge : sg.names.lookup e = some .globalImplicit) (hme : X.mg e = some (.ref CS)) (hx : Caught G X.K CS ok) (hm : X.mg x = some (.ref (He.ga X.K x)))
    (h0 : ∀ f : Addr, (L2.start Ng [V.ref f])[0]? = some (some (V.ref f)) := by intro _; rfl)
    (hde : (e == ("__debug__" : Str)) = false := by decide) (hdb : (x == ("__debug__" : Str)) = false := by decide) (hd : (a == ("__debug__" : Str)) = false := by decide) (hcd : (a == ("__classdict__" : Str)) = false := by decide) : ToldFn G X x ret ok := by
  have hbs : Binds X.K fd [a] [] := F.bindsN (ps := [a]) hbnd
  have hk := F.kp
  obtain ⟨oc, od, dV, kV, doc, pm, an, cdv, ct, osl, rfl, lk, hcg, _, _⟩ := F.ex
  exact ⟨a, e, CS, _, pg, sg, dV, kV, doc, pm, cdv, ct, oc, an, od, osl, Ng, j, p1, p2, p3, p4, p5, p6, p7, p8, lk, hcg, hk, hbs, Sg, hNg, hva, hge, hme, hx, hm, h0, hde, hdb, hd, hcd⟩
end
end R
namespace R
open PySem
/-- the i-th lambda of a list that a statement stores -/
def lamOf (s : Stmt) (i : Nat) : Arguments × Expr × Scope := match s with
  | .Assign _ (.List es _) _ => match es[i]? with
    | some (.Lambda a b c _) => (a, b, c)
    | _ => (⟨[], [], none, [], [], none, []⟩, .Constant .none 0 default, ⟨.function, [], false, false, []⟩)
  | _ => (⟨[], [], none, [], [], none, []⟩, .Constant .none 0 default, ⟨.function, [], false, false, []⟩)
def lamD (s : Stmt) (i : Nat) (fe : SE) : LamD := ⟨(lamOf s i).1, (lamOf s i).2.1, (lamOf s i).2.2, fe⟩
end R

/-! R25: the end of a law. -/
namespace R
open PySem L2 LamX
section
variable {fa : List He.Fa} {fn : List He.DefD} {ts : List He.Tab} {tfn : List (He.Defn × Str)} {w : World} {K : PySem.W.Frag} {mg : Str → Option Value} {h : Heap} {l : PySem.W.OpenLaw}
abbrev exOf (tfn : List (He.Defn × Str)) : PySem.W.Frag → Bool := fun K => decide ((tfn.map fun t => (He.cT K t.1).2).Nodup)
theorem repL_ints {p : List Addr} {H : Hp} : ∀ ns : List Int, RepL K p H (ns.map .int) (ns.map V.int)
  | [] => RepL.nil
  | n :: ns => RepL.cons (by simp [Rep]) (repL_ints ns)
theorem law_sp {cls exc : List Str} {m : FC} {ns : List Int} {H : Hp} {a : Addr} (hT : ∀ p ∈ (tfn.map (·.1)).map (He.cT K), H p.2 = some (.tbl #[])) (hS : SqL K H a (ns.map V.int))
    (pure : ∀ (Z : Dv) (st : Sto), asL st Z = some (ns.map .int) → st.length ≤ 1 → ∃ st', m [Z] st = some (.ok (.bl true), st')) :
    spOf (cfgOf K cls exc tfn) 1 m [.ref a] H (fun v _ => v = .bl true) fun _ _ _ => False := by
  have tabs : Tabs (cfgOf K cls exc tfn).lam H := fun x hx => by
    obtain ⟨t, ht, rfl⟩ := List.mem_map.mp hx
    exact TabS.nil (hT (He.cT K t.1) (List.mem_map.mpr ⟨t.1, List.mem_map.mpr ⟨t, ht, rfl⟩, rfl⟩))
  have byVal : ∀ Z : Dv, asL [] Z = some (ns.map .int) → Rep K [] H Z (.ref a) → spOf (cfgOf K cls exc tfn) 1 m [.ref a] H (fun v _ => v = .bl true) fun _ _ _ => False := fun Z e hc => by
    obtain ⟨st', e⟩ := pure Z [] e (Nat.zero_le _)
    exact ⟨rfl, [], [], [Z], ⟨rfl, fun n m a h => by simp at h, fun n a o h => by simp at h, fun a h => by simp at h, ⟨tabs⟩, fun a ps h => by simp at h, fun a xs h => by simp at h⟩, RepL.cons hc RepL.nil, .ok (.bl true), st', e, fun p' H' g S b hb => rep_bl hb⟩
  rcases hS with (hS | ⟨o, hS⟩) | hS
  · obtain ⟨st', e⟩ := pure (.ref 0) [.lst (ns.map .int)] rfl (Nat.le_refl _)
    refine ⟨rfl, [a], [.lst (ns.map .int)], [.ref 0], ⟨rfl, fun n m b h1 h2 => ?_, fun n b o h1 h2 => ?_, fun b hb => ?_, ⟨tabs⟩, fun b ps hb => ?_, fun b xs hb => ?_⟩, ?_, .ok (.bl true), st', e, fun p' H' g S b hb => rep_bl hb⟩
    · have e1 := (List.getElem?_eq_some_iff.mp h1).1
      have e2 := (List.getElem?_eq_some_iff.mp h2).1
      simp at e1 e2
      omega
    · have e1 := (List.getElem?_eq_some_iff.mp h1).1
      simp at e1
      subst e1
      simp at h1 h2
      subst h1 h2
      exact ⟨_, hS, repL_ints ns⟩
    · rw [List.mem_singleton.mp hb, hS]; exact fun z => nomatch z
    · rw [List.mem_singleton.mp hb, hS]; exact fun z => nomatch z
    · rw [List.mem_singleton.mp hb, hS]; exact fun z => nomatch z
    · exact RepL.cons ⟨a, rfl, rfl⟩ RepL.nil
  · exact byVal (.cst (ns.map .int)) rfl (by simp only [Rep]; exact ⟨a, _, rfl, ⟨o, hS⟩, repL_ints ns⟩)
  · exact byVal (.wri (ns.map .int)) rfl (by simp only [Rep]; exact ⟨a, _, rfl, .inr hS, repL_ints ns⟩)
theorem law_at {cls exc : List Str} {m : FC} {k n i j : Nat} {fa0 : Addr} {d : He.DefD} (KX : K.In h) (hG : h.Ns mainGlobals mg) (c : He.SaysX fa fn ts (tfn.map (·.1)) (exOf tfn) w h K) (hfa : mg "law" = some (.ref fa0)) (hi : fa[i]? = some (.glo "law"))
    (hj : fn[j]? = some d) (hd : d.at_ = (("law" : Str), (none : Option Str))) (hbA : ∀ fd, FunD K d.name d.qual d.params d.body d.scope (d.dvs K) (d.kws K) (He.fAd K d.at_) fd → ∀ (s : Shared) (v : Value), BindsTo s fd ⟨[v], []⟩ [("script", v)])
    (ok : ∀ base : Heap, Tx fa fn ts tfn (exOf tfn) w K mg base → FnB l.prog w K mg base k "law" ["script"] (spOf (cfgOf K cls exc tfn) 1 m))
    (pure : ∀ ns : List Int, ns.length ≤ n → (∀ z ∈ ns, Builtin.Int.intBits z ≤ 1048576) → ∀ (Z : Dv) (st : Sto), asL st Z = some (ns.map .int) → st.length ≤ 1 → ∃ st', m [Z] st = some (.ok (.bl true), st')) :
    LawAtS l w K (L2.CX l.prog w) k n "script" mg fa0 h := by
  have e := hfa.symm.trans (He.glo_ok KX hG (c.t.d.fact i hi))
  cases e
  obtain ⟨fd, F⟩ := c.t.d.def_ j hj
  have F' := F
  rw [hd] at F'
  obtain ⟨oc, od, osl, lk⟩ := fun_lk F'
  have nd : (tfn.map fun t => (He.cT K t.1).2).Nodup := of_decide_eq_true c.more
  refine ⟨fd, (tfn.map (·.1)).map (He.cT K), spOf (cfgOf K cls exc tfn) 1 m, fun p hp => ?_, fun p hp => ?_, fun p hp => ?_, hbA fd F, fun H a ns hl hb hT hS => law_sp hT hS (pure ns hl hb), fun base hK hN hTB => ?_⟩
  · obtain ⟨t, ht, rfl⟩ := List.mem_map.mp hp
    exact c.empty t ht
  · obtain ⟨t, ht, rfl⟩ := List.mem_map.mp hp
    exact c.out t ht
  · obtain ⟨t, ht, rfl⟩ := List.mem_map.mp hp
    exact PySem.W.codeHd_of_K KX (c.hd t ht)
  · have T : Tx fa fn ts tfn (exOf tfn) w K mg base := ⟨⟨h, KX, hG, c⟩, fun p hp => hTB _ (List.mem_map.mpr ⟨p, hp, rfl⟩), nd⟩
    obtain ⟨fd', O, b, hk, hm, oc', od', osl', lk'⟩ := (ok base T).ex
    have e2 := lk.symm.trans lk'
    cases e2
    exact O
end
end R

namespace R
open PySem L2
mutual
def lessB (n : Nat) : Dv → Bool
  | .ref k => decide (k < n)
  | .tup ds => lessLB n ds
  | .cst ds => lessLB n ds
  | .wri ds => lessLB n ds
  | .dic _ ds => lessLB n ds
  | .dct _ ds => lessLB n ds
  | _ => true
def lessLB (n : Nat) : List Dv → Bool
  | [] => true
  | d :: ds => lessB n d && lessLB n ds
end
mutual
theorem less_of {n : Nat} : ∀ {d : Dv}, lessB n d = true → Less n d
  | .non, _ => by simp [Less]
  | .bl _, _ => by simp [Less]
  | .int _, _ => by simp [Less]
  | .str _, _ => by simp [Less]
  | .ref k, h => by simpa [Less, lessB] using h
  | .tup ds, h => by simp only [Less]; exact lessL_of (by simpa [lessB] using h)
  | .cst ds, h => by simp only [Less]; exact lessL_of (by simpa [lessB] using h)
  | .wri ds, h => by simp only [Less]; exact lessL_of (by simpa [lessB] using h)
  | .dic _ ds, h => by simp only [Less]; exact lessL_of (by simpa [lessB] using h)
  | .dct _ ds, h => by simp only [Less]; exact lessL_of (by simpa [lessB] using h)
theorem lessL_of {n : Nat} : ∀ {ds : List Dv}, lessLB n ds = true → LessL n ds
  | [], _ => by simp [LessL]
  | d :: ds, h => by
    simp only [lessLB, Bool.and_eq_true] at h
    simp only [LessL]
    exact ⟨less_of h.1, lessL_of h.2⟩
end
def lessKB {κ : Type} (n : Nat) : List (κ × Dv) → Bool
  | [] => true
  | d :: ds => lessB n d.2 && lessKB n ds
theorem lessK_of {κ : Type} {n : Nat} : ∀ {ds : List (κ × Dv)}, lessKB n ds = true → LessK n ds
  | [], _ => by simp [LessK]
  | d :: ds, h => by
    simp only [lessKB, Bool.and_eq_true] at h
    simp only [LessK]
    exact ⟨less_of h.1, lessK_of h.2⟩
def obLessB (n : Nat) : Ob → Bool
  | .lst ds => lessLB n ds
  | .fro ds => lessLB n ds
  | .dic kvs => lessKB n kvs
  | .dct kvs => lessKB n kvs
  | .ins _ fs => lessKB n fs
  | .gone => true
section
variable {G : Cfg} {K : PySem.W.Frag} {p p' : List Addr} {H H' : Hp} {st st' : Sto} {a : Addr}
/-- without places it stands over any store -/
theorem Rep.free {d : Dv} {v : V} (l : Less 0 d) (r : Rep K p H d v) (p' : List Addr) : Rep K p' H d v := by
  have h := Rep.cut (n := 0) l r
  rw [List.take_zero] at h
  exact Rep.growW ⟨fun n a e => by simp at e, fun _ _ h => h, fun _ _ _ h => h⟩ h
theorem RepL.free {d : List Dv} {v : List V} (l : LessL 0 d) (r : RepL K p H d v) (p' : List Addr) : RepL K p' H d v := by
  have h := RepL.cut' (n := 0) l r
  rw [List.take_zero] at h
  exact RepL.growW ⟨fun n a e => by simp at e, fun _ _ h => h, fun _ _ _ h => h⟩ h
theorem RepK.free {κ : Type} {d : List (κ × Dv)} {v : List (κ × V)} (l : LessK 0 d) (r : RepK K p H d v) (p' : List Addr) : RepK K p' H d v := by
  have h := RepK.cut (n := 0) l r
  rw [List.take_zero] at h
  exact RepK.growW ⟨fun n a e => by simp at e, fun _ _ h => h, fun _ _ _ h => h⟩ h
theorem ObR.free {o : Ob} (l : ObLess 0 o) (r : ObR G p H a o) (p' : List Addr) : ObR G p' H a o := by
  cases o with
  | lst ds => obtain ⟨xs, e, r⟩ := r; exact ⟨xs, e, r.free l p'⟩
  | fro ds => obtain ⟨o, xs, e, r⟩ := r; exact ⟨o, xs, e, r.free l p'⟩
  | dic kvs => obtain ⟨xs, e, r⟩ := r; exact ⟨xs, e, r.free l p'⟩
  | dct kvs => obtain ⟨xs, e, r⟩ := r; exact ⟨xs, e, r.free l p'⟩
  | ins c fs => obtain ⟨dx, xs, e, r⟩ := r; exact ⟨dx, xs, e, r.free l p'⟩
  | gone => trivial
theorem obLess_of {n : Nat} {o : Ob} (h : obLessB n o = true) : ObLess n o := by
  cases o with
  | lst ds => exact lessL_of h
  | fro ds => exact lessL_of h
  | dic kvs => exact lessK_of h
  | dct kvs => exact lessK_of h
  | ins c fs => exact lessK_of h
  | gone => trivial
/-- all but the tables stays: the store stays -/
theorem Sim.stay (S : Sim G p st H) (T : TabsOk G H') (e : ∀ b o, H b = some o → (∀ ps, o ≠ .tbl ps) → H' b = some o) : Sim G p st H' ∧ Grow p H p H' := by
  have g : Grow p H p H' := ⟨fun _ _ h => h, fun b xs h => e b _ h (fun ps z => by cases z), fun b x y h => e b _ h (fun ps z => by cases z), fun b f h => e b _ h (fun ps z => by cases z), fun _ h => .inl h, fun b o h t _ => e b o h t⟩
  have sm : ∀ b, b ∈ p → H' b = H b := fun b hb => by
    cases h : H b with
    | none => exact absurd h (S.nul b hb)
    | some o => exact e b o h fun ps z => S.ntab b ps hb (by rw [h, z])
  refine ⟨⟨S.len, S.inj, fun n a x h1 h2 => ?_, fun b hb => ?_, T, fun b ps hb => ?_, fun b xs hb => ?_⟩, g⟩
  · exact ObR.keep g (sm a (List.mem_of_getElem? h1)) (S.obj n a x h1 h2)
  · rw [sm b hb]; exact S.nul b hb
  · rw [sm b hb]; exact S.ntab b ps hb
  · rw [sm b hb]; exact S.ntup b xs hb
/-- g, its arguments by value -/
def frame0 (g : FC) : FC := fun ds st => if lessLB 0 ds = true then match g ds [] with
    | some (.ok r, _) => if lessB 0 r = true then some (.ok r, st) else none
    | some (.exc c, _) => some (.exc c, st)
    | none => none
  else g ds st
theorem sp_frame0 {n : Nat} {g : FC} {vs : List V} {Q : VK} {E : XK} (h : spOf G n (frame0 g) vs H Q E) : spOf G n g vs H Q E := by
  obtain ⟨hl, p, st, ds, S, r, r0, st0, e0, f0⟩ := h
  refine ⟨hl, ?_⟩
  unfold frame0 at e0
  split at e0
  · rename_i hc
    have hL := lessL_of hc
    have S0 : Sim G [] [] H := ⟨rfl, fun n m a h => by simp at h, fun n a o h => by simp at h, fun a h => by simp at h, S.tab, fun a ps h => by simp at h, fun a xs h => by simp at h⟩
    split at e0
    · rename_i d st1 e1
      split at e0
      · rename_i hd
        cases e0
        refine ⟨[], [], ds, S0, r.free hL [], _, _, e1, fun p' H' g' S' b hb => ?_⟩
        obtain ⟨S2, g2⟩ := S.stay S'.tab fun b o h t => g'.oth b o h t (by simp)
        exact f0 p H' g2 S2 b (Rep.free (less_of hd) hb p)
      · cases e0
    · rename_i c st1 e1
      cases e0
      refine ⟨[], [], ds, S0, r.free hL [], _, _, e1, fun p' H' g' S' => ?_⟩
      obtain ⟨S2, g2⟩ := S.stay S'.tab fun b o h t => g'.oth b o h t (by simp)
      exact f0 p H' g2 S2
    · cases e0
  · exact ⟨p, st, ds, S, r, r0, st0, e0, f0⟩
/-- g, its first argument a thing without places, the others by value -/
def frame1 (g : FC) : FC := fun ds st => match ds with
  | .ref n :: vs => if lessLB 0 vs = true then match st[n]? with
      | some o => if obLessB 0 o = true then match g (.ref 0 :: vs) [o] with
          | some (.ok r, o' :: _) => if obLessB 0 o' = true ∧ lessB 0 r = true then some (.ok r, st.set n o') else none
          | some (.exc c, o' :: _) => if obLessB 0 o' = true then some (.exc c, st.set n o') else none
          | _ => none
        else g ds st
      | none => g ds st
    else g ds st
  | _ => frame0 g ds st
theorem sim_one (S : Sim G p st H) {n : Nat} {o : Ob} (hp : p[n]? = some a) (ho : st[n]? = some o) (hl : ObLess 0 o) : Sim G [a] [o] H := by
  have m : a ∈ p := List.mem_of_getElem? hp
  refine ⟨rfl, fun k l b h1 h2 => ?_, fun k b o' h1 h2 => ?_, fun b hb => ?_, S.tab, fun b ps hb => ?_, fun b xs hb => ?_⟩
  · have e1 := (List.getElem?_eq_some_iff.mp h1).1
    have e2 := (List.getElem?_eq_some_iff.mp h2).1
    simp at e1 e2
    omega
  · have e1 := (List.getElem?_eq_some_iff.mp h1).1
    simp at e1
    subst e1
    simp at h1 h2
    subst h1 h2
    exact (S.obj n _ _ hp ho).free hl _
  · rw [List.mem_singleton.mp hb]; exact S.nul a m
  · rw [List.mem_singleton.mp hb]; exact S.ntab a ps m
  · rw [List.mem_singleton.mp hb]; exact S.ntup a xs m
theorem sim_back (S : Sim G p st H) {n : Nat} {o o' : Ob} {rest : Sto} (hp : p[n]? = some a) (ho : st[n]? = some o) (hl : ObLess 0 o') (g : Grow [a] H p' H') (S' : Sim G p' (o' :: rest) H') : Sim G p (st.set n o') H' ∧ Grow p H p H' := by
  have m : a ∈ p := List.mem_of_getElem? hp
  have hp' : p'[0]? = some a := g.pre 0 a rfl
  have m' : a ∈ p' := List.mem_of_getElem? hp'
  have sm : ∀ b, b ∈ p → b ≠ a → H' b = H b := fun b hb hne => by
    cases h : H b with
    | none => exact absurd h (S.nul b hb)
    | some o => exact g.oth b o h (fun ps z => S.ntab b ps hb (by rw [h, z])) (by simpa using hne)
  have gg : Grow p H p H' := ⟨fun _ _ h => h, g.tup, g.frz, g.ext, fun _ h => .inl h, fun b x h t n => g.oth b x h t (fun z => n (by rw [List.mem_singleton.mp z]; exact m))⟩
  refine ⟨⟨by simp [S.len], S.inj, fun k b x h1 h2 => ?_, fun b hb => ?_, S'.tab, fun b ps hb => ?_, fun b xs hb => ?_⟩, gg⟩
  · by_cases hk : k = n
    · subst hk
      rw [hp] at h1
      cases h1
      rw [List.getElem?_set_self (by rw [← S.len]; exact (List.getElem?_eq_some_iff.mp hp).1)] at h2
      cases h2
      exact (S'.obj 0 _ _ hp' rfl).free hl _
    · rw [List.getElem?_set_ne (Ne.symm hk)] at h2
      have hne : b ≠ a := fun z => hk (S.inj k n b h1 (by rw [z]; exact hp))
      exact ObR.keep gg (sm b (List.mem_of_getElem? h1) hne) (S.obj k b x h1 h2)
  · by_cases hne : b = a
    · rw [hne]; exact S'.nul a m'
    · rw [sm b hb hne]; exact S.nul b hb
  · by_cases hne : b = a
    · rw [hne]; exact S'.ntab a ps m'
    · rw [sm b hb hne]; exact S.ntab b ps hb
  · by_cases hne : b = a
    · rw [hne]; exact S'.ntup a xs m'
    · rw [sm b hb hne]; exact S.ntup b xs hb
theorem sp_frame1 {n : Nat} {g : FC} {vs : List V} {Q : VK} {E : XK} (h : spOf G n (frame1 g) vs H Q E) : spOf G n g vs H Q E := by
  have h' := h
  obtain ⟨hl, p, st, ds, S, r, r0, st0, e0, f0⟩ := h
  unfold frame1 at e0
  split at e0
  · rename_i k ws
    refine ⟨hl, ?_⟩
    split at e0
    · rename_i hc
      split at e0
      · rename_i o ho
        split at e0
        · rename_i hob
          obtain ⟨a, ha, rr⟩ := S.at ho
          have r' := r
          simp only [RepL] at r
          obtain ⟨x, xs, rfl, rx, rxs⟩ := r
          obtain ⟨a2, ha2, rfl⟩ : ∃ a, p[k]? = some a ∧ x = .ref a := by simpa [Rep] using rx
          rw [ha] at ha2
          cases ha2
          have S1 := sim_one S ha ho (obLess_of hob)
          have R1 : RepL G.K [a] H (.ref 0 :: ws) (.ref a :: xs) := RepL.cons (by simp [Rep]) (rxs.free (lessL_of hc) [a])
          split at e0
          · rename_i d o' rest e1
            split at e0
            · rename_i hd
              cases e0
              refine ⟨[a], [o], _, S1, R1, _, _, e1, fun p' H' g' S' b hb => ?_⟩
              obtain ⟨S2, g2⟩ := sim_back S ha ho (obLess_of hd.1) g' S'
              exact f0 p H' g2 S2 b (Rep.free (less_of hd.2) hb p)
            · cases e0
          · rename_i c o' rest e1
            split at e0
            · rename_i hd
              cases e0
              refine ⟨[a], [o], _, S1, R1, _, _, e1, fun p' H' g' S' => ?_⟩
              obtain ⟨S2, g2⟩ := sim_back S ha ho (obLess_of hd) g' S'
              exact f0 p H' g2 S2
            · cases e0
          · cases e0
        · exact ⟨p, st, _, S, r, r0, st0, e0, f0⟩
      · exact ⟨p, st, _, S, r, r0, st0, e0, f0⟩
    · exact ⟨p, st, _, S, r, r0, st0, e0, f0⟩
  · exact sp_frame0 ⟨hl, p, st, _, S, r, r0, st0, e0, f0⟩
end
section
variable {P : Program} {w : World} {K : PySem.W.Frag} {mg : Str → Option Value} {base : Heap} {CX : CXT} {k : Nat} {f : Addr} {fd : FuncData} {ps : List Str} {sp sp' : Sp}
theorem fnOk_mono (h : FnOk P w K mg base CX k f fd ps sp) (e : ∀ vs H Q E, sp' vs H Q E → sp vs H Q E) : FnOk P w K mg base CX k f fd ps sp' :=
  ⟨fun vs H Q E q => h.1 vs H Q E (e _ _ _ _ q), fun A outer s H args us vs Q E hr e0 hb r q => h.2 A outer s H args us vs Q E hr e0 hb r (e _ _ _ _ q)⟩
theorem ok_frame {G : Cfg} {n : Nat} {g : FC} (h : FnOk P w K mg base CX k f fd ps (spOf G n g)) : FnOk P w K mg base CX k f fd ps (spOf G n (frame1 g)) := fnOk_mono h fun _ _ _ _ => sp_frame1
end
end R

namespace R
open PySem L2
section
variable {fa : List He.Fa} {fn : List He.DefD} {ts : List He.Tab} {tfn : List (He.Defn × Str)} {ex : PySem.W.Frag → Bool} {w : World} {K : PySem.W.Frag} {mg : Str → Option Value} {base : Heap}
theorem Tx.int (T : Tx fa fn ts tfn ex w K mg base) (i : Nat) {x : Str} {n : Int} (e : fa[i]? = some (.int x n)) : ∃ t, mg x = some (.int n t) := by
  obtain ⟨h, KX, G, c⟩ := T.h
  exact He.int_ok KX G (c.t.d.fact i e)
theorem Tx.str (T : Tx fa fn ts tfn ex w K mg base) (i : Nat) {x z : Str} (e : fa[i]? = some (.str x z)) : ∃ t, mg x = some (.str z t) := by
  obtain ⟨h, KX, G, c⟩ := T.h
  exact He.str_ok KX G (c.t.d.fact i e)
end
section
variable {G : Cfg} {E : XK} {X : Cx} {o a : Expr} {fo fa : SE} {pos apos : Pos}
theorem r_gI {x : Str} {n : Int} (h : ∃ t, X.mg x = some (.int n t)) (hg : Gl X x) (hd : (x == ("__debug__" : Str)) = false := by decide) : PE X (.Name x pos) (tE G E (eC (.int n))) := by
  obtain ⟨t, hm⟩ := h
  exact r_glob hg hm (v := .int n) ⟨_, rfl⟩ (fun p H => by simp [Rep]) hd
def appD (n : Nat) (d : Dv) : Sto → Mo Dv := fun st => match st[n]? with
  | some (.lst ds) => if ds.length < sizeLine then rOk .non (st.set n (.lst (ds ++ [d]))) else none
  | _ => none
def eApp (fo fa : SE) : SE := fun ls st => (fo ls st).bind fun x st1 => match x with
  | .ref n => match st1[n]? with
    | some (.lst _) => (fa ls st1).bind fun d st2 => appD n d st2
    | _ => none
  | _ => none
def sExp (fe : SE) : SS := fun ls st => (fe ls st).bind fun _ st1 => rOk (.nx, ls) st1
theorem r_exp {fe : SE} (he : PE X a (tE G E fe)) (hs : swapsWith a none pos.line X.env = pure false := by rfl) : PS X (.Expr a pos) (tS G E (sExp fe)) :=
  PS.fit (ps_expr he hs) fun D σ H ⟨p, ls, st, S, L, q⟩ => tM_bind S L q fun p1 st1 x v H1 S1 g1 L1 r1 q1 => q1.now (b := (FlV.nx, σ)) S1 (Grow.refl _ _) ⟨trivial, L1⟩
theorem r_app (ho : PE X o (tE G E fo)) (ha : PE X a (tE G E fa)) (hK : G.K = X.K := by rfl)
    (hbase : attributeBase o "append" X.env (eval o X.env) = eval o X.env := by rfl)
    (hfew : ((backTo pos (starEach [a] X.env)).all (fun x => !x.1) && (backToKw pos (keywordEach [] X.env)).all (fun x => x.1.isSome)
      && decide ([a].length + ([] : List Keyword).length + (if ([] : List Keyword).isEmpty then 0 else 1) < 30)) = true := by rfl)
    (hline : (apos.endLine == pos.line) = true := by rfl) (hs : starEach [a] X.env = (false, eval a X.env) :: starEach [] X.env := by rfl) (hp : (backTo pos (starEach [] X.env)).any (·.1) = false := by rfl) :
    PE X (.Call (.Attribute o "append" apos) [a] [] pos) (tE G E (eApp fo fa)) :=
  (pe_bm PySem.F.plainAttrs_list PySem.F.slot_list_append PySem.F.type_list_append mt_append ho (pa_cons (hs := hs) ha pa_nil) hbase hfew hline hs hp).fit fun σ H Q ⟨p, ls, st, S, L, q⟩ => by
    refine tM_bind S L q fun p1 st1 x v H1 S1 g1 L1 r1 q1 => ?_
    split at q1
    · rename_i n
      split at q1
      · rename_i ds e
        obtain ⟨b, xs, rfl, hp1, hH, la⟩ := S1.lstM e r1
        refine ⟨.inl ⟨rfl, _, SqL.of hH⟩, tM_bind S1 L1 q1 fun p2 st2 d y H2 S2 g2 L2' r2 q2 => ?_⟩
        unfold appD at q2
        split at q2
        · rename_i ds2 e2
          obtain ⟨hz, q2⟩ := q2.ifT
          obtain ⟨b2, ys, eb, hp2, hH2, lb⟩ := S2.lstM e2 (r1.grow g2)
          cases eb
          have gs : Grow p2 H2 p2 (upd H2 b (.lst (ys ++ [y]))) := Grow.soft hH2 trivial (List.mem_of_getElem? hp2)
          refine ⟨b, ys, y, rfl, rfl, hH2, by rw [RepL.length lb]; exact hz, q2.now (S2.set (x := .lst (ds2 ++ [d])) hp2 hH2 trivial (o := .lst (ys ++ [y])) True.intro ⟨_, upd_same, RepL.append (RepL.grow gs lb) (RepL.cons (r2.grow gs) RepL.nil)⟩) gs (by simp [rD, Rep])⟩
        · exact q2.no
      · exact q1.no
    · exact q1.no
/-- a name's list, dict that will not be written any more: by value -/
def eFz (i : Nat) : SE := fun ls st => match ls[i]? with
  | some (some (.ref n)) => match st[n]? with
    | some (.lst ds) => rOk (.cst ds) (st.set n .gone)
    | some (.dic kvs) => rOk (.dic (kvs.map (·.1)) (kvs.map (·.2))) (st.set n .gone)
    | some (.dct kvs) => rOk (.dct (kvs.map (·.1)) (kvs.map (·.2))) (st.set n .gone)
    | some (.ins c fs) => rOk (.ref n) st
    | _ => none
  | some (some d) => rOk d st
  | _ => none
theorem repK_split {κ : Type} {K : PySem.W.Frag} {p : List Addr} {H : Hp} : ∀ {kvs : List (κ × Dv)} {xs : List (κ × V)}, RepK K p H kvs xs → RepL K p H (kvs.map (·.2)) (xs.map (·.2)) ∧ xs = (kvs.map (·.1)).zip (xs.map (·.2))
  | [], xs, h => by simp only [RepK] at h; subst h; exact ⟨RepL.nil, rfl⟩
  | d :: ds, xs, h => by
    simp only [RepK] at h
    obtain ⟨x, r, rfl, h1, h2⟩ := h
    obtain ⟨a, b⟩ := repK_split h2
    refine ⟨RepL.cons h1 a, ?_⟩
    simp only [List.map_cons, List.zip_cons_cons]
    rw [← b]
theorem Sim.freeze {G : Cfg} {p : List Addr} {st : Sto} {H : Hp} {n : Nat} {b : Addr} {u : HO} {od : Obj} (S : Sim G p st H) (hp : p[n]? = some b) (hH : H b = some u) (su : Soft u) : Sim G p (st.set n .gone) (upd H b (.frz od u)) ∧ GrowW p H p (upd H b (.frz od u)) ∧ Grow p H p (upd H b (.frz od u)) := by
  have m : b ∈ p := List.mem_of_getElem? hp
  have gw : GrowW p H p (upd H b (.frz od u)) := GrowW.soft hH su
  refine ⟨⟨by simp [S.len], S.inj, fun k c x h1 h2 => ?_, fun c hc => ?_, S.tab.soft hH su, fun c ps hc => ?_, fun c xs hc => ?_⟩, gw, Grow.soft hH su m⟩
  · by_cases hk : k = n
    · subst hk
      rw [List.getElem?_set_self (by rw [← S.len]; exact (List.getElem?_eq_some_iff.mp hp).1)] at h2
      cases h2
      trivial
    · rw [List.getElem?_set_ne (Ne.symm hk)] at h2
      have hne : c ≠ b := fun z => hk (S.inj k n c h1 (by rw [z]; exact hp))
      exact ObR.keepW gw (upd_ne hne) (S.obj k c x h1 h2)
  · by_cases hne : c = b
    · rw [hne, upd_same]; exact fun z => nomatch z
    · rw [upd_ne hne]; exact S.nul c hc
  · by_cases hne : c = b
    · rw [hne, upd_same]; exact fun z => nomatch z
    · rw [upd_ne hne]; exact S.ntab c ps hc
  · by_cases hne : c = b
    · rw [hne, upd_same]; exact fun z => nomatch z
    · rw [upd_ne hne]; exact S.ntup c xs hc
theorem r_fz {i : Nat} {x : Str} (h : PE X (.Name x pos) (tVar i)) : PE X (.Name x pos) (tE G E (eFz i)) := by
  refine (pe_frz h).fit fun σ H Q ⟨p, ls, st, S, L, q⟩ => ?_
  show tVar i σ H (orFrz Q)
  unfold eFz at q
  split at q
  · rename_i n e
    obtain ⟨v, h1, h2⟩ := L.2 i _ e
    refine ⟨v, h1, ?_⟩
    obtain ⟨a, ha, rfl⟩ : ∃ a, p[n]? = some a ∧ v = .ref a := by simpa [Rep] using h2
    split at q
    · rename_i ds e2
      obtain ⟨b, hb, o⟩ := S.at e2
      rw [ha] at hb
      cases hb
      obtain ⟨xs, hH, la⟩ := o
      refine .inr ⟨a, _, hH, trivial, fun od => ?_⟩
      obtain ⟨S2, gw, g2⟩ := S.freeze (od := od) ha hH trivial
      exact q.now S2 g2 (by simp only [rD, Rep]; exact ⟨a, xs, rfl, ⟨od, upd_same⟩, RepL.growW gw la⟩)
    · rename_i kvs e2
      obtain ⟨b, hb, o⟩ := S.at e2
      rw [ha] at hb
      cases hb
      obtain ⟨xs, hH, la⟩ := o
      refine .inr ⟨a, _, hH, trivial, fun od => ?_⟩
      obtain ⟨S2, gw, g2⟩ := S.freeze (od := od) ha hH trivial
      obtain ⟨l1, l2⟩ := repK_split la
      exact q.now S2 g2 (by simp only [rD, Rep]; exact ⟨a, xs.map (·.2), rfl, ⟨od, by rw [← l2]; exact upd_same⟩, by simp, RepL.growW gw l1⟩)
    · rename_i kvs e2
      obtain ⟨b, hb, o⟩ := S.at e2
      rw [ha] at hb
      cases hb
      obtain ⟨xs, hH, la⟩ := o
      refine .inr ⟨a, _, hH, trivial, fun od => ?_⟩
      obtain ⟨S2, gw, g2⟩ := S.freeze (od := od) ha hH trivial
      obtain ⟨l1, l2⟩ := repK_split la
      exact q.now S2 g2 (by simp only [rD, Rep]; exact ⟨a, xs.map (·.2), rfl, ⟨od, by rw [← l2]; exact upd_same⟩, by simp, RepL.growW gw l1⟩)
    · exact .inl (q.now S (Grow.refl _ _) h2)
    · exact q.no
  · rename_i d _ e
    obtain ⟨v, h1, h2⟩ := L.2 i _ e
    exact ⟨v, h1, .inl (q.now S (Grow.refl _ _) h2)⟩
  · exact q.no
end
end R

namespace R
open PySem L2
/-- it comes through with what P tells -/
def Go {α : Type} (m : Mo α) (P : α → Sto → Prop) : Prop := ∃ a st, m = some (.ok a, st) ∧ P a st
theorem Go.ok {α : Type} {a : α} {st : Sto} {P : α → Sto → Prop} (h : P a st) : Go (rOk a st) P := ⟨a, st, rfl, h⟩
theorem Go.mono {α : Type} {m : Mo α} {P P' : α → Sto → Prop} (h : Go m P) (k : ∀ a st, P a st → P' a st) : Go m P' := let ⟨a, st, e, q⟩ := h; ⟨a, st, e, k a st q⟩
theorem Go.bind {α β : Type} {m : Mo α} {k : α → Sto → Mo β} {P : β → Sto → Prop} (h : Go m fun a st => Go (k a st) P) : Go (m.bind k) P := by
  obtain ⟨a, st, rfl, q⟩ := h
  exact q
section
variable {P : Dv → Sto → Prop} {PL : List Dv → Sto → Prop} {PB : Bool → Sto → Prop} {PS' : Fl × Ls → Sto → Prop} {PG' : Ls → Sto → Prop} {ls : Ls} {st : Sto} {fa fb fc : SE} {fs : SA} {t u : SB} {g g1 g2 : SS}
theorem go_var {i : Nat} {d : Dv} (e : ls[i]? = some (some d)) (h : P d st) : Go (eVar i ls st) P := by
  unfold eVar; rw [e]; exact Go.ok h
theorem go_c {d : Dv} (h : P d st) : Go (eC d ls st) P := Go.ok h
theorem go_op {f : F2} (h : Go (fa ls st) fun x st1 => Go (fb ls st1) fun y st2 => Go (f x y st2) P) : Go (eOp f fa fb ls st) P := Go.bind (h.mono fun _ _ q => Go.bind q)
theorem go_nil (h : PL [] st) : Go (aNil ls st) PL := Go.ok h
theorem go_cons (h : Go (fa ls st) fun x st1 => Go (fs ls st1) fun xs st2 => PL (x :: xs) st2) : Go (aCons fa fs ls st) PL := Go.bind (h.mono fun _ _ q => Go.bind (q.mono fun _ _ w => Go.ok w))
theorem go_call {m : FC} (h : Go (fs ls st) fun ds st1 => Go (m ds st1) P) : Go (eCall m fs ls st) P := Go.bind h
theorem go_tup (h : Go (fs ls st) fun xs st1 => xs.length ≤ sizeLine ∧ P (.tup xs) st1) : Go (eTup fs ls st) P := Go.bind (h.mono fun xs st1 ⟨z, q⟩ => by rw [if_pos z]; exact Go.ok q)
theorem go_lst (h : Go (fs ls st) fun xs st1 => xs.length ≤ sizeLine ∧ P (.ref st1.length) (st1 ++ [.lst xs])) : Go (eLst fs ls st) P := Go.bind (h.mono fun xs st1 ⟨z, q⟩ => by rw [if_pos z]; exact ⟨_, _, rfl, q⟩)
theorem go_if (h : Go (t ls st) fun b st1 => Go (if b = true then fa ls st1 else fb ls st1) P) : Go (eIf t fa fb ls st) P := Go.bind h
theorem go_bB (h : Go (fa ls st) fun d st1 => ∃ b, d = .bl b ∧ PB b st1) : Go (bB fa ls st) PB := Go.bind (h.mono fun d st1 ⟨b, e, q⟩ => by subst e; exact Go.ok q)
theorem go_or (h : Go (t ls st) fun b st1 => Go (if b = true then rOk true st1 else u ls st1) PB) : Go (bOr t u ls st) PB := Go.bind h
theorem go_and (h : Go (t ls st) fun b st1 => Go (if b = true then u ls st1 else rOk false st1) PB) : Go (bAnd t u ls st) PB := Go.bind h
theorem go_not (h : Go (t ls st) fun b st1 => PB (!b) st1) : Go (bNot t ls st) PB := Go.bind (h.mono fun _ _ q => Go.ok q)
theorem go_neg (h : Go (fa ls st) fun d st1 => ∃ i, d = .int i ∧ P (.int (-i)) st1) : Go (eNeg fa ls st) P := Go.bind (h.mono fun d st1 ⟨i, e, q⟩ => by subst e; exact Go.ok q)
-- statements
theorem go_seq (h : Go (g1 ls st) fun r st1 => match r.1 with | .nx => Go (g2 r.2 st1) PS' | _ => PS' r st1) : Go (sSeq g1 g2 ls st) PS' := Go.bind (h.mono fun r st1 q => by
  obtain ⟨r1, r2⟩ := r
  cases r1 <;> first | exact q | exact Go.ok q)
theorem go_snil (h : PS' (.nx, ls) st) : Go (sNil ls st) PS' := Go.ok h
theorem go_ret (h : Go (fa ls st) fun d st1 => PS' (.rt d, ls) st1) : Go (sRet fa ls st) PS' := Go.bind (h.mono fun _ _ q => Go.ok q)
theorem go_sif (h : Go (t ls st) fun b st1 => Go (if b = true then g1 ls st1 else g2 ls st1) PS') : Go (sIf t g1 g2 ls st) PS' := Go.bind h
theorem go_asg {tg : SG} (h : Go (fa ls st) fun d st1 => Go (tg d ls st1) fun ls' st2 => PS' (.nx, ls') st2) : Go (sAsg fa tg ls st) PS' := Go.bind (h.mono fun _ _ q => Go.bind (q.mono fun _ _ w => Go.ok w))
theorem go_gn {i : Nat} {d : Dv} (hi : i < ls.length) (h : PG' (ls.set i (some d)) st) : Go (gN i d ls st) PG' := by unfold gN; rw [if_pos hi]; exact Go.ok h
theorem go_par {i j : Nat} (h : Go (fs ls st) fun ds st1 => ∃ d e, ds = [d, e] ∧ i < ls.length ∧ j < ls.length ∧ PS' (.nx, (ls.set i (some d)).set j (some e)) st1) : Go (sPar i j fs ls st) PS' := Go.bind (h.mono fun ds st1 ⟨d, e, q, hi, hj, w⟩ => by
  subst q
  show Go (if _ then _ else _) _
  rw [if_pos ⟨hi, hj⟩]
  exact Go.ok w)
theorem go_par3 {i j l : Nat} (h : Go (fs ls st) fun ds st1 => ∃ d e f, ds = [d, e, f] ∧ i < ls.length ∧ j < ls.length ∧ l < ls.length ∧ PS' (.nx, ((ls.set i (some d)).set j (some e)).set l (some f)) st1) : Go (sPar3 i j l fs ls st) PS' := Go.bind (h.mono fun ds st1 ⟨d, e, f, q, hi, hj, hl, w⟩ => by
  subst q
  show Go (if _ then _ else _) _
  rw [if_pos ⟨hi, hj, hl⟩]
  exact Go.ok w)
-- operators
theorem go_add {i j : Int} (h : P (.int (i + j)) st) : Go (opAdd (.int i) (.int j) st) P := Go.ok h
theorem go_I {C : Int → Int → Prop} [∀ i j, Decidable (C i j)] {f : Int → Int → Dv} {i j : Int} (c : C i j) (h : P (f i j) st) : Go (opI C f (.int i) (.int j) st) P := by
  have e : opI C f (.int i) (.int j) st = rOk (f i j) st := if_pos c
  rw [e]; exact Go.ok h
theorem go_sub {i j : Int} (h : P (.int (i - j)) st) : Go (opSub (.int i) (.int j) st) P := go_I trivial h
theorem go_mul {i j : Int} (c : CMulX i j) (h : P (.int (i * j)) st) : Go (opMul (.int i) (.int j) st) P := by
  have e : opMul (.int i) (.int j) st = rOk (.int (i * j)) st := if_pos c
  rw [e]; exact Go.ok h
theorem go_div {i j : Int} (c : CDivW i j) (h : P (.int (i / j)) st) : Go (opDiv (.int i) (.int j) st) P := go_I c h
theorem go_mod {i j : Int} (c : 0 < j) (h : P (.int (i % j)) st) : Go (opMod (.int i) (.int j) st) P := go_I (C := fun _ j => 0 < j) c h
theorem go_lt {i j : Int} (h : P (.bl (decide (i < j))) st) : Go (opLt (.int i) (.int j) st) P := go_I trivial h
theorem go_le {i j : Int} (h : P (.bl (decide (i ≤ j))) st) : Go (opLe (.int i) (.int j) st) P := go_I trivial h
theorem go_gt {i j : Int} (h : P (.bl (decide (j < i))) st) : Go (opGt (.int i) (.int j) st) P := go_I trivial h
theorem go_ge {i j : Int} (h : P (.bl (decide (j ≤ i))) st) : Go (opGe (.int i) (.int j) st) P := go_I trivial h
theorem eqP_int {i j : Int} {st : Sto} : eqP (.int i) (.int j) st = some (decide (i = j)) := by
  have e : PyData.eqv (.int i) (.int j) = decide (i = j) := by simp only [PyData.eqv]; rw [Bool.eq_iff_iff]; simp
  simp [eqP, toP, deepN, SeqAt.shaped, e, PyData.canLay0, PyData.depth]
theorem go_eqI {i j : Int} (h : P (.bl (decide (i = j))) st) : Go (opEq (.int i) (.int j) st) P := by unfold opEq; rw [eqP_int]; exact Go.ok h
theorem go_neI {i j : Int} (h : P (.bl (!decide (i = j))) st) : Go (opNe (.int i) (.int j) st) P := by unfold opNe; rw [eqP_int]; exact Go.ok h
theorem eqP_pair {i j k l : Int} {st : Sto} : eqP (.tup [.int i, .int j]) (.tup [.int k, .int l]) st = some (decide (i = k) && decide (j = l)) := by
  have e : PyData.eqv (.tuple [.int i, .int j]) (.tuple [.int k, .int l]) = (decide (i = k) && decide (j = l)) := by simp only [PyData.eqv, PyData.eqvAll]; rw [Bool.eq_iff_iff]; simp
  simp [eqP, toP, deepN, mapO, SeqAt.shaped, e, PyData.canLay0, PyData.canLayAll0, PyData.depth, PyData.depthAll]
end
theorem fn_go {g : SS} {N : Nat} {ds : List Dv} {st st' : Sto} {d : Dv} (h : Go (g (ds.map some ++ List.replicate (N - ds.length) none) st) fun r s => r.1 = .rt d ∧ s = st') : fnOf g N ds st = some (.ok d, st') := by
  obtain ⟨⟨r1, r2⟩, s, e, e1, e2⟩ := h
  have e1 : r1 = .rt d := e1
  subst e1 e2
  unfold fnOf
  rw [e]
theorem fn_exc {g : SS} {N c : Nat} {ds : List Dv} {st st' : Sto} (h : g (ds.map some ++ List.replicate (N - ds.length) none) st = some (.exc c, st')) : fnOf g N ds st = some (.exc c, st') := by
  unfold fnOf
  rw [h]
theorem go_abs {i : Int} {P : Dv → Sto → Prop} {st : Sto} (h : P (.int (if i < 0 then -i else i)) st) : Go (fcAbs [.int i] st) P := Go.ok h
theorem go_iff {α : Type} {m1 m2 : Mo α} {P : α → Sto → Prop} {b : Bool} (h1 : b = true → Go m1 P) (h2 : b = false → Go m2 P) : Go (if b = true then m1 else m2) P := by
  cases b
  · exact h2 rfl
  · exact h1 rfl
abbrev wT : SB := bB (eOp opNe (eVar 3) (eC (.int 0)))
abbrev wG : SS := sPar 2 3 (aCons (eVar 3) (aCons (eOp opMod (eVar 2) (eVar 3)) aNil))
theorem euclid {x y z : Option Dv} {st : Sto} {P : Fl × Ls → Sto → Prop} : ∀ (n : Nat) (a b : Nat), b < n → P (.nx, [x, y, some (.int (Nat.gcd a b)), some (.int 0), z]) st → Go (sWhile wT wG n [x, y, some (.int a), some (.int b), z] st) P
  | 0, _, _, h, _ => absurd h (Nat.not_lt_zero _)
  | n + 1, a, b, h, q => by
    unfold sWhile
    refine Go.bind (go_bB (go_op (go_var (i := 3) rfl (go_c (go_neI ⟨_, rfl, ?_⟩)))))
    by_cases hb : b = 0
    · subst hb
      have e : (!decide ((((0 : Nat) : Int)) = 0)) = false := by simp
      rw [e]
      refine Go.ok ?_
      simpa using q
    · have e : (!decide (((b : Nat) : Int) = 0)) = true := by simp [hb]
      rw [e]
      refine Go.bind (go_par (go_cons (go_var (i := 3) rfl (go_cons (go_op (go_var (i := 2) rfl (go_var (i := 3) rfl (go_mod (by omega) (go_nil ⟨_, _, rfl, by show 2 < 5; decide, by show 3 < 5; decide, ?_⟩)))))))))
      show Go (sWhile wT wG n [x, y, some (.int b), some (.int ((a : Int) % (b : Int))), z] st) P
      rw [← Int.natCast_emod]
      refine euclid n b (a % b) ?_ ?_
      · have := Nat.mod_lt a (Nat.pos_of_ne_zero hb)
        omega
      · rw [show Nat.gcd b (a % b) = Nat.gcd a b from by rw [Nat.gcd_comm a b, Nat.gcd_rec b a, Nat.gcd_comm]]
        exact q
def sgn (b : Int) : Int := if 0 < b then 1 else -1
def ratQ (t b : Int) : Int × Int := (sgn b * t / (Int.gcd t b : Int), sgn b * b / (Int.gcd t b : Int))
def ratC (t b : Int) : Prop := CMulX (sgn b) t ∧ CMulX (sgn b) b ∧ (Int.gcd t b).log2 < 9000
instance (t b : Int) : Decidable (ratC t b) := by unfold ratC; infer_instance
abbrev bRatio (neg1 : SE) (n : Nat) : SS := (sSeq (sPar 2 3 (aCons (eCall fcAbs (aCons (eVar 0) aNil)) (aCons (eCall fcAbs (aCons (eVar 1) aNil)) aNil)))
  (sSeq (sWhile wT wG n)
  (sSeq (sAsg (eIf (bB (eOp opGt (eVar 1) (eC (.int 0)))) (eC (.int 1)) neg1) (gN 4))
  (sRet (eTup (aCons (eOp opDiv (eOp opMul (eVar 4) (eVar 0)) (eVar 2)) (aCons (eOp opDiv (eOp opMul (eVar 4) (eVar 1)) (eVar 2)) aNil)))))))
theorem abs_cast (i : Int) : (if i < 0 then -i else i) = (i.natAbs : Int) := by split <;> omega
theorem go_ratio {neg1 : SE} (hn : ∀ ls st (P : Dv → Sto → Prop), P (.int (-1)) st → Go (neg1 ls st) P) {t b : Int} {st : Sto} (hb : b ≠ 0) (hc : ratC t b) :
    Go (bRatio neg1 (b.natAbs + 1) [some (.int t), some (.int b), none, none, none] st) fun r s => r.1 = .rt (ofP (ratQ t b)) ∧ s = st := by
  obtain ⟨c1, c2, c3⟩ := hc
  have gp : 0 < Int.gcd t b := Int.gcd_pos_of_ne_zero_right t hb
  have cd : ∀ i : Int, CDivW i ((Int.gcd t b : Nat) : Int) := fun i => ⟨by omega, by simpa using c3⟩
  refine go_seq (go_par (go_cons (go_call (go_cons (go_var (i := 0) rfl (go_nil (go_abs ?_)))))))
  refine go_cons (go_call (go_cons (go_var (i := 1) rfl (go_nil (go_abs ?_)))))
  refine go_nil ⟨_, _, rfl, by show 2 < 5; decide, by show 3 < 5; decide, ?_⟩
  rw [abs_cast, abs_cast]
  refine go_seq (euclid _ t.natAbs b.natAbs (Nat.lt_succ_self _) ?_)
  refine go_seq (go_asg (go_if (go_bB (go_op (go_var (i := 1) rfl (go_c (go_gt ⟨_, rfl, ?_⟩)))))))
  have fin : ∀ s : Int, s = sgn b → Go (gN 4 (.int s) [some (.int t), some (.int b), some (.int ((Nat.gcd t.natAbs b.natAbs : Nat) : Int)), some (.int 0), none] st) (fun ls' st2 => match ((Fl.nx, ls') : Fl × Ls).1 with
      | .nx => Go (sRet (eTup (aCons (eOp opDiv (eOp opMul (eVar 4) (eVar 0)) (eVar 2)) (aCons (eOp opDiv (eOp opMul (eVar 4) (eVar 1)) (eVar 2)) aNil))) ls' st2) fun r s => r.1 = .rt (ofP (ratQ t b)) ∧ s = st
      | _ => ((Fl.nx, ls') : Fl × Ls).1 = .rt (ofP (ratQ t b)) ∧ st2 = st) := fun s hs => by
    subst hs
    refine go_gn (by show 4 < 5; decide) ?_
    refine go_ret (go_tup (go_cons (go_op (go_op (go_var (i := 4) rfl (go_var (i := 0) rfl (go_mul c1 (go_var (i := 2) rfl (go_div (cd _) ?_)))))))))
    refine go_cons (go_op (go_op (go_var (i := 4) rfl (go_var (i := 1) rfl (go_mul c2 (go_var (i := 2) rfl (go_div (cd _) ?_)))))))
    exact go_nil ⟨by show 2 ≤ sizeLine; decide, rfl, rfl⟩
  refine go_iff (fun h => ?_) (fun h => ?_)
  · have hp : 0 < b := of_decide_eq_true h
    exact go_c (fin 1 (by unfold sgn; rw [if_pos hp]))
  · have hp : ¬ 0 < b := of_decide_eq_false h
    exact hn _ _ _ (fin (-1) (by unfold sgn; rw [if_neg hp]))
/-- the mirror: c the error raised when b = 0 -/
def mRatio (c : Nat) : FC := fun ds st => match ds with
  | [.int t, .int b] => if b = 0 then some (.exc c, st) else if ratC t b then some (.ok (ofP (ratQ t b)), st) else none
  | _ => none
def mRatio0 : FC := fun ds st => match ds with
  | [.int t, .int b] => if b ≠ 0 ∧ ratC t b then some (.ok (ofP (ratQ t b)), st) else none
  | _ => none
theorem mir_ratioA {c : Nat} {g : Nat → SS} (hg : ∀ n, g n = sSeq (sIf (bB (eOp opEq (eVar 1) (eC (.int 0)))) (sRaise c) sNil) (bRatio (eOp opSub (eC (.int 0)) (eC (.int 1))) n)) : ∀ ds st r st', ds.length = 2 → mRatio c ds st = some (r, st') → ∃ n, fnOf (g n) 5 ds st = some (r, st') := fun ds st r st' _ e => by
  unfold mRatio at e
  split at e
  · rename_i t b _
    by_cases hb : b = 0
    · rw [if_pos hb] at e
      cases e
      subst hb
      refine ⟨0, ?_⟩
      rw [hg]
      have e1 : bB (eOp opEq (eVar 1) (eC (.int 0))) [some (.int t), some (.int 0), none, none, none] st = rOk true st := by
        simp [bB, eOp, eVar, eC, Mo.bind, rOk, opEq, eqP_int]
      refine fn_exc ?_
      show sSeq (sIf (bB (eOp opEq (eVar 1) (eC (.int 0)))) (sRaise c) sNil) _ [some (.int t), some (.int 0), none, none, none] _ = _
      unfold sSeq sIf
      rw [e1]
      rfl
    · rw [if_neg hb] at e
      split at e
      · rename_i hc
        cases e
        refine ⟨b.natAbs + 1, ?_⟩
        rw [hg]
        refine fn_go ?_
        refine go_seq (go_sif (go_bB (go_op (go_var (i := 1) rfl (go_c (go_eqI ⟨_, rfl, ?_⟩))))))
        rw [decide_eq_false hb]
        refine go_snil ?_
        exact go_ratio (fun ls st P h => go_op (go_c (go_c (go_sub h)))) hb hc
      · cases e
  · cases e
theorem mir_ratioB {g : Nat → SS} (hg : ∀ n, g n = bRatio (eNeg (eC (.int 1))) n) : ∀ ds st r st', ds.length = 2 → mRatio0 ds st = some (r, st') → ∃ n, fnOf (g n) 5 ds st = some (r, st') := fun ds st r st' _ e => by
  unfold mRatio0 at e
  split at e
  · rename_i t b _
    split at e
    · rename_i hc
      cases e
      refine ⟨b.natAbs + 1, ?_⟩
      rw [hg]
      exact fn_go (go_ratio (fun ls st P h => go_neg (go_c ⟨1, rfl, h⟩)) hc.1 hc.2)
    · cases e
  · cases e
end R

namespace R
open PySem L2
/-- a ratio as the program holds it -/
def enQ (r : Rat) : Dv := .tup [.int r.num, .int r.den]
def enP (p : Int × Int) : Dv := .tup [.int p.1, .int p.2]
/-- within n bits -/
def SmQ (n : Nat) (r : Rat) : Prop := r.num.natAbs < 2 ^ n ∧ r.den < 2 ^ n
def SmP (n : Nat) (p : Int × Int) : Prop := p.1.natAbs < 2 ^ n ∧ 0 < p.2 ∧ p.2.natAbs < 2 ^ n
def valP (p : Int × Int) : Rat := (p.1 : Rat) / (p.2 : Rat)
section
variable {ds : List Dv} {st st' : Sto} {g : FC} {x : Dv} {P : Dv → Sto → Prop}
/-- no place, but for the first -/
def isV : List Dv → Bool
  | .ref _ :: _ => false
  | ds => lessLB 0 ds
theorem frame_v (h : isV ds = true) : frame1 g ds st = frame0 g ds st ∧ lessLB 0 ds = true := by
  cases ds with
  | nil => exact ⟨rfl, rfl⟩
  | cons d ds => cases d <;> first | exact ⟨rfl, h⟩ | cases h
theorem go_fr (hl : isV ds = true) (h : Go (g ds []) fun d _ => d = x) (hx : lessB 0 x = true) (q : P x st) : Go (frame1 g ds st) P := by
  obtain ⟨d, s, e, rfl⟩ := h
  obtain ⟨e1, e2⟩ := frame_v (g := g) (st := st) hl
  refine ⟨d, st, ?_, q⟩
  rw [e1]
  unfold frame0
  rw [if_pos e2, e]
  exact if_pos hx
end
/-! ### bits -/
theorem pow_le2 {a b : Nat} (h : a ≤ b) : 2 ^ a ≤ 2 ^ b := Nat.pow_le_pow_right (by decide) h
theorem mulx_w {i j : Int} (a b : Nat) (ha : i.natAbs < 2 ^ a) (hb : j.natAbs < 2 ^ b) (h : a + b ≤ 134217728) : CMulX i j := mulx_ok ha hb h
theorem mul_bits {i j : Int} {n m : Nat} (hi : i.natAbs < 2 ^ n) (hj : j.natAbs < 2 ^ m) : (i * j).natAbs < 2 ^ (n + m) := by
  rw [Int.natAbs_mul, Nat.pow_add]
  exact Nat.mul_lt_mul'' hi hj
theorem add_bits {i j : Int} {n : Nat} (hi : i.natAbs < 2 ^ n) (hj : j.natAbs < 2 ^ n) : (i + j).natAbs < 2 ^ (n + 1) := by
  have := Int.natAbs_add_le i j
  rw [Nat.pow_succ]
  omega
theorem sub_bits {i j : Int} {n : Nat} (hi : i.natAbs < 2 ^ n) (hj : j.natAbs < 2 ^ n) : (i - j).natAbs < 2 ^ (n + 1) := by
  have := Int.natAbs_sub_le i j
  rw [Nat.pow_succ]
  omega
theorem sgn_abs {b : Int} (h : b ≠ 0) : (sgn b).natAbs = 1 := by unfold sgn; split <;> rfl
theorem sgn_mul {b : Int} (h : b ≠ 0) : sgn b * b = b.natAbs := by unfold sgn; split <;> omega
theorem ratC_of {t b : Int} {n : Nat} (ht : t.natAbs < 2 ^ n) (hb : b.natAbs < 2 ^ n) (h0 : b ≠ 0) (hn : n ≤ 8000) : ratC t b := by
  have s : (sgn b).natAbs < 2 ^ 1 := by rw [sgn_abs h0]; decide
  refine ⟨mulx_w 1 n s ht (by omega), mulx_w 1 n s hb (by omega), ?_⟩
  have hg : Int.gcd t b ≤ b.natAbs := Nat.le_of_dvd (by omega) (Nat.gcd_dvd_right _ _)
  have gp : 0 < Int.gcd t b := Int.gcd_pos_of_ne_zero_right t h0
  have h1 : Int.gcd t b < 2 ^ (n + 1) := by rw [Nat.pow_succ]; omega
  have := PySem.Flt.log2_lt_of (Nat.succ_pos n) h1
  omega
theorem gdvd {t b : Int} : (Int.gcd t b : Int) ∣ t := Int.gcd_dvd_left ..
theorem gdvd2 {t b : Int} : (Int.gcd t b : Int) ∣ b := Int.gcd_dvd_right ..
theorem rat_fst {t b : Int} : (ratQ t b).1 = sgn b * (t / (Int.gcd t b : Int)) := Int.mul_ediv_assoc _ gdvd
theorem rat_snd {t b : Int} : (ratQ t b).2 = sgn b * (b / (Int.gcd t b : Int)) := Int.mul_ediv_assoc _ gdvd2
theorem rat_two {t b : Int} (h0 : b ≠ 0) : (ratQ t b).2 = (b.natAbs / Int.gcd t b : Nat) := by
  show sgn b * b / (Int.gcd t b : Int) = _
  rw [sgn_mul h0, Int.natCast_ediv]
theorem rat_pos {t b : Int} (h0 : b ≠ 0) : 0 < (ratQ t b).2 := by
  rw [rat_two h0]
  have gp : 0 < Int.gcd t b := Int.gcd_pos_of_ne_zero_right t h0
  have : 0 < b.natAbs / Int.gcd t b := Nat.div_pos (Nat.le_of_dvd (by omega) (Nat.gcd_dvd_right _ _)) gp
  omega
theorem cast_ne {b : Int} (h : b ≠ 0) : (b : Rat) ≠ 0 := fun e => h (Rat.intCast_inj.mp (show (b : Rat) = ((0 : Int) : Rat) by simpa using e))
/-- the run's ratio is Lean's -/
theorem ratQ_eq {t b : Int} (h0 : b ≠ 0) : ratQ t b = (((t : Rat) / (b : Rat)).num, (((t : Rat) / (b : Rat)).den : Int)) := by
  have gp : 0 < Int.gcd t b := Int.gcd_pos_of_ne_zero_right t h0
  have cop : Int.gcd (ratQ t b).1 (ratQ t b).2 = 1 := by
    rw [rat_fst, rat_snd]
    show Nat.gcd (sgn b * (t / _)).natAbs (sgn b * (b / _)).natAbs = 1
    rw [Int.natAbs_mul, Int.natAbs_mul, sgn_abs h0, Nat.one_mul, Nat.one_mul]
    exact Int.gcd_ediv_gcd_ediv_gcd gp
  have hpos := rat_pos (t := t) h0
  have eq : (ratQ t b).1 * b = t * (ratQ t b).2 := by
    rw [rat_fst, rat_snd]
    generalize hg : (Int.gcd t b : Int) = g
    have h1 : t = g * (t / g) := by rw [← hg]; exact (Int.mul_ediv_cancel' gdvd).symm
    have h2 : b = g * (b / g) := by rw [← hg]; exact (Int.mul_ediv_cancel' gdvd2).symm
    generalize t / g = x at *
    generalize b / g = y at *
    generalize sgn b = s
    subst h1 h2
    simp only [Int.mul_comm, Int.mul_left_comm, Int.mul_assoc]
  generalize ratQ t b = uv at *
  obtain ⟨u, v⟩ := uv
  have hpos : 0 < v := hpos
  have cop : Int.gcd u v = 1 := cop
  have eq : u * b = t * v := eq
  obtain ⟨k, rfl⟩ : ∃ k : Nat, v = k := ⟨v.toNat, by omega⟩
  have cop' : u.natAbs.Coprime k := cop
  have e : (t : Rat) / (b : Rat) = Rat.mk' u k (by omega) cop' := by
    have h1 : ((Rat.mk' u k (by omega) cop' : Rat)) = (u : Rat) / ((k : Int) : Rat) := by
      rw [Rat.mk_eq_divInt, Rat.divInt_eq_div]
    rw [h1]
    have b0 := cast_ne h0
    have k0 : (((k : Nat) : Int) : Rat) ≠ 0 := cast_ne (by omega)
    have e2 : (u : Rat) * (b : Rat) = (t : Rat) * (((k : Nat) : Int) : Rat) := by rw [← Rat.intCast_mul, ← Rat.intCast_mul, eq]
    grind
  rw [e]
theorem enQ_rat {t b : Int} (h0 : b ≠ 0) : ofP (ratQ t b) = enQ ((t : Rat) / (b : Rat)) := by rw [ratQ_eq h0]; rfl
theorem smQ_div {t b : Int} {n : Nat} (ht : t.natAbs < 2 ^ n) (hb : b.natAbs < 2 ^ n) (h0 : b ≠ 0) : SmQ n ((t : Rat) / (b : Rat)) := by
  have e := ratQ_eq (t := t) h0
  have e1 : ((t : Rat) / (b : Rat)).num = (ratQ t b).1 := by rw [e]
  have e2 : ((((t : Rat) / (b : Rat)).den : Nat) : Int) = (ratQ t b).2 := by rw [e]
  refine ⟨?_, ?_⟩
  · rw [e1]
    have := Int.natAbs_ediv_le_natAbs (sgn b * t) (Int.gcd t b : Int)
    rw [Int.natAbs_mul, sgn_abs h0, Nat.one_mul] at this
    exact Nat.lt_of_le_of_lt this ht
  · have := Int.natAbs_ediv_le_natAbs (sgn b * b) (Int.gcd t b : Int)
    rw [Int.natAbs_mul, sgn_abs h0, Nat.one_mul] at this
    have h3 : (ratQ t b).2.natAbs < 2 ^ n := Nat.lt_of_le_of_lt this hb
    rw [← e2] at h3
    simpa using h3
theorem SmQ.p {n : Nat} {r : Rat} (h : SmQ n r) : SmP n (r.num, (r.den : Int)) := ⟨h.1, by have := r.den_pos; show (0 : Int) < r.den; omega, by simpa using h.2⟩
theorem SmQ.mono {n m : Nat} {r : Rat} (h : SmQ n r) (e : n ≤ m) : SmQ m r := ⟨Nat.lt_of_lt_of_le h.1 (pow_le2 e), Nat.lt_of_lt_of_le h.2 (pow_le2 e)⟩
theorem SmP.mono {n m : Nat} {p : Int × Int} (h : SmP n p) (e : n ≤ m) : SmP m p := ⟨Nat.lt_of_lt_of_le h.1 (pow_le2 e), h.2.1, Nat.lt_of_lt_of_le h.2.2 (pow_le2 e)⟩
theorem valP_q {r : Rat} : valP (r.num, (r.den : Int)) = r := by
  show ((r.num : Rat)) / (((r.den : Nat) : Int) : Rat) = r
  rw [Rat.intCast_natCast, ← Rat.mkRat_eq_div, Rat.mkRat_self]
theorem smQ_int {i : Int} {n : Nat} (h : i.natAbs < 2 ^ n) (hn : 0 < n := by decide) : SmQ n (i : Rat) := ⟨by simpa using h, by simp; omega⟩
section
variable {p q : Int × Int} {n m : Nat} (hp : SmP n p) (hq : SmP m q)
include hp hq
theorem prod_ne : p.2 * q.2 ≠ 0 := Int.mul_ne_zero (by have := hp.2.1; omega) (by have := hq.2.1; omega)
theorem den_sm : (p.2 * q.2).natAbs < 2 ^ (n + m + 1) := Nat.lt_of_lt_of_le (mul_bits hp.2.2 hq.2.2) (pow_le2 (by omega))
theorem cr1_sm : (p.1 * q.2).natAbs < 2 ^ (n + m) := mul_bits hp.1 hq.2.2
theorem cr2_sm : (q.1 * p.2).natAbs < 2 ^ (n + m) := by rw [Int.mul_comm]; exact mul_bits hp.2.2 hq.1
theorem val_plus : ((p.1 * q.2 + q.1 * p.2 : Int) : Rat) / ((p.2 * q.2 : Int) : Rat) = valP p + valP q := by
  have a := cast_ne (show p.2 ≠ 0 by have := hp.2.1; omega)
  have b := cast_ne (show q.2 ≠ 0 by have := hq.2.1; omega)
  unfold valP
  rw [Rat.intCast_add, Rat.intCast_mul, Rat.intCast_mul, Rat.intCast_mul]
  grind
theorem val_minus : ((p.1 * q.2 - q.1 * p.2 : Int) : Rat) / ((p.2 * q.2 : Int) : Rat) = valP p - valP q := by
  have a := cast_ne (show p.2 ≠ 0 by have := hp.2.1; omega)
  have b := cast_ne (show q.2 ≠ 0 by have := hq.2.1; omega)
  unfold valP
  rw [Rat.intCast_sub, Rat.intCast_mul, Rat.intCast_mul, Rat.intCast_mul]
  grind
theorem val_times : ((p.1 * q.1 : Int) : Rat) / ((p.2 * q.2 : Int) : Rat) = valP p * valP q := by
  have a := cast_ne (show p.2 ≠ 0 by have := hp.2.1; omega)
  have b := cast_ne (show q.2 ≠ 0 by have := hq.2.1; omega)
  unfold valP
  rw [Rat.intCast_mul, Rat.intCast_mul]
  grind
theorem val_over (h : q.1 ≠ 0) : ((p.1 * q.2 : Int) : Rat) / ((p.2 * q.1 : Int) : Rat) = valP p / valP q := by
  have a := cast_ne (show p.2 ≠ 0 by have := hp.2.1; omega)
  have b := cast_ne (show q.2 ≠ 0 by have := hq.2.1; omega)
  have c := cast_ne h
  unfold valP
  rw [Rat.intCast_mul, Rat.intCast_mul]
  grind
theorem plus_sm : SmQ (n + m + 1) (valP p + valP q) := by rw [← val_plus hp hq]; exact smQ_div (add_bits (cr1_sm hp hq) (cr2_sm hp hq)) (den_sm hp hq) (prod_ne hp hq)
theorem minus_sm : SmQ (n + m + 1) (valP p - valP q) := by rw [← val_minus hp hq]; exact smQ_div (sub_bits (cr1_sm hp hq) (cr2_sm hp hq)) (den_sm hp hq) (prod_ne hp hq)
theorem times_sm : SmQ (n + m) (valP p * valP q) := by rw [← val_times hp hq]; exact smQ_div (mul_bits hp.1 hq.1) (mul_bits hp.2.2 hq.2.2) (prod_ne hp hq)
theorem over_sm (h : q.1 ≠ 0) : SmQ (n + m) (valP p / valP q) := by rw [← val_over hp hq h]; exact smQ_div (mul_bits hp.1 hq.2.2) (mul_bits hp.2.2 hq.1) (Int.mul_ne_zero (by have := hp.2.1; omega) h)
theorem less_iff : (p.1 * q.2 < q.1 * p.2) ↔ valP p < valP q := by
  have h1 : (0 : Rat) < ((p.2 : Int) : Rat) := by have := Rat.intCast_lt_intCast.mpr hp.2.1; simpa using this
  have h2 : (0 : Rat) < ((q.2 : Int) : Rat) := by have := Rat.intCast_lt_intCast.mpr hq.2.1; simpa using this
  unfold valP
  rw [← Rat.intCast_lt_intCast, Rat.intCast_mul, Rat.intCast_mul, Rat.div_lt_iff h1]
  have e : (q.1 : Rat) / (q.2 : Rat) * (p.2 : Rat) = (q.1 : Rat) * (p.2 : Rat) / (q.2 : Rat) := by grind
  rw [e, Rat.lt_div_iff h2]
end
section
variable {p q : Rat} {n m : Nat} (hp : SmQ n p) (hq : SmQ m q)
include hp hq
theorem SmQ.add : SmQ (n + m + 1) (p + q) := by have := plus_sm hp.p hq.p; rwa [valP_q, valP_q] at this
theorem SmQ.sub : SmQ (n + m + 1) (p - q) := by have := minus_sm hp.p hq.p; rwa [valP_q, valP_q] at this
theorem SmQ.mul : SmQ (n + m) (p * q) := by have := times_sm hp.p hq.p; rwa [valP_q, valP_q] at this
theorem SmQ.div (h : q ≠ 0) : SmQ (n + m) (p / q) := by have := over_sm hp.p hq.p (by show q.num ≠ 0; simpa using h); rwa [valP_q, valP_q] at this
end
end R

namespace R
open PySem L2
section
variable {P : Dv → Sto → Prop} {PL : List Dv → Sto → Prop} {PB : Bool → Sto → Prop} {PS' : Fl × Ls → Sto → Prop} {PG' : Ls → Sto → Prop} {PW : Wk → Sto → Prop} {ls : Ls} {st : Sto} {fa fb fc : SE} {fs : SA} {t u : SB} {g g1 g2 : SS} {n : Nat} {ds : List Dv} {d : Dv}
theorem go_fn {g : SS} {N : Nat} {ds : List Dv} {st : Sto} {P : Dv → Sto → Prop} (h : Go (g (ds.map some ++ List.replicate (N - ds.length) none) st) fun r s => ∃ d, r.1 = .rt d ∧ P d s) : Go (fnOf g N ds st) P := by
  obtain ⟨⟨r1, r2⟩, s, e, d, e1, q⟩ := h
  have e1 : r1 = .rt d := e1
  subst e1
  refine ⟨d, s, ?_, q⟩
  unfold fnOf
  rw [e]
/-- a def that returns nothing -/
theorem go_fn0 {g : SS} {N : Nat} {ds : List Dv} {st : Sto} {P : Dv → Sto → Prop} (h : Go (g (ds.map some ++ List.replicate (N - ds.length) none) st) fun r s => r.1 = .nx ∧ P .non s) : Go (fnOf g N ds st) P := by
  obtain ⟨⟨r1, r2⟩, s, e, e1, q⟩ := h
  have e1 : r1 = .nx := e1
  subst e1
  refine ⟨.non, s, ?_, q⟩
  unfold fnOf
  rw [e]
theorem go_exp {fe : SE} (h : Go (fe ls st) fun _ st1 => PS' (.nx, ls) st1) : Go (sExp fe ls st) PS' := Go.bind (h.mono fun _ _ q => Go.ok q)
theorem go_q0 {r : Rat} (h : P (.int r.num) st) : Go (opIx (enQ r) (.int 0) st) P := Go.ok h
theorem go_q1 {r : Rat} (h : P (.int (r.den : Nat)) st) : Go (opIx (enQ r) (.int 1) st) P := Go.ok h
theorem go_p0 {p : Int × Int} (h : P (.int p.1) st) : Go (opIx (enP p) (.int 0) st) P := Go.ok h
theorem go_p1 {p : Int × Int} (h : P (.int p.2) st) : Go (opIx (enP p) (.int 1) st) P := Go.ok h
theorem go_int {i : Int} (q : P (.int i) st) : Go (fcInt [.int i] st) P := Go.ok q
theorem go_intB {b : Bool} (q : P (.int (if b then 1 else 0)) st) : Go (fcInt [.bl b] st) P := Go.ok q
theorem go_cst (h : Go (fs ls st) fun xs st1 => xs.length ≤ sizeLine ∧ P (.cst xs) st1) : Go (eCst fs ls st) P := Go.bind (h.mono fun xs st1 ⟨z, q⟩ => by rw [if_pos z]; exact Go.ok q)
/-! ### tests -/
theorem go_ifP {α : Type} {C : Prop} [Decidable C] {m1 m2 : Mo α} {P : α → Sto → Prop} (h1 : C → Go m1 P) (h2 : ¬ C → Go m2 P) : Go (if decide C = true then m1 else m2) P := by
  by_cases c : C
  · rw [decide_eq_true c, if_pos rfl]; exact h1 c
  · rw [decide_eq_false c, if_neg Bool.false_ne_true]; exact h2 c
theorem go_ifT {α : Type} {C : Prop} [Decidable C] {m1 m2 : Mo α} {P : α → Sto → Prop} (c : C) (h : Go m1 P) : Go (if decide C = true then m1 else m2) P := go_ifP (fun _ => h) fun n => absurd c n
theorem go_ifF {α : Type} {C : Prop} [Decidable C] {m1 m2 : Mo α} {P : α → Sto → Prop} (c : ¬ C) (h : Go m2 P) : Go (if decide C = true then m1 else m2) P := go_ifP (fun n => absurd n c) fun _ => h
theorem go_ifb {α : Type} {b : Bool} {m1 m2 : Mo α} {P : α → Sto → Prop} (h1 : b = true → Go m1 P) (h2 : b = false → Go m2 P) : Go (if b = true then m1 else m2) P := by
  cases b
  · exact h2 rfl
  · exact h1 rfl
theorem go_ifTb {α : Type} {b : Bool} {m1 m2 : Mo α} {P : α → Sto → Prop} (e : b = true) (h : Go m1 P) : Go (if b = true then m1 else m2) P := by subst e; exact h
theorem go_ifFb {α : Type} {b : Bool} {m1 m2 : Mo α} {P : α → Sto → Prop} (e : b = false) (h : Go m2 P) : Go (if b = true then m1 else m2) P := by subst e; exact h
/-- a guard that lets through -/
theorem go_guard (h : Go (t ls st) fun b s => b = false ∧ Go (g2 ls s) PS') : Go (sSeq (sIf t g1 sNil) g2 ls st) PS' := go_seq (go_sif (h.mono fun b s ⟨e, q⟩ => by
  subst e
  exact go_snil q))
theorem go_guard1 (h : Go (t ls st) fun b s => b = false ∧ PS' (.nx, ls) s) : Go (sIf t g1 sNil ls st) PS' := go_sif (h.mono fun b s ⟨e, q⟩ => by
  subst e
  exact go_snil q)
/-- or, all known to be false; and, all known to be true -/
theorem go_orF (h : Go (t ls st) fun b s => b = false ∧ Go (u ls s) PB) : Go (bOr t u ls st) PB := go_or (h.mono fun b s ⟨e, q⟩ => by
  subst e
  exact q)
theorem go_andT (h : Go (t ls st) fun b s => b = true ∧ Go (u ls s) PB) : Go (bAnd t u ls st) PB := go_and (h.mono fun b s ⟨e, q⟩ => by
  subst e
  exact q)
/-- or, and of what leaves the store -/
theorem go_orV {a b : Bool} (h1 : Go (t ls st) fun x s => x = a ∧ s = st) (h2 : a = false → Go (u ls st) fun x s => x = b ∧ s = st) (h : PB (a || b) st) : Go (bOr t u ls st) PB := go_or (h1.mono fun x s ⟨e1, e2⟩ => by
  subst e1 e2
  cases x with
  | true => exact Go.ok h
  | false => exact (h2 rfl).mono fun y s ⟨e3, e4⟩ => by subst e3 e4; exact h)
theorem go_andV {a b : Bool} (h1 : Go (t ls st) fun x s => x = a ∧ s = st) (h2 : a = true → Go (u ls st) fun x s => x = b ∧ s = st) (h : PB (a && b) st) : Go (bAnd t u ls st) PB := go_and (h1.mono fun x s ⟨e1, e2⟩ => by
  subst e1 e2
  cases x with
  | false => exact Go.ok h
  | true => exact (h2 rfl).mono fun y s ⟨e3, e4⟩ => by subst e3 e4; exact h)
theorem go_eOrV {a b : Bool} (h1 : Go (bB fa ls st) fun x s => x = a ∧ s = st) (h2 : a = false → Go (fb ls st) fun x s => x = .bl b ∧ s = st) (h : P (.bl (a || b)) st) : Go (eOr fa fb ls st) P := Go.bind (h1.mono fun x s ⟨e1, e2⟩ => by
  subst e1 e2
  cases x with
  | true => exact Go.ok h
  | false => exact (h2 rfl).mono fun y s ⟨e3, e4⟩ => by subst e3 e4; exact h)
theorem go_eAndV {a b : Bool} (h1 : Go (bB fa ls st) fun x s => x = a ∧ s = st) (h2 : a = true → Go (fb ls st) fun x s => x = .bl b ∧ s = st) (h : P (.bl (a && b)) st) : Go (eAnd fa fb ls st) P := Go.bind (h1.mono fun x s ⟨e1, e2⟩ => by
  subst e1 e2
  cases x with
  | false => exact Go.ok h
  | true => exact (h2 rfl).mono fun y s ⟨e3, e4⟩ => by subst e3 e4; exact h)
theorem go_eNot {a : Bool} (h : Go (bB fa ls st) fun x s => P (.bl (!x)) s) : Go (eNot fa ls st) P := Go.bind (h.mono fun x s q => Go.ok q)
theorem go_chain {f g : F2} (h : Go (fa ls st) fun x s1 => Go (fb ls s1) fun y s2 => Go (f x y s2) fun z s3 => ∃ b, z = .bl b ∧ (if b = true then Go (fc ls s3) fun w s4 => Go (g y w s4) P else P (.bl false) s3)) : Go (eChain f g fa fb fc ls st) P := Go.bind (h.mono fun x s1 q => Go.bind (q.mono fun y s2 q => Go.bind (q.mono fun z s3 ⟨b, e, q⟩ => by
  subst e
  cases b with
  | true => exact Go.bind (Go.mono q fun w s4 q => q)
  | false => exact Go.ok q)))
/-- i <= j < k of ints, the store left -/
theorem go_chI {f g : F2} {i j k : Int} {C : Int → Int → Prop} {D : Int → Int → Prop} [∀ a b, Decidable (C a b)] [∀ a b, Decidable (D a b)] (hf : ∀ s (P : Dv → Sto → Prop), P (.bl (decide (C i j))) s → Go (f (.int i) (.int j) s) P) (hg : ∀ s (P : Dv → Sto → Prop), P (.bl (decide (D j k))) s → Go (g (.int j) (.int k) s) P)
    (h1 : Go (fa ls st) fun x s => x = .int i ∧ s = st) (h2 : Go (fb ls st) fun x s => x = .int j ∧ s = st) (h3 : Go (fc ls st) fun x s => x = .int k ∧ s = st) (h : P (.bl (decide (C i j ∧ D j k))) st) : Go (eChain f g fa fb fc ls st) P := by
  refine go_chain (h1.mono fun x s ⟨e1, e2⟩ => ?_)
  subst e1 e2
  refine h2.mono fun x s ⟨e1, e2⟩ => ?_
  subst e1 e2
  refine hf _ _ ⟨_, rfl, ?_⟩
  by_cases c : C i j
  · rw [decide_eq_true c, if_pos rfl]
    refine h3.mono fun x s ⟨e1, e2⟩ => ?_
    subst e1 e2
    refine hg _ _ ?_
    simpa [c] using h
  · rw [decide_eq_false c, if_neg Bool.false_ne_true]
    simpa [c] using h
theorem go_isN (h1 : Go (fa ls st) fun y s => P (.bl (isNon y)) s) : Go (eIsN fa ls st) P := Go.bind (h1.mono fun y s q => Go.ok q)
theorem go_notN (h1 : Go (fa ls st) fun y s => P (.bl (!isNon y)) s) : Go (eNotN fa ls st) P := Go.bind (h1.mono fun y s q => Go.ok q)
/-! ### walks -/
/-- it walks ds, whatever the store -/
def WkV (k : Wk) (ds : List Dv) : Prop := ds.length ≤ k.len ∧ ∀ s, (∀ i (h : i < ds.length), k.at_ i s = some (some ds[i])) ∧ k.at_ ds.length s = some none
theorem wkv_tup (ds : List Dv) : WkV (wkT ds) ds := ⟨Nat.le_refl _, fun s => ⟨fun i h => by show some ds[i]? = _; simp [h], by show some ds[ds.length]? = _; simp⟩⟩
theorem wkv_cst (ds : List Dv) (l : Nat) (h : ds.length ≤ l) : WkV (wkL (.cst ds) l) ds := ⟨h, fun s => ⟨fun i h => by show some ds[i]? = _; simp [h], by show some ds[ds.length]? = _; simp⟩⟩
theorem go_wSeqC (h : Go (fa ls st) fun x s => ∃ ds, x = .cst ds ∧ ∀ k, WkV k ds → PW k s) : Go (wSeq fa ls st) PW := Go.bind (h.mono fun x s ⟨ds, e, q⟩ => by
  subst e
  exact ⟨_, _, rfl, q _ (wkv_cst ds _ (Nat.le_refl _))⟩)
theorem go_wSeqT (h : Go (fa ls st) fun x s => ∃ ds, x = .tup ds ∧ ∀ k, WkV k ds → PW k s) : Go (wSeq fa ls st) PW := Go.bind (h.mono fun x s ⟨ds, e, q⟩ => by
  subst e
  exact ⟨_, _, rfl, q _ (wkv_tup ds)⟩)
def rngD (lo : Int) (n : Nat) : List Dv := (List.range n).map fun i => .int (lo + (i : Nat))
theorem rngD_len {lo : Int} {n : Nat} : (rngD lo n).length = n := by simp [rngD]
theorem wkv_rng (lo : Int) (n : Nat) : WkV (wkR lo n) (rngD lo n) := ⟨by simp [rngD, wkR], fun s => ⟨fun i h => by
  have h : i < n := by simpa [rngD] using h
  show some (if i < n then _ else none) = _
  rw [if_pos h]
  simp [rngD], by
  rw [rngD_len]
  show some (if n < n then _ else none) = _
  rw [if_neg (Nat.lt_irrefl _)]⟩⟩
theorem go_wR1 (h : Go (fs ls st) fun ds st1 => ∃ j : Int, ds = [.int j] ∧ -(2 ^ 62) ≤ j ∧ j < 2 ^ 62 ∧ ∀ k, WkV k (rngD 0 j.toNat) → PW k st1) : Go (wR1 fs ls st) PW := Go.bind (h.mono fun ds st1 ⟨j, e, h1, h2, q⟩ => by
  subst e
  show Go (if _ then _ else _) _
  rw [if_pos ⟨h1, h2⟩]
  exact ⟨_, _, rfl, q _ (wkv_rng _ _)⟩)
theorem go_wR2 (h : Go (fs ls st) fun ds st1 => ∃ i j : Int, ds = [.int i, .int j] ∧ -(2 ^ 62) ≤ i ∧ i < 2 ^ 62 ∧ -(2 ^ 62) ≤ j ∧ j < 2 ^ 62 ∧ ∀ k, WkV k (rngD i (j - i).toNat) → PW k st1) : Go (wR2 fs ls st) PW := Go.bind (h.mono fun ds st1 ⟨i, j, e, h1, h2, h3, h4, q⟩ => by
  subst e
  show Go (if _ then _ else _) _
  rw [if_pos ⟨h1, h2, h3, h4⟩]
  exact ⟨_, _, rfl, q _ (wkv_rng _ _)⟩)
/-- a value that holds a list, a tuple, a text -/
def ValS (x : Dv) (ds : List Dv) : Prop := ∀ s, asS s x = some ds
theorem valS_cst {ds : List Dv} : ValS (.cst ds) ds := fun _ => rfl
theorem valS_tup {ds : List Dv} : ValS (.tup ds) ds := fun _ => rfl
def enumD (ds : List Dv) : List Dv := ds.mapIdx fun i d => .tup [.int (i : Nat), d]
theorem enumD_len {ds : List Dv} : (enumD ds).length = ds.length := by simp [enumD]
theorem go_wEnum (h : Go (fs ls st) fun ys st1 => ∃ x ds, ys = [x] ∧ ValS x ds ∧ ∀ k, WkV k (enumD ds) → PW k st1) : Go (wEnum fs ls st) PW := Go.bind (h.mono fun ys st1 ⟨x, ds, e, v, q⟩ => by
  subst e
  show Go (match asS st1 x with | some xs => rOk (wkE x xs.length) st1 | none => none) _
  rw [v st1]
  refine ⟨_, _, rfl, q _ ⟨by rw [enumD_len]; exact Nat.le_refl _, fun s => ⟨fun i h => ?_, ?_⟩⟩⟩
  · rw [enumD_len] at h
    show (match asS s x with | some ds => if i ≤ ds.length then some (ds[i]?.map fun d => Dv.tup [.int (i : Nat), d]) else none | none => none) = _
    rw [v s]
    simp only [if_pos (Nat.le_of_lt h)]
    simp [enumD, h]
  · rw [enumD_len]
    show (match asS s x with | some ds' => if ds.length ≤ ds'.length then some (ds'[ds.length]?.map fun d => Dv.tup [.int (ds.length : Nat), d]) else none | none => none) = _
    rw [v s]
    simp)
def zipD (xs ys : List Dv) : List Dv := List.zipWith (fun x y => .tup [x, y]) xs ys
theorem go_wZip (h : Go (fs ls st) fun vs st1 => ∃ x y xs ys, vs = [x, y] ∧ ValS x xs ∧ ValS y ys ∧ ∀ k, WkV k (zipD xs ys) → PW k st1) : Go (wZip fs ls st) PW := Go.bind (h.mono fun vs st1 ⟨x, y, xs, ys, e, v, w, q⟩ => by
  subst e
  show Go (match asS st1 x, asS st1 y with | some xs, some _ => rOk (wkZ x y xs.length) st1 | _, _ => none) _
  rw [v st1, w st1]
  refine ⟨_, _, rfl, q _ ⟨by simp [zipD, wkZ]; omega, fun s => ⟨fun i h => ?_, ?_⟩⟩⟩
  · have h : i < min xs.length ys.length := by simpa [zipD] using h
    show (match asS s x, asS s y with | some xs, some ys => if i ≤ min xs.length ys.length then some (zAt xs ys i) else none | _, _ => none) = _
    rw [v s, w s]
    simp only [if_pos (Nat.le_of_lt h)]
    have h1 : i < xs.length := by omega
    have h2 : i < ys.length := by omega
    unfold zAt
    simp [zipD, h1, h2]
  · have hl : (zipD xs ys).length = min xs.length ys.length := by simp [zipD]
    rw [hl]
    show (match asS s x, asS s y with | some xs', some ys' => if min xs.length ys.length ≤ min xs'.length ys'.length then some (zAt xs' ys' (min xs.length ys.length)) else none | _, _ => none) = _
    rw [v s, w s]
    simp only [if_pos (Nat.le_refl _)]
    have hz : zAt xs ys (min xs.length ys.length) = none := by
      unfold zAt
      by_cases c : xs.length ≤ ys.length
      · rw [Nat.min_eq_left c]; simp
      · rw [Nat.min_eq_right (by omega)]
        cases xs[ys.length]? <;> simp
    rw [hz])
/-! ### for -/
theorem go_sForL {k : Wk} {t : SG} {g : SS} {ds : List Dv} (hk : WkV k ds) (I : Nat → Ls → Sto → Prop)
    (hs : ∀ i ls st (h : i < ds.length), I i ls st → Go (t ds[i] ls st) fun ls1 st1 => Go (g ls1 st1) fun r st2 => match r.1 with | .nx => I (i + 1) r.2 st2 | .ct => I (i + 1) r.2 st2 | .bk => PS' (.nx, r.2) st2 | .rt d => PS' (.rt d, r.2) st2)
    (he : ∀ ls st, I ds.length ls st → PS' (.nx, ls) st) : ∀ (m i : Nat) (ls : Ls) (st : Sto), I i ls st → i ≤ ds.length → ds.length < i + m → Go (sForL k t g m i ls st) PS'
  | 0, i, ls, st, _, h1, h2 => absurd h2 (by omega)
  | m + 1, i, ls, st, h, h1, h2 => by
    unfold sForL
    by_cases e : i = ds.length
    · subst e
      rw [(hk.2 st).2]
      exact Go.ok (he ls st h)
    · have hi : i < ds.length := by omega
      rw [(hk.2 st).1 i hi]
      refine Go.bind ((hs i ls st hi h).mono fun ls1 st1 q => Go.bind (q.mono fun r st2 q => ?_))
      obtain ⟨r1, r2⟩ := r
      cases r1 with
      | nx => exact go_sForL hk I hs he m (i + 1) r2 st2 q (by omega) (by omega)
      | ct => exact go_sForL hk I hs he m (i + 1) r2 st2 q (by omega) (by omega)
      | bk => exact Go.ok q
      | rt d => exact Go.ok q
theorem go_for {w : SW} {t : SG} {g : SS} (h : Go (w ls st) fun k st1 => ∃ ds, WkV k ds ∧ ∃ I : Nat → Ls → Sto → Prop, I 0 ls st1 ∧ (∀ i ls st (h : i < ds.length), I i ls st → Go (t ds[i] ls st) fun ls1 st1 => Go (g ls1 st1) fun r st2 => match r.1 with | .nx => I (i + 1) r.2 st2 | .ct => I (i + 1) r.2 st2 | .bk => PS' (.nx, r.2) st2 | .rt d => PS' (.rt d, r.2) st2)
    ∧ ∀ ls st, I ds.length ls st → PS' (.nx, ls) st) : Go (sFor w t g ls st) PS' := Go.bind (h.mono fun k st1 ⟨ds, hk, I, h0, hs, he⟩ => go_sForL hk I hs he _ 0 ls st1 h0 (Nat.zero_le _) (by have := hk.1; omega))
/-- a walk of xs, its state told by s, folded -/
theorem go_forF {α β : Type} {w : SW} {t : SG} {g : SS} (xs : List α) (e : α → Dv) (step : β → α → β) (s0 : β) (lsOf : β → Option Dv → Ls) (stOf : β → Sto) (x0 : Option Dv) (hls : ls = lsOf s0 x0) (hst : st = stOf s0)
    (h : Go (w ls st) fun k st1 => st1 = st ∧ WkV k (xs.map e))
    (hs : ∀ i (h : i < xs.length) (x : Option Dv), Go (t (e xs[i]) (lsOf ((xs.take i).foldl step s0) x) (stOf ((xs.take i).foldl step s0))) fun ls1 st1 => Go (g ls1 st1) fun r st2 => r.1 = .nx ∧ st2 = stOf (step ((xs.take i).foldl step s0) xs[i]) ∧ ∃ x', r.2 = lsOf (step ((xs.take i).foldl step s0) xs[i]) x')
    (he : ∀ x, PS' (.nx, lsOf (xs.foldl step s0) x) (stOf (xs.foldl step s0))) : Go (sFor w t g ls st) PS' := by
  have take : ∀ i (h : i < xs.length), (xs.take (i + 1)).foldl step s0 = step ((xs.take i).foldl step s0) xs[i] := fun i h => by
    rw [List.take_add_one, List.getElem?_eq_getElem h, List.foldl_append]
    rfl
  refine go_for (h.mono fun k st1 ⟨e1, hk⟩ => ⟨xs.map e, hk, fun i ls s => s = stOf ((xs.take i).foldl step s0) ∧ ∃ x, ls = lsOf ((xs.take i).foldl step s0) x, ⟨by rw [e1, hst]; rfl, x0, by rw [hls]; rfl⟩, ?_, ?_⟩)
  · rintro i ls s hi ⟨rfl, x, rfl⟩
    have hi : i < xs.length := by simpa using hi
    rw [List.getElem_map]
    refine (hs i hi x).mono fun ls1 st1 q => q.mono fun r st2 ⟨a, b, x', c⟩ => ?_
    obtain ⟨r1, r2⟩ := r
    have a : r1 = .nx := a
    subst a
    show st2 = stOf ((xs.take (i + 1)).foldl step s0) ∧ ∃ x, r2 = lsOf ((xs.take (i + 1)).foldl step s0) x
    rw [take i hi]
    exact ⟨b, x', c⟩
  · rintro ls s ⟨rfl, x, rfl⟩
    rw [List.length_map, List.take_length]
    exact he x
/-! ### comprehensions -/
theorem go_nox {α : Type} {m : Mo α} {P : α → Sto → Prop} (h : Go m P) : Go m.nox P := by
  obtain ⟨a, s, rfl, q⟩ := h
  exact ⟨a, s, rfl, q⟩
theorem go_lcL {k : Wk} {t : SG} {u : SB} {f : SE} {wp : Ls} {fin : List Dv → Sto → Mo Dv} {ds : List Dv} (hk : WkV k ds) (I : Nat → List Dv → Sto → Prop)
    (hs : ∀ i acc st (h : i < ds.length), I i acc st → Go (t ds[i] wp st) fun ls1 st1 => Go (u ls1 st1) fun b st2 => if b = true then Go (f ls1 st2) fun y st3 => acc.length < sizeLine ∧ I (i + 1) (acc ++ [y]) st3 else I (i + 1) acc st2)
    (he : ∀ acc st, I ds.length acc st → Go (fin acc st) P) : ∀ (m i : Nat) (acc : List Dv) (st : Sto), I i acc st → i ≤ ds.length → ds.length < i + m → Go (eLcL k t u f wp fin m i acc st) P
  | 0, i, acc, st, _, h1, h2 => absurd h2 (by omega)
  | m + 1, i, acc, st, h, h1, h2 => by
    unfold eLcL
    by_cases e : i = ds.length
    · subst e
      rw [(hk.2 st).2]
      exact he acc st h
    · have hi : i < ds.length := by omega
      rw [(hk.2 st).1 i hi]
      refine Go.bind ((hs i acc st hi h).mono fun ls1 st1 q => Go.bind (q.mono fun b st2 q => ?_))
      cases b with
      | false => exact go_lcL hk I hs he m (i + 1) acc st2 q (by omega) (by omega)
      | true =>
        refine Go.bind (Go.mono q fun y st3 ⟨e3, q⟩ => ?_)
        show Go (if acc.length < sizeLine then _ else _) _
        rw [if_pos e3]
        exact go_lcL hk I hs he m (i + 1) _ st3 q (by omega) (by omega)
/-- a comprehension, in general -/
theorem go_lc {w : SW} {t : SG} {u : SB} {f : SE} {vs : List Nat} {fin : List Dv → Sto → Mo Dv} (h : Go (w ls st) fun k st1 => ∃ ds, WkV k ds ∧ ∃ I : Nat → List Dv → Sto → Prop, I 0 [] st1 ∧ (∀ i acc st (h : i < ds.length), I i acc st → Go (t ds[i] (wipeL ls vs) st) fun ls1 s1 => Go (u ls1 s1) fun b s2 => if b = true then Go (f ls1 s2) fun y s3 => acc.length < sizeLine ∧ I (i + 1) (acc ++ [y]) s3 else I (i + 1) acc s2)
    ∧ ∀ acc st, I ds.length acc st → Go (fin acc st) P) : Go (eLcF fin w (nxG t) (nxB u) (nxE f) vs ls st) P := Go.bind (h.mono fun k st1 ⟨ds, hk, I, h0, hs, he⟩ => go_lcL hk I (fun i acc st h q => go_nox ((hs i acc st h q).mono fun ls1 s1 q => go_nox (q.mono fun b s2 q => by
  cases b with
  | true => exact go_nox q
  | false => exact q))) he _ 0 [] st1 h0 (Nat.zero_le _) (by have := hk.1; omega))
/-- each item by itself, the store left -/
theorem go_lcM {α : Type} {w : SW} {t : SG} {f : SE} {vs : List Nat} {fin : List Dv → Sto → Mo Dv} (xs : List α) (e g : α → Dv) (h : Go (w ls st) fun k st1 => st1 = st ∧ WkV k (xs.map e)) (hz : xs.length ≤ sizeLine)
    (hs : ∀ x ∈ xs, Go (t (e x) (wipeL ls vs) st) fun ls1 s1 => s1 = st ∧ Go (f ls1 st) fun y s3 => y = g x ∧ s3 = st) (he : Go (fin (xs.map g) st) P) : Go (eLcF fin w (nxG t) (nxB bYes) (nxE f) vs ls st) P := by
  refine go_lc (h.mono fun k st1 ⟨e1, hk⟩ => ⟨xs.map e, hk, fun i acc s => s = st ∧ acc = (xs.take i).map g, ⟨e1, by simp⟩, ?_, ?_⟩)
  · rintro i acc s hi ⟨rfl, rfl⟩
    have hi : i < xs.length := by simpa using hi
    rw [List.getElem_map]
    refine (hs xs[i] (List.getElem_mem hi)).mono fun ls1 s1 ⟨e2, q⟩ => ?_
    subst e2
    refine ⟨true, _, rfl, ?_⟩
    show Go (f ls1 _) _
    refine q.mono fun y s3 ⟨e3, e4⟩ => ?_
    subst e3 e4
    refine ⟨by simp; omega, rfl, ?_⟩
    rw [List.take_add_one, List.getElem?_eq_getElem hi, List.map_append]
    rfl
  · rintro acc s ⟨rfl, rfl⟩
    rw [List.length_map, List.take_length]
    exact he
/-- those that pass -/
theorem go_lcFM {α : Type} {w : SW} {t : SG} {u : SB} {f : SE} {vs : List Nat} {fin : List Dv → Sto → Mo Dv} (xs : List α) (e g : α → Dv) (c : α → Bool) (h : Go (w ls st) fun k st1 => st1 = st ∧ WkV k (xs.map e)) (hz : xs.length ≤ sizeLine)
    (hs : ∀ x ∈ xs, Go (t (e x) (wipeL ls vs) st) fun ls1 s1 => s1 = st ∧ Go (u ls1 st) fun b s2 => b = c x ∧ s2 = st ∧ (c x = true → Go (f ls1 st) fun y s3 => y = g x ∧ s3 = st)) (he : Go (fin ((xs.filter c).map g) st) P) : Go (eLcF fin w (nxG t) (nxB u) (nxE f) vs ls st) P := by
  refine go_lc (h.mono fun k st1 ⟨e1, hk⟩ => ⟨xs.map e, hk, fun i acc s => s = st ∧ acc = ((xs.take i).filter c).map g, ⟨e1, by simp⟩, ?_, ?_⟩)
  · rintro i acc s hi ⟨rfl, rfl⟩
    have hi : i < xs.length := by simpa using hi
    rw [List.getElem_map]
    refine (hs xs[i] (List.getElem_mem hi)).mono fun ls1 s1 ⟨e2, q⟩ => ?_
    subst e2
    refine q.mono fun b s2 ⟨e3, e4, q⟩ => ?_
    subst e3 e4
    have tk : (xs.take (i + 1)).filter c = (xs.take i).filter c ++ (if c xs[i] = true then [xs[i]] else []) := by
      rw [List.take_add_one, List.getElem?_eq_getElem hi, List.filter_append]
      congr 1
      cases hc : c xs[i] <;> simp [hc]
    cases hc : c xs[i] with
    | true =>
      rw [if_pos rfl]
      refine (q hc).mono fun y s3 ⟨e5, e6⟩ => ?_
      subst e5 e6
      refine ⟨?_, rfl, ?_⟩
      · rw [List.length_map]
        have := List.length_filter_le c (xs.take i)
        rw [List.length_take] at this
        omega
      · rw [tk, hc, List.map_append]
        rfl
    | false =>
      rw [if_neg Bool.false_ne_true]
      refine ⟨rfl, ?_⟩
      rw [tk, hc]
      simp
  · rintro acc s ⟨rfl, rfl⟩
    rw [List.length_map, List.take_length]
    exact he
theorem go_finC {acc : List Dv} (h : P (.cst acc) st) : Go (finC acc st) P := Go.ok h
theorem go_finM {acc : List Dv} (h : P (.ref st.length) (st ++ [.lst acc])) : Go (finM acc st) P := ⟨_, _, rfl, h⟩
end
end R

namespace R
open PySem L2
/-- d holds the ratio r, within n bits -/
structure RatV (n : Nat) (d : Dv) (r : Rat) : Prop where
  ex : ∃ p, d = enP p ∧ SmP n p ∧ valP p = r
theorem RatV.q {n : Nat} {r : Rat} (h : SmQ n r) : RatV n (enQ r) r := ⟨_, rfl, h.p, valP_q⟩
theorem RatV.p {n : Nat} {i j : Int} (h1 : i.natAbs < 2 ^ n) (h2 : 0 < j) (h3 : j.natAbs < 2 ^ n) : RatV n (.tup [.int i, .int j]) ((i : Rat) / (j : Rat)) := ⟨(i, j), rfl, ⟨h1, h2, h3⟩, rfl⟩
theorem RatV.i {n : Nat} {i : Int} (h1 : i.natAbs < 2 ^ n) (hn : 0 < n := by omega) : RatV n (.tup [.int i, .int 1]) (i : Rat) := ⟨(i, 1), rfl, ⟨h1, by show (0 : Int) < 1; decide, by show 1 < 2 ^ n; exact Nat.one_lt_two_pow (by omega)⟩, by
  show (i : Rat) / ((1 : Int) : Rat) = i
  rw [Rat.intCast_one]
  grind⟩
theorem RatV.mono {n m : Nat} {d : Dv} {r : Rat} (h : RatV n d r) (e : n ≤ m) : RatV m d r := let ⟨p, a, b, c⟩ := h.ex; ⟨p, a, b.mono e, c⟩
theorem RatV.one : RatV 1 (.tup [.int 1, .int 1]) 1 := RatV.i (i := 1) (by decide)
theorem RatV.zero : RatV 1 (.tup [.int 0, .int 1]) 0 := RatV.i (i := 0) (by decide)
theorem enQ_int {i : Int} : enQ (i : Rat) = .tup [.int i, .int 1] := rfl
theorem enQ_zero : enQ 0 = .tup [.int 0, .int 1] := rfl
theorem enQ_one : enQ 1 = .tup [.int 1, .int 1] := rfl
section
variable {P : Dv → Sto → Prop} {st : Sto}
def RatF (f : FC) : Prop := ∀ t b st, b ≠ 0 → ratC t b → f [.int t, .int b] st = some (.ok (ofP (ratQ t b)), st)
theorem ratF_A {c : Nat} : RatF (mRatio c) := fun t b st h0 hc => by
  show (if b = 0 then _ else if ratC t b then _ else _) = _
  rw [if_neg h0, if_pos hc]
theorem ratF_B : RatF mRatio0 := fun t b st h0 hc => by
  show (if b ≠ 0 ∧ ratC t b then _ else _) = _
  rw [if_pos ⟨h0, hc⟩]
theorem go_rat {f : FC} (hf : RatF f) {t b : Int} (n : Nat) (ht : t.natAbs < 2 ^ n) (hb : b.natAbs < 2 ^ n) (h0 : b ≠ 0) (hn : n ≤ 8000) (h : P (enQ ((t : Rat) / (b : Rat))) st) : Go (f [.int t, .int b] st) P := ⟨_, _, hf t b st h0 (ratC_of ht hb h0 hn), by rw [enQ_rat h0]; exact h⟩
abbrev x00 : SE := eOp opIx (eVar 0) (eC (.int 0))
abbrev x01 : SE := eOp opIx (eVar 0) (eC (.int 1))
abbrev x10 : SE := eOp opIx (eVar 1) (eC (.int 0))
abbrev x11 : SE := eOp opIx (eVar 1) (eC (.int 1))
abbrev bPlus (f : FC) : FC := frame1 fun ds st => fnOf (sRet (eCall f (aCons (eOp opAdd (eOp opMul x00 x11) (eOp opMul x10 x01)) (aCons (eOp opMul x01 x11) aNil)))) 2 ds st
abbrev bMinus (f : FC) : FC := frame1 fun ds st => fnOf (sRet (eCall f (aCons (eOp opSub (eOp opMul x00 x11) (eOp opMul x10 x01)) (aCons (eOp opMul x01 x11) aNil)))) 2 ds st
abbrev bTimes (f : FC) : FC := frame1 fun ds st => fnOf (sRet (eCall f (aCons (eOp opMul x00 x10) (aCons (eOp opMul x01 x11) aNil)))) 2 ds st
abbrev bOver (f : FC) : FC := frame1 fun ds st => fnOf (sRet (eCall f (aCons (eOp opMul x00 x11) (aCons (eOp opMul x01 x10) aNil)))) 2 ds st
abbrev bLess : FC := frame1 fun ds st => fnOf (sRet (eOp opLt (eOp opMul x00 x11) (eOp opMul x10 x01))) 2 ds st
/-- f is an operation on ratios, within k more bits -/
def OpF (k : Nat) (f : FC) (o : Rat → Rat → Rat) : Prop := (∀ p q n m, SmQ n p → SmQ m q → SmQ (n + m + k) (o p q)) ∧ ∀ d e p q n m st (P : Dv → Sto → Prop), RatV n d p → RatV m e q → n + m ≤ 7000 → P (enQ (o p q)) st → Go (f [d, e] st) P
section
variable {f : FC}
theorem opF_plus (hf : RatF f) : OpF 1 (bPlus f) (· + ·) := ⟨fun p q n m hp hq => hp.add hq, fun d e p q n m st P hd he hn h => by
  obtain ⟨p, rfl, hp, rfl⟩ := hd.ex
  obtain ⟨q, rfl, hq, rfl⟩ := he.ex
  refine go_fr rfl (go_fn (go_ret ?_)) rfl h
  show Go (eCall f _ [some (enP p), some (enP q)] []) _
  repeat (first | with_reducible refine go_op ?_ | with_reducible refine go_call ?_ | with_reducible refine go_cons ?_ | with_reducible refine go_nil ?_ | with_reducible refine go_var (by with_unfolding_all exact rfl) ?_ | with_reducible refine go_c ?_ | with_reducible refine go_int ?_ | with_reducible refine go_add ?_ | with_reducible refine go_sub ?_ | with_reducible refine go_q0 ?_ | with_reducible refine go_q1 ?_ | with_reducible refine go_p0 ?_ | with_reducible refine go_p1 ?_)
  refine go_mul (mulx_w n m hp.1 hq.2.2 (by omega)) ?_
  repeat (first | with_reducible refine go_op ?_ | with_reducible refine go_call ?_ | with_reducible refine go_cons ?_ | with_reducible refine go_nil ?_ | with_reducible refine go_var (by with_unfolding_all exact rfl) ?_ | with_reducible refine go_c ?_ | with_reducible refine go_int ?_ | with_reducible refine go_add ?_ | with_reducible refine go_sub ?_ | with_reducible refine go_q0 ?_ | with_reducible refine go_q1 ?_ | with_reducible refine go_p0 ?_ | with_reducible refine go_p1 ?_)
  refine go_mul (mulx_w m n hq.1 hp.2.2 (by omega)) ?_
  repeat (first | with_reducible refine go_op ?_ | with_reducible refine go_call ?_ | with_reducible refine go_cons ?_ | with_reducible refine go_nil ?_ | with_reducible refine go_var (by with_unfolding_all exact rfl) ?_ | with_reducible refine go_c ?_ | with_reducible refine go_int ?_ | with_reducible refine go_add ?_ | with_reducible refine go_sub ?_ | with_reducible refine go_q0 ?_ | with_reducible refine go_q1 ?_ | with_reducible refine go_p0 ?_ | with_reducible refine go_p1 ?_)
  refine go_mul (mulx_w n m hp.2.2 hq.2.2 (by omega)) ?_
  repeat (first | with_reducible refine go_op ?_ | with_reducible refine go_call ?_ | with_reducible refine go_cons ?_ | with_reducible refine go_nil ?_ | with_reducible refine go_var (by with_unfolding_all exact rfl) ?_ | with_reducible refine go_c ?_ | with_reducible refine go_int ?_ | with_reducible refine go_add ?_ | with_reducible refine go_sub ?_ | with_reducible refine go_q0 ?_ | with_reducible refine go_q1 ?_ | with_reducible refine go_p0 ?_ | with_reducible refine go_p1 ?_)
  exact go_rat hf _ (add_bits (cr1_sm hp hq) (cr2_sm hp hq)) (den_sm hp hq) (prod_ne hp hq) (by omega) ⟨_, rfl, by rw [val_plus hp hq]⟩⟩
theorem opF_minus (hf : RatF f) : OpF 1 (bMinus f) (· - ·) := ⟨fun p q n m hp hq => hp.sub hq, fun d e p q n m st P hd he hn h => by
  obtain ⟨p, rfl, hp, rfl⟩ := hd.ex
  obtain ⟨q, rfl, hq, rfl⟩ := he.ex
  refine go_fr rfl (go_fn (go_ret ?_)) rfl h
  show Go (eCall f _ [some (enP p), some (enP q)] []) _
  repeat (first | with_reducible refine go_op ?_ | with_reducible refine go_call ?_ | with_reducible refine go_cons ?_ | with_reducible refine go_nil ?_ | with_reducible refine go_var (by with_unfolding_all exact rfl) ?_ | with_reducible refine go_c ?_ | with_reducible refine go_int ?_ | with_reducible refine go_add ?_ | with_reducible refine go_sub ?_ | with_reducible refine go_q0 ?_ | with_reducible refine go_q1 ?_ | with_reducible refine go_p0 ?_ | with_reducible refine go_p1 ?_)
  refine go_mul (mulx_w n m hp.1 hq.2.2 (by omega)) ?_
  repeat (first | with_reducible refine go_op ?_ | with_reducible refine go_call ?_ | with_reducible refine go_cons ?_ | with_reducible refine go_nil ?_ | with_reducible refine go_var (by with_unfolding_all exact rfl) ?_ | with_reducible refine go_c ?_ | with_reducible refine go_int ?_ | with_reducible refine go_add ?_ | with_reducible refine go_sub ?_ | with_reducible refine go_q0 ?_ | with_reducible refine go_q1 ?_ | with_reducible refine go_p0 ?_ | with_reducible refine go_p1 ?_)
  refine go_mul (mulx_w m n hq.1 hp.2.2 (by omega)) ?_
  repeat (first | with_reducible refine go_op ?_ | with_reducible refine go_call ?_ | with_reducible refine go_cons ?_ | with_reducible refine go_nil ?_ | with_reducible refine go_var (by with_unfolding_all exact rfl) ?_ | with_reducible refine go_c ?_ | with_reducible refine go_int ?_ | with_reducible refine go_add ?_ | with_reducible refine go_sub ?_ | with_reducible refine go_q0 ?_ | with_reducible refine go_q1 ?_ | with_reducible refine go_p0 ?_ | with_reducible refine go_p1 ?_)
  refine go_mul (mulx_w n m hp.2.2 hq.2.2 (by omega)) ?_
  repeat (first | with_reducible refine go_op ?_ | with_reducible refine go_call ?_ | with_reducible refine go_cons ?_ | with_reducible refine go_nil ?_ | with_reducible refine go_var (by with_unfolding_all exact rfl) ?_ | with_reducible refine go_c ?_ | with_reducible refine go_int ?_ | with_reducible refine go_add ?_ | with_reducible refine go_sub ?_ | with_reducible refine go_q0 ?_ | with_reducible refine go_q1 ?_ | with_reducible refine go_p0 ?_ | with_reducible refine go_p1 ?_)
  exact go_rat hf _ (sub_bits (cr1_sm hp hq) (cr2_sm hp hq)) (den_sm hp hq) (prod_ne hp hq) (by omega) ⟨_, rfl, by rw [val_minus hp hq]⟩⟩
theorem opF_times (hf : RatF f) : OpF 0 (bTimes f) (· * ·) := ⟨fun p q n m hp hq => hp.mul hq, fun d e p q n m st P hd he hn h => by
  obtain ⟨p, rfl, hp, rfl⟩ := hd.ex
  obtain ⟨q, rfl, hq, rfl⟩ := he.ex
  refine go_fr rfl (go_fn (go_ret ?_)) rfl h
  show Go (eCall f _ [some (enP p), some (enP q)] []) _
  repeat (first | with_reducible refine go_op ?_ | with_reducible refine go_call ?_ | with_reducible refine go_cons ?_ | with_reducible refine go_nil ?_ | with_reducible refine go_var (by with_unfolding_all exact rfl) ?_ | with_reducible refine go_c ?_ | with_reducible refine go_int ?_ | with_reducible refine go_add ?_ | with_reducible refine go_sub ?_ | with_reducible refine go_q0 ?_ | with_reducible refine go_q1 ?_ | with_reducible refine go_p0 ?_ | with_reducible refine go_p1 ?_)
  refine go_mul (mulx_w n m hp.1 hq.1 (by omega)) ?_
  repeat (first | with_reducible refine go_op ?_ | with_reducible refine go_call ?_ | with_reducible refine go_cons ?_ | with_reducible refine go_nil ?_ | with_reducible refine go_var (by with_unfolding_all exact rfl) ?_ | with_reducible refine go_c ?_ | with_reducible refine go_int ?_ | with_reducible refine go_add ?_ | with_reducible refine go_sub ?_ | with_reducible refine go_q0 ?_ | with_reducible refine go_q1 ?_ | with_reducible refine go_p0 ?_ | with_reducible refine go_p1 ?_)
  refine go_mul (mulx_w n m hp.2.2 hq.2.2 (by omega)) ?_
  repeat (first | with_reducible refine go_op ?_ | with_reducible refine go_call ?_ | with_reducible refine go_cons ?_ | with_reducible refine go_nil ?_ | with_reducible refine go_var (by with_unfolding_all exact rfl) ?_ | with_reducible refine go_c ?_ | with_reducible refine go_int ?_ | with_reducible refine go_add ?_ | with_reducible refine go_sub ?_ | with_reducible refine go_q0 ?_ | with_reducible refine go_q1 ?_ | with_reducible refine go_p0 ?_ | with_reducible refine go_p1 ?_)
  exact go_rat hf _ (mul_bits hp.1 hq.1) (mul_bits hp.2.2 hq.2.2) (prod_ne hp hq) (by omega) ⟨_, rfl, by rw [val_times hp hq]⟩⟩
theorem valP_ne {n : Nat} {p : Int × Int} (hp : SmP n p) (h : valP p ≠ 0) : p.1 ≠ 0 := fun e => h (by unfold valP; rw [e, Rat.intCast_zero]; grind)
theorem go_over (hf : RatF f) {d e : Dv} {p q : Rat} {n m : Nat} (hd : RatV n d p) (he : RatV m e q) (h0 : q ≠ 0) (hn : n + m ≤ 7000) (h : P (enQ (p / q)) st) : Go (bOver f [d, e] st) P := by
  obtain ⟨p, rfl, hp, rfl⟩ := hd.ex
  obtain ⟨q, rfl, hq, rfl⟩ := he.ex
  have h1 := valP_ne hq h0
  refine go_fr rfl (go_fn (go_ret ?_)) rfl h
  show Go (eCall f _ [some (enP p), some (enP q)] []) _
  repeat (first | with_reducible refine go_op ?_ | with_reducible refine go_call ?_ | with_reducible refine go_cons ?_ | with_reducible refine go_nil ?_ | with_reducible refine go_var (by with_unfolding_all exact rfl) ?_ | with_reducible refine go_c ?_ | with_reducible refine go_int ?_ | with_reducible refine go_add ?_ | with_reducible refine go_sub ?_ | with_reducible refine go_q0 ?_ | with_reducible refine go_q1 ?_ | with_reducible refine go_p0 ?_ | with_reducible refine go_p1 ?_)
  refine go_mul (mulx_w n m hp.1 hq.2.2 (by omega)) ?_
  repeat (first | with_reducible refine go_op ?_ | with_reducible refine go_call ?_ | with_reducible refine go_cons ?_ | with_reducible refine go_nil ?_ | with_reducible refine go_var (by with_unfolding_all exact rfl) ?_ | with_reducible refine go_c ?_ | with_reducible refine go_int ?_ | with_reducible refine go_add ?_ | with_reducible refine go_sub ?_ | with_reducible refine go_q0 ?_ | with_reducible refine go_q1 ?_ | with_reducible refine go_p0 ?_ | with_reducible refine go_p1 ?_)
  refine go_mul (mulx_w n m hp.2.2 hq.1 (by omega)) ?_
  repeat (first | with_reducible refine go_op ?_ | with_reducible refine go_call ?_ | with_reducible refine go_cons ?_ | with_reducible refine go_nil ?_ | with_reducible refine go_var (by with_unfolding_all exact rfl) ?_ | with_reducible refine go_c ?_ | with_reducible refine go_int ?_ | with_reducible refine go_add ?_ | with_reducible refine go_sub ?_ | with_reducible refine go_q0 ?_ | with_reducible refine go_q1 ?_ | with_reducible refine go_p0 ?_ | with_reducible refine go_p1 ?_)
  exact go_rat hf _ (mul_bits hp.1 hq.2.2) (mul_bits hp.2.2 hq.1) (Int.mul_ne_zero (by have := hp.2.1; omega) h1) (by omega) ⟨_, rfl, by rw [val_over hp hq h1]⟩
theorem go_less {d e : Dv} {p q : Rat} {n m : Nat} (hd : RatV n d p) (he : RatV m e q) (hn : n + m ≤ 7000) (h : P (.bl (decide (p < q))) st) : Go (bLess [d, e] st) P := by
  obtain ⟨p, rfl, hp, rfl⟩ := hd.ex
  obtain ⟨q, rfl, hq, rfl⟩ := he.ex
  refine go_fr rfl (go_fn (go_ret ?_)) rfl h
  show Go (eOp opLt _ _ [some (enP p), some (enP q)] []) _
  repeat (first | with_reducible refine go_op ?_ | with_reducible refine go_call ?_ | with_reducible refine go_cons ?_ | with_reducible refine go_nil ?_ | with_reducible refine go_var (by with_unfolding_all exact rfl) ?_ | with_reducible refine go_c ?_ | with_reducible refine go_int ?_ | with_reducible refine go_add ?_ | with_reducible refine go_sub ?_ | with_reducible refine go_q0 ?_ | with_reducible refine go_q1 ?_ | with_reducible refine go_p0 ?_ | with_reducible refine go_p1 ?_)
  refine go_mul (mulx_w n m hp.1 hq.2.2 (by omega)) ?_
  repeat (first | with_reducible refine go_op ?_ | with_reducible refine go_call ?_ | with_reducible refine go_cons ?_ | with_reducible refine go_nil ?_ | with_reducible refine go_var (by with_unfolding_all exact rfl) ?_ | with_reducible refine go_c ?_ | with_reducible refine go_int ?_ | with_reducible refine go_add ?_ | with_reducible refine go_sub ?_ | with_reducible refine go_q0 ?_ | with_reducible refine go_q1 ?_ | with_reducible refine go_p0 ?_ | with_reducible refine go_p1 ?_)
  refine go_mul (mulx_w m n hq.1 hp.2.2 (by omega)) ?_
  exact go_lt ⟨_, rfl, by simp only [less_iff hp hq]⟩
end
/-- the law's difference: the sum with what is below nothing -/
abbrev bMinusG (f : FC) : FC := frame1 fun ds st => fnOf (sRet (eCall f (aCons (eVar 0) (aCons (eTup (aCons (eNeg x10) (aCons x11 aNil))) aNil)))) 2 ds st
theorem opF_minusG {f : FC} (hf : OpF 1 f (· + ·)) : OpF 1 (bMinusG f) (· - ·) := ⟨fun p q n m hp hq => hp.sub hq, fun d e p q n m st P hd he hn h => by
  obtain ⟨q, rfl, hq, rfl⟩ := he.ex
  obtain ⟨p', rfl, hp', rfl⟩ := hd.ex
  refine go_fr rfl (go_fn (go_ret ?_)) rfl h
  show Go (eCall f _ [some (enP p'), some (enP q)] []) _
  refine go_call <| go_cons <| go_var (i := 0) rfl <| go_cons <| go_tup <| go_cons <| go_neg <| go_op <| go_var (i := 1) rfl <| go_c <| go_p0 ⟨_, rfl, go_cons <| go_op <| go_var (i := 1) rfl <| go_c <| go_p1 <| go_nil ⟨by show 2 ≤ sizeLine; decide, go_nil ?_⟩⟩
  have hq' : RatV m (enP (-q.1, q.2)) (- valP q) := ⟨_, rfl, ⟨by show (-q.1).natAbs < _; rw [Int.natAbs_neg]; exact hq.1, hq.2.1, hq.2.2⟩, by
    show ((-q.1 : Int) : Rat) / (q.2 : Rat) = -((q.1 : Rat) / (q.2 : Rat))
    rw [Rat.intCast_neg]; grind⟩
  refine hf.2 _ _ _ _ n m [] _ hd hq' hn ⟨_, rfl, ?_⟩
  show enQ (valP p' + -valP q) = enQ (valP p' - valP q)
  rw [show valP p' + -valP q = valP p' - valP q by grind]⟩
/-! ### down, up, near -/
abbrev bDown : FC := frame1 fun ds st => fnOf (sRet (eOp opDiv x00 x01)) 1 ds st
abbrev bUp : FC := frame1 fun ds st => fnOf (sRet (eOp opSub (eC (.int 0)) (eOp opDiv (eOp opSub (eC (.int 0)) x00) x01))) 1 ds st
abbrev bNear : FC := frame1 fun ds st => fnOf (sSeq (sAsg (eOp opDiv x00 x01) (gN 1))
  (sSeq (sAsg (eOp opMul (eC (.int 2)) (eOp opSub x00 (eOp opMul (eVar 1) x01))) (gN 2))
  (sSeq (sIf (bB (eOp opEq (eVar 2) x01)) (sRet (eIf (bB (eOp opEq (eOp opMod (eVar 1) (eC (.int 2))) (eC (.int 0)))) (eVar 1) (eOp opAdd (eVar 1) (eC (.int 1))))) sNil)
  (sRet (eIf (bB (eOp opLt (eVar 2) x01)) (eVar 1) (eOp opAdd (eVar 1) (eC (.int 1)))))))) 3 ds st
/-- halves to the even one -/
def nearR (r : Rat) : Int := if 2 * (r.num - r.num / r.den * r.den) = r.den then (if (r.num / r.den) % 2 = 0 then r.num / r.den else r.num / r.den + 1) else if 2 * (r.num - r.num / r.den * r.den) < r.den then r.num / r.den else r.num / r.den + 1
theorem SmQ.dvc {n : Nat} {r : Rat} (h : SmQ n r) (hn : n ≤ 7000) (i : Int) : CDivW i (r.den : Int) := ⟨by have := r.den_pos; omega, by
  have h1 : (r.den : Int).natAbs < 2 ^ (n + 1) := by have := h.2; rw [Nat.pow_succ]; simp; omega
  have := PySem.Flt.log2_lt_of (Nat.succ_pos n) h1
  omega⟩
theorem go_down {r : Rat} {n : Nat} (hp : SmQ n r) (hn : n ≤ 7000) (h : P (.int r.floor) st) : Go (bDown [enQ r] st) P := by
  refine go_fr rfl (go_fn (go_ret ?_)) rfl h
  show Go (eOp opDiv _ _ [some (enQ r)] []) _
  repeat (first | with_reducible refine go_op ?_ | with_reducible refine go_call ?_ | with_reducible refine go_cons ?_ | with_reducible refine go_nil ?_ | with_reducible refine go_var (by with_unfolding_all exact rfl) ?_ | with_reducible refine go_c ?_ | with_reducible refine go_int ?_ | with_reducible refine go_add ?_ | with_reducible refine go_sub ?_ | with_reducible refine go_q0 ?_ | with_reducible refine go_q1 ?_ | with_reducible refine go_p0 ?_ | with_reducible refine go_p1 ?_)
  exact go_div (hp.dvc hn _) ⟨_, rfl, by rw [Rat.floor_def]⟩
theorem go_near {r : Rat} {n : Nat} (hp : SmQ n r) (hn : n ≤ 7000) (h : P (.int (nearR r)) st) : Go (bNear [enQ r] st) P := by
  refine go_fr rfl (go_fn ?_) rfl h
  show Go (sSeq _ _ [some (enQ r), none, none] []) _
  have lowb : (r.num / r.den).natAbs < 2 ^ n := Nat.lt_of_le_of_lt (Int.natAbs_ediv_le_natAbs _ _) hp.1
  have hp2 : ((r.den : Nat) : Int).natAbs < 2 ^ n := by simpa using hp.2
  have mb : (r.num / r.den * r.den).natAbs < 2 ^ (n + n) := mul_bits lowb hp2
  refine go_seq (go_asg ?_)
  repeat (first | with_reducible refine go_op ?_ | with_reducible refine go_call ?_ | with_reducible refine go_cons ?_ | with_reducible refine go_nil ?_ | with_reducible refine go_var (by with_unfolding_all exact rfl) ?_ | with_reducible refine go_c ?_ | with_reducible refine go_int ?_ | with_reducible refine go_add ?_ | with_reducible refine go_sub ?_ | with_reducible refine go_q0 ?_ | with_reducible refine go_q1 ?_ | with_reducible refine go_p0 ?_ | with_reducible refine go_p1 ?_)
  refine go_div (hp.dvc hn _) (go_gn (by show 1 < 3; decide) (go_seq (go_asg ?_)))
  repeat (first | with_reducible refine go_op ?_ | with_reducible refine go_call ?_ | with_reducible refine go_cons ?_ | with_reducible refine go_nil ?_ | with_reducible refine go_var (by with_unfolding_all exact rfl) ?_ | with_reducible refine go_c ?_ | with_reducible refine go_int ?_ | with_reducible refine go_add ?_ | with_reducible refine go_sub ?_ | with_reducible refine go_q0 ?_ | with_reducible refine go_q1 ?_ | with_reducible refine go_p0 ?_ | with_reducible refine go_p1 ?_)
  refine go_mul (mulx_w n n lowb hp2 (by omega)) ?_
  repeat (first | with_reducible refine go_op ?_ | with_reducible refine go_call ?_ | with_reducible refine go_cons ?_ | with_reducible refine go_nil ?_ | with_reducible refine go_var (by with_unfolding_all exact rfl) ?_ | with_reducible refine go_c ?_ | with_reducible refine go_int ?_ | with_reducible refine go_add ?_ | with_reducible refine go_sub ?_ | with_reducible refine go_q0 ?_ | with_reducible refine go_q1 ?_ | with_reducible refine go_p0 ?_ | with_reducible refine go_p1 ?_)
  have pb : r.num.natAbs < 2 ^ (n + n) := Nat.lt_of_lt_of_le hp.1 (pow_le2 (by omega))
  refine go_mul (mulx_w 2 (n + n + 1) (by decide) (sub_bits pb mb) (by omega)) (go_gn (by show 2 < 3; decide) (go_seq (go_sif (go_bB ?_))))
  repeat (first | with_reducible refine go_op ?_ | with_reducible refine go_call ?_ | with_reducible refine go_cons ?_ | with_reducible refine go_nil ?_ | with_reducible refine go_var (by with_unfolding_all exact rfl) ?_ | with_reducible refine go_c ?_ | with_reducible refine go_int ?_ | with_reducible refine go_add ?_ | with_reducible refine go_sub ?_ | with_reducible refine go_q0 ?_ | with_reducible refine go_q1 ?_ | with_reducible refine go_p0 ?_ | with_reducible refine go_p1 ?_)
  unfold nearR
  refine go_eqI ⟨_, rfl, go_ifP (fun c => ?_) fun c => ?_⟩
  · rw [if_pos c]
    refine go_ret (go_if (go_bB ?_))
    repeat (first | with_reducible refine go_op ?_ | with_reducible refine go_call ?_ | with_reducible refine go_cons ?_ | with_reducible refine go_nil ?_ | with_reducible refine go_var (by with_unfolding_all exact rfl) ?_ | with_reducible refine go_c ?_ | with_reducible refine go_int ?_ | with_reducible refine go_add ?_ | with_reducible refine go_sub ?_ | with_reducible refine go_q0 ?_ | with_reducible refine go_q1 ?_ | with_reducible refine go_p0 ?_ | with_reducible refine go_p1 ?_)
    refine go_mod (by decide) ?_
    repeat (first | with_reducible refine go_op ?_ | with_reducible refine go_call ?_ | with_reducible refine go_cons ?_ | with_reducible refine go_nil ?_ | with_reducible refine go_var (by with_unfolding_all exact rfl) ?_ | with_reducible refine go_c ?_ | with_reducible refine go_int ?_ | with_reducible refine go_add ?_ | with_reducible refine go_sub ?_ | with_reducible refine go_q0 ?_ | with_reducible refine go_q1 ?_ | with_reducible refine go_p0 ?_ | with_reducible refine go_p1 ?_)
    refine go_eqI ⟨_, rfl, go_ifP (fun d => ?_) fun d => ?_⟩
    · rw [if_pos d]
      exact go_var (i := 1) rfl ⟨_, rfl, rfl⟩
    · rw [if_neg d]
      repeat (first | with_reducible refine go_op ?_ | with_reducible refine go_call ?_ | with_reducible refine go_cons ?_ | with_reducible refine go_nil ?_ | with_reducible refine go_var (by with_unfolding_all exact rfl) ?_ | with_reducible refine go_c ?_ | with_reducible refine go_int ?_ | with_reducible refine go_add ?_ | with_reducible refine go_sub ?_ | with_reducible refine go_q0 ?_ | with_reducible refine go_q1 ?_ | with_reducible refine go_p0 ?_ | with_reducible refine go_p1 ?_)
      exact ⟨_, rfl, rfl⟩
  · rw [if_neg c]
    refine go_snil (go_ret (go_if (go_bB ?_)))
    repeat (first | with_reducible refine go_op ?_ | with_reducible refine go_call ?_ | with_reducible refine go_cons ?_ | with_reducible refine go_nil ?_ | with_reducible refine go_var (by with_unfolding_all exact rfl) ?_ | with_reducible refine go_c ?_ | with_reducible refine go_int ?_ | with_reducible refine go_add ?_ | with_reducible refine go_sub ?_ | with_reducible refine go_q0 ?_ | with_reducible refine go_q1 ?_ | with_reducible refine go_p0 ?_ | with_reducible refine go_p1 ?_)
    refine go_lt ⟨_, rfl, go_ifP (fun d => ?_) fun d => ?_⟩
    · rw [if_pos d]
      exact go_var (i := 1) rfl ⟨_, rfl, rfl⟩
    · rw [if_neg d]
      repeat (first | with_reducible refine go_op ?_ | with_reducible refine go_call ?_ | with_reducible refine go_cons ?_ | with_reducible refine go_nil ?_ | with_reducible refine go_var (by with_unfolding_all exact rfl) ?_ | with_reducible refine go_c ?_ | with_reducible refine go_int ?_ | with_reducible refine go_add ?_ | with_reducible refine go_sub ?_ | with_reducible refine go_q0 ?_ | with_reducible refine go_q1 ?_ | with_reducible refine go_p0 ?_ | with_reducible refine go_p1 ?_)
      exact ⟨_, rfl, rfl⟩
/-! ### power, total -/
theorem SmQ.pow {r : Rat} {n : Nat} (h : SmQ n r) (k : Nat) : SmQ (n * k + 1) (r ^ k) := by
  have b : ∀ a : Nat, a < 2 ^ n → a ^ k < 2 ^ (n * k + 1) := fun a ha => by
    have h1 : a ^ k ≤ (2 ^ n) ^ k := Nat.pow_le_pow_left (Nat.le_of_lt ha) k
    rw [← Nat.pow_mul] at h1
    exact Nat.lt_of_le_of_lt h1 (Nat.pow_lt_pow_right (by decide) (by omega))
  refine ⟨?_, ?_⟩
  · rw [Rat.num_pow, Int.natAbs_pow]; exact b _ h.1
  · rw [Rat.den_pow]; exact b _ h.2
abbrev bPower (c : Nat) (f : FC) : FC := frame1 fun ds st => fnOf (sSeq (sIf (bNot (bB (eChain opLe opLe (eC (.int 0)) (eVar 1) (eC (.int 200))))) (sRaise c) sNil)
  (sSeq (sAsg (eTup (aCons (eC (.int 1)) (aCons (eC (.int 1)) aNil))) (gN 2))
  (sSeq (sFor (wR1 (aCons (eVar 1) aNil)) (gN 3) (sAsg (eCall f (aCons (eVar 2) (aCons (eVar 0) aNil))) (gN 2)))
  (sRet (eVar 2))))) 4 ds st
theorem go_power {c : Nat} {f : FC} (hf : OpF 0 f (· * ·)) {k : Int} {r : Rat} {n : Nat} {d : Dv} (h0 : 0 ≤ k) (h2 : k ≤ 200) (hd : RatV n d r) (hs : SmQ n r) (hn : n ≤ 30) (h : P (enQ (r ^ k.toNat)) st) : Go (bPower c f [d, .int k] st) P := by
  obtain ⟨p, rfl, hp, ep⟩ := hd.ex
  refine go_fr rfl (go_fn ?_) rfl h
  show Go (sSeq _ _ [some (enP p), some (.int k), none, none] []) _
  refine go_guard (go_not (go_bB (go_chI (C := fun a b => a ≤ b) (D := fun a b => a ≤ b) (i := 0) (j := k) (k := 200) (fun _ _ => go_le) (fun _ _ => go_le) (go_c ⟨rfl, rfl⟩) (go_var (i := 1) rfl ⟨rfl, rfl⟩) (go_c ⟨rfl, rfl⟩) ⟨_, rfl, by simp [h0, h2], ?_⟩)))
  refine go_seq (go_asg (go_tup (go_cons (go_c (go_cons (go_c (go_nil ⟨by show 2 ≤ sizeLine; decide, go_gn (by show 2 < 4; decide) ?_⟩)))))))
  refine go_seq (go_for (go_wR1 (go_cons (go_var (i := 1) rfl (go_nil ⟨k, rfl, by omega, by omega, fun K hK => ?_⟩)))))
  refine ⟨_, hK, fun i ls s => ∃ x, ls = [some (enP p), some (.int k), some (enQ (r ^ i)), x], ⟨none, by rw [Rat.pow_zero]; rfl⟩, ?_, ?_⟩
  · rintro i ls s hi ⟨x, rfl⟩
    rw [rngD_len] at hi
    refine go_gn (by show 3 < 4; decide) (go_asg (go_call (go_cons (go_var (i := 2) rfl (go_cons (go_var (i := 0) rfl (go_nil ?_)))))))
    have b : n * i ≤ n * 200 := Nat.mul_le_mul_left _ (by omega)
    exact hf.2 _ _ _ _ _ _ _ _ (RatV.q (hs.pow i)) hd (by omega) (go_gn (by show 2 < 4; decide) ⟨_, by rw [Rat.pow_succ]; rfl⟩)
  · rintro ls s ⟨x, rfl⟩
    rw [rngD_len]
    exact go_ret (go_var (i := 2) rfl ⟨_, rfl, rfl⟩)
abbrev bTotal (f : FC) : FC := frame1 fun ds st => fnOf (sSeq (sAsg (eTup (aCons (eC (.int 0)) (aCons (eC (.int 1)) aNil))) (gN 1))
  (sSeq (sFor (wSeq (eVar 0)) (gN 2) (sAsg (eCall f (aCons (eVar 1) (aCons (eVar 2) aNil))) (gN 1)))
  (sRet (eVar 1)))) 3 ds st
/-! ### sums -/
def sumR (l : List Rat) : Rat := l.foldl (· + ·) 0
theorem foldl_add (l : List Rat) (a : Rat) : l.foldl (· + ·) a = a + sumR l := by
  unfold sumR
  induction l generalizing a with
  | nil => simp only [List.foldl_nil]; grind
  | cons x l ih =>
    rw [List.foldl_cons, ih, List.foldl_cons, ih (0 + x)]
    grind
theorem sumR_cons (x : Rat) (l : List Rat) : sumR (x :: l) = x + sumR l := by
  unfold sumR
  rw [List.foldl_cons, foldl_add]
  unfold sumR
  grind
theorem sumR_nil : sumR [] = 0 := rfl
theorem sumR_append (a b : List Rat) : sumR (a ++ b) = sumR a + sumR b := by
  induction a with
  | nil => rw [List.nil_append, sumR_nil]; grind
  | cons x a ih => rw [List.cons_append, sumR_cons, sumR_cons, ih]; grind
theorem SmQ.zero {n : Nat} (h : 0 < n := by omega) : SmQ n 0 := ⟨by show 0 < 2 ^ n; exact Nat.two_pow_pos n, by show 1 < 2 ^ n; exact Nat.one_lt_two_pow (by omega)⟩
theorem SmQ.one {n : Nat} (h : 0 < n := by omega) : SmQ n 1 := ⟨by show 1 < 2 ^ n; exact Nat.one_lt_two_pow (by omega), by show 1 < 2 ^ n; exact Nat.one_lt_two_pow (by omega)⟩
theorem sumR_sm {n : Nat} : ∀ {l : List Rat}, (∀ x ∈ l, SmQ n x) → SmQ (1 + l.length * (n + 1)) (sumR l)
  | [], _ => SmQ.zero
  | x :: l, h => by
    rw [sumR_cons]
    have a := h x (List.mem_cons_self ..)
    have b := sumR_sm fun y hy => h y (List.mem_cons_of_mem x hy)
    refine (a.add b).mono ?_
    rw [List.length_cons, Nat.add_mul]
    omega
theorem less_enQ {n : Nat} : ∀ l : List Rat, lessLB n (l.map enQ) = true
  | [] => rfl
  | x :: l => by
    have := less_enQ (n := n) l
    simp [lessLB, lessB, enQ] at this ⊢
    exact this
theorem go_total {f : FC} (hf : OpF 1 f (· + ·)) {l : List Rat} {n : Nat} (hp : ∀ p ∈ l, SmQ n p) (hn : 1 + l.length * (n + 1) + n ≤ 7000) (h : P (enQ (sumR l)) st) : Go (bTotal f [.cst (l.map enQ)] st) P := by
  refine go_fr (by show (lessLB 0 (l.map enQ) && true) = true; rw [less_enQ]; rfl) (go_fn ?_) rfl h
  show Go (sSeq _ _ [some (.cst (l.map enQ)), none, none] []) _
  refine go_seq (go_asg (go_tup (go_cons (go_c (go_cons (go_c (go_nil ⟨by show 2 ≤ sizeLine; decide, go_gn (by show 1 < 3; decide) ?_⟩)))))))
  refine go_seq (go_forF (β := Rat) l enQ (· + ·) 0 (fun s x => [some (.cst (l.map enQ)), some (enQ s), x]) (fun _ => []) none rfl rfl (go_wSeqC (go_var (i := 0) rfl ⟨_, rfl, fun k hk => ⟨rfl, hk⟩⟩)) (fun i hi x => ?_) fun x => ?_)
  · refine go_gn (by show 2 < 3; decide) (go_asg (go_call (go_cons (go_var (i := 1) rfl (go_cons (go_var (i := 2) rfl (go_nil ?_)))))))
    have a := sumR_sm (n := n) (l := l.take i) fun y hy => hp y (List.mem_of_mem_take hy)
    have b : (l.take i).length * (n + 1) ≤ l.length * (n + 1) := Nat.mul_le_mul_right _ (by rw [List.length_take]; omega)
    exact hf.2 _ _ _ _ _ _ _ _ (RatV.q a) (RatV.q (hp _ (List.getElem_mem hi))) (by omega) (go_gn (by show 1 < 3; decide) ⟨rfl, rfl, _, rfl⟩)
  · exact go_ret (go_var (i := 1) rfl ⟨_, rfl, rfl⟩)
end
end R

namespace R
open PySem L2
section
variable {P : Dv → Sto → Prop} {PG' : Ls → Sto → Prop} {st : Sto} {ls : Ls} {n : Nat} {ds : List Dv} {d : Dv}
theorem lstAt_lst (h : st[n]? = some (.lst ds)) : lstAt st n = some ds := by unfold lstAt; rw [h]
theorem go_ixL {k : Int} (h : st[n]? = some (.lst ds)) (e : atI ds k = some d) (q : P d st) : Go (opIx (.ref n) (.int k) st) P := by
  have e1 : opIx (.ref n) (.int k) st = rOk d st := by
    show (match asL st (.ref n) with | some ds => (match atI ds k with | some d => rOk d st | none => none) | none => none) = _
    rw [show asL st (.ref n) = some ds from lstAt_lst h]
    show (match atI ds k with | some d => rOk d st | none => none) = _
    rw [e]
  rw [e1]; exact Go.ok q
theorem go_ixT {k : Int} (e : atI ds k = some d) (q : P d st) : Go (opIx (.tup ds) (.int k) st) P := by
  have e1 : opIx (.tup ds) (.int k) st = rOk d st := by
    show (match atI ds k with | some d => rOk d st | none => none) = _
    rw [e]
  rw [e1]; exact Go.ok q
theorem go_gsub {fo fi : SE} {k : Int} {j : Nat} (h : Go (fo ls st) fun x st1 => Go (fi ls st1) fun y st2 => x = .ref n ∧ y = .int k ∧ st2[n]? = some (.lst ds) ∧ ixN ds.length k = some j ∧ PG' ls (st2.set n (.lst (ds.set j d)))) : Go (gSub fo fi d ls st) PG' := Go.bind (h.mono fun x st1 q => Go.bind (q.mono fun y st2 ⟨e1, e2, h1, h2, q'⟩ => by
  subst e1 e2
  have e3 : setL n k d st2 = some (st2.set n (.lst (ds.set j d))) := by
    unfold setL
    rw [h1]
    show (match ixN ds.length k with | some j => some (st2.set n (.lst (ds.set j d))) | none => none) = _
    rw [h2]
  show Go (match setL n k d st2 with | some st3 => rOk ls st3 | none => none) _
  rw [e3]
  exact Go.ok q'))
end
abbrev cRoll : SS := (sSeq (sIf (bOr (bB (eOp opEq (eOp opIx (eVar 0) (eC (.int 2))) (eC (.int 2)))) (bAnd (bB (eOp opEq (eOp opIx (eVar 0) (eC (.int 2))) (eC (.int 1)))) (bB (eOp opGt (eOp opIx (eVar 0) (eC (.int 0))) (eC (.int 0)))))) (sSeq (sAsg (eOp opMod (eCall fcInt (aCons (eOp opIx (eVar 0) (eC (.int 0))) aNil)) (eVar 1)) (gN 2))
  (sSeq (sAsg (eOp opDiv (eOp opIx (eVar 0) (eC (.int 0))) (eVar 1)) (gSub (eVar 0) (eC (.int 0))))
  (sRet (eVar 2)))) sNil)
  (sSeq (sAsg (eC (.int 0)) (gSub (eVar 0) (eC (.int 2))))
  (sSeq (sIf (bB (eOp opGt (eVar 1) (eC (.int 100000000)))) (sRet (eOp opMod (eCall fcInt (aCons (eOp opAdd (eOp opMul (eCall (fun _ _ => none) (aCons (eVar 0) (aCons (eOp opAdd (eOp opDiv (eVar 1) (eC (.int 100000000))) (eC (.int 1))) aNil))) (eC (.int 100000000))) (eCall (fun _ _ => none) (aCons (eVar 0) (aCons (eC (.int 100000000)) aNil)))) aNil)) (eVar 1))) sNil)
  (sSeq (sAsg (eOp opMod (eCall fcInt (aCons (eOp opAdd (eOp opAdd (eOp opMul (eOp opIx (eVar 0) (eC (.int 0))) (eC (.int 48271))) (eOp opMul (eOp opIx (eVar 0) (eC (.int 1))) (eC (.int 69621)))) (eC (.int 11))) aNil)) (eC (.int 2147483647))) (gSub (eVar 0) (eC (.int 0))))
  (sSeq (sAsg (eOp opAdd (eOp opIx (eVar 0) (eC (.int 1))) (eC (.int 1))) (gSub (eVar 0) (eC (.int 1))))
  (sRet (eOp opMod (eCall fcInt (aCons (eOp opDiv (eOp opIx (eVar 0) (eC (.int 0))) (eC (.int 7))) aNil)) (eVar 1))))))))
/-- dice that may be rolled m times more -/
def Die (m : Nat) (o : Ob) : Prop := ∃ (x y z : Int) (B : Nat), o = .lst [.int x, .int y, .int z] ∧ B ≤ 1048600 ∧ x.natAbs < 2 ^ B ∧ y.natAbs + m < 2 ^ 60
theorem Die.less {m m' : Nat} {o : Ob} (h : Die m o) (e : m' ≤ m) : Die m' o := let ⟨x, y, z, B, a, b, c, d⟩ := h; ⟨x, y, z, B, a, b, c, by omega⟩
theorem div_small {x m : Int} (hm : 0 < m) : (x / m).natAbs ≤ x.natAbs := Int.natAbs_ediv_le_natAbs x m
theorem set_get {st : Sto} {i : Nat} {o o' : Ob} (h : st[i]? = some o) : (st.set i o')[i]? = some o' := by
  have := (List.getElem?_eq_some_iff.mp h).1
  simp [this]
theorem go_roll {i m : Nat} {many : Int} {st : Sto} {o : Ob} {P : Dv → Sto → Prop} (h : st[i]? = some o) (D : Die (m + 1) o) (hm : 0 < many) (h8 : many ≤ 100000000)
    (q : ∀ r o', 0 ≤ r → r < many → Die m o' → P (.int r) (st.set i o')) : Go (fnOf cRoll 3 [.ref i, .int many] st) P := by
  obtain ⟨x, y, z, B, rfl, hB, hx, hy⟩ := D
  refine go_fn ?_
  show Go (cRoll [some (.ref i), some (.int many), none] st) _
  have cd : CDivW x many := ⟨hm, by
    have : many.natAbs < 2 ^ 30 := by omega
    have := PySem.Flt.log2_lt_of (by decide) this
    omega⟩
  have second : Go (sSeq (sAsg (eOp opMod (eCall fcInt (aCons (eOp opIx (eVar 0) (eC (.int 0))) aNil)) (eVar 1)) (gN 2)) (sSeq (sAsg (eOp opDiv (eOp opIx (eVar 0) (eC (.int 0))) (eVar 1)) (gSub (eVar 0) (eC (.int 0)))) (sRet (eVar 2))) [some (.ref i), some (.int many), none] st) fun r s => ∃ d, r.1 = .rt d ∧ P d s := by
    refine go_seq (go_asg (go_op (go_call (go_cons (go_op (go_var (i := 0) rfl (go_c (go_ixL h rfl (go_nil (go_int ?_))))))))))
    refine go_var (i := 1) rfl (go_mod hm (go_gn (by show 2 < 3; decide) ?_))
    refine go_seq (go_asg (go_op (go_op (go_var (i := 0) rfl (go_c (go_ixL h rfl (go_var (i := 1) rfl (go_div cd ?_))))))))
    refine go_gsub (go_var (i := 0) rfl (go_c ⟨rfl, rfl, h, rfl, ?_⟩))
    refine go_ret (go_var (i := 2) rfl ⟨_, rfl, ?_⟩)
    exact q _ _ (Int.emod_nonneg _ (by omega)) (Int.emod_lt_of_pos _ hm) ⟨x / many, y, z, B, rfl, hB, Nat.lt_of_le_of_lt (div_small hm) hx, by omega⟩
  have third : Go ((sSeq (sAsg (eC (.int 0)) (gSub (eVar 0) (eC (.int 2))))
  (sSeq (sIf (bB (eOp opGt (eVar 1) (eC (.int 100000000)))) (sRet (eOp opMod (eCall fcInt (aCons (eOp opAdd (eOp opMul (eCall (fun _ _ => none) (aCons (eVar 0) (aCons (eOp opAdd (eOp opDiv (eVar 1) (eC (.int 100000000))) (eC (.int 1))) aNil))) (eC (.int 100000000))) (eCall (fun _ _ => none) (aCons (eVar 0) (aCons (eC (.int 100000000)) aNil)))) aNil)) (eVar 1))) sNil)
  (sSeq (sAsg (eOp opMod (eCall fcInt (aCons (eOp opAdd (eOp opAdd (eOp opMul (eOp opIx (eVar 0) (eC (.int 0))) (eC (.int 48271))) (eOp opMul (eOp opIx (eVar 0) (eC (.int 1))) (eC (.int 69621)))) (eC (.int 11))) aNil)) (eC (.int 2147483647))) (gSub (eVar 0) (eC (.int 0))))
  (sSeq (sAsg (eOp opAdd (eOp opIx (eVar 0) (eC (.int 1))) (eC (.int 1))) (gSub (eVar 0) (eC (.int 1))))
  (sRet (eOp opMod (eCall fcInt (aCons (eOp opDiv (eOp opIx (eVar 0) (eC (.int 0))) (eC (.int 7))) aNil)) (eVar 1))))))) [some (.ref i), some (.int many), none] st) fun r s => ∃ d, r.1 = .rt d ∧ P d s := by
    refine go_seq (go_asg (go_c (go_gsub (go_var (i := 0) rfl (go_c ⟨rfl, rfl, h, rfl, ?_⟩)))))
    have h1 := set_get (o' := .lst [.int x, .int y, .int 0]) h
    refine go_seq (go_sif (go_bB (go_op (go_var (i := 1) rfl (go_c (go_gt ⟨_, rfl, ?_⟩))))))
    rw [decide_eq_false (by omega)]
    refine go_snil ?_
    refine go_seq (go_asg ?_)
    repeat (first | with_reducible refine go_op ?_ | with_reducible refine go_call ?_ | with_reducible refine go_cons ?_ | with_reducible refine go_nil ?_ | with_reducible refine go_var (by with_unfolding_all exact rfl) ?_ | with_reducible refine go_c ?_ | with_reducible refine go_int ?_ | with_reducible refine go_add ?_ | with_reducible refine go_sub ?_)
    show Go _ _
    refine go_ixL h1 rfl ?_
    repeat (first | with_reducible refine go_op ?_ | with_reducible refine go_call ?_ | with_reducible refine go_cons ?_ | with_reducible refine go_nil ?_ | with_reducible refine go_var (by with_unfolding_all exact rfl) ?_ | with_reducible refine go_c ?_ | with_reducible refine go_int ?_ | with_reducible refine go_add ?_ | with_reducible refine go_sub ?_)
    show Go _ _
    refine go_mul (mulx_w B 17 hx (by decide) (by omega)) ?_
    repeat (first | with_reducible refine go_op ?_ | with_reducible refine go_call ?_ | with_reducible refine go_cons ?_ | with_reducible refine go_nil ?_ | with_reducible refine go_var (by with_unfolding_all exact rfl) ?_ | with_reducible refine go_c ?_ | with_reducible refine go_int ?_ | with_reducible refine go_add ?_ | with_reducible refine go_sub ?_)
    show Go _ _
    refine go_ixL h1 rfl ?_
    repeat (first | with_reducible refine go_op ?_ | with_reducible refine go_call ?_ | with_reducible refine go_cons ?_ | with_reducible refine go_nil ?_ | with_reducible refine go_var (by with_unfolding_all exact rfl) ?_ | with_reducible refine go_c ?_ | with_reducible refine go_int ?_ | with_reducible refine go_add ?_ | with_reducible refine go_sub ?_)
    show Go _ _
    refine go_mul (mulx_w 60 17 (by omega) (by decide) (by decide)) ?_
    repeat (first | with_reducible refine go_op ?_ | with_reducible refine go_call ?_ | with_reducible refine go_cons ?_ | with_reducible refine go_nil ?_ | with_reducible refine go_var (by with_unfolding_all exact rfl) ?_ | with_reducible refine go_c ?_ | with_reducible refine go_int ?_ | with_reducible refine go_add ?_ | with_reducible refine go_sub ?_)
    show Go _ _
    refine go_mod (by omega) ?_
    refine go_gsub (go_var (i := 0) rfl (go_c ⟨rfl, rfl, h1, rfl, ?_⟩))
    generalize hx' : (x * 48271 + y * 69621 + 11) % 2147483647 = x'
    have b1 : 0 ≤ x' := by rw [← hx']; exact Int.emod_nonneg _ (by omega)
    have b2 : x' < 2147483647 := by rw [← hx']; exact Int.emod_lt_of_pos _ (by omega)
    have h2 := set_get (o' := .lst [.int x', .int y, .int 0]) h1
    refine go_seq (go_asg ?_)
    repeat (first | with_reducible refine go_op ?_ | with_reducible refine go_call ?_ | with_reducible refine go_cons ?_ | with_reducible refine go_nil ?_ | with_reducible refine go_var (by with_unfolding_all exact rfl) ?_ | with_reducible refine go_c ?_ | with_reducible refine go_int ?_ | with_reducible refine go_add ?_ | with_reducible refine go_sub ?_)
    show Go _ _
    refine go_ixL h2 rfl ?_
    repeat (first | with_reducible refine go_op ?_ | with_reducible refine go_call ?_ | with_reducible refine go_cons ?_ | with_reducible refine go_nil ?_ | with_reducible refine go_var (by with_unfolding_all exact rfl) ?_ | with_reducible refine go_c ?_ | with_reducible refine go_int ?_ | with_reducible refine go_add ?_ | with_reducible refine go_sub ?_)
    show Go _ _
    refine go_gsub (go_var (i := 0) rfl (go_c ⟨rfl, rfl, h2, rfl, ?_⟩))
    have h3 := set_get (o' := .lst [.int x', .int (y + 1), .int 0]) h2
    refine go_ret ?_
    repeat (first | with_reducible refine go_op ?_ | with_reducible refine go_call ?_ | with_reducible refine go_cons ?_ | with_reducible refine go_nil ?_ | with_reducible refine go_var (by with_unfolding_all exact rfl) ?_ | with_reducible refine go_c ?_ | with_reducible refine go_int ?_ | with_reducible refine go_add ?_ | with_reducible refine go_sub ?_)
    show Go _ _
    refine go_ixL h3 rfl ?_
    repeat (first | with_reducible refine go_op ?_ | with_reducible refine go_call ?_ | with_reducible refine go_cons ?_ | with_reducible refine go_nil ?_ | with_reducible refine go_var (by with_unfolding_all exact rfl) ?_ | with_reducible refine go_c ?_ | with_reducible refine go_int ?_ | with_reducible refine go_add ?_ | with_reducible refine go_sub ?_)
    show Go _ _
    refine go_div ⟨by decide, by decide⟩ ?_
    repeat (first | with_reducible refine go_op ?_ | with_reducible refine go_call ?_ | with_reducible refine go_cons ?_ | with_reducible refine go_nil ?_ | with_reducible refine go_var (by with_unfolding_all exact rfl) ?_ | with_reducible refine go_c ?_ | with_reducible refine go_int ?_ | with_reducible refine go_add ?_ | with_reducible refine go_sub ?_)
    show Go _ _
    refine go_mod hm ⟨_, rfl, ?_⟩
    have e : ((st.set i (.lst [.int x, .int y, .int 0])).set i (.lst [.int x', .int y, .int 0])).set i (.lst [.int x', .int (y + 1), .int 0]) = st.set i (.lst [.int x', .int (y + 1), .int 0]) := by rw [List.set_set, List.set_set]
    show P _ (((st.set i (.lst [.int x, .int y, .int 0])).set i (.lst [.int x', .int y, .int 0])).set i (.lst [.int x', .int (y + 1), .int 0]))
    rw [e]
    refine q _ _ (Int.emod_nonneg _ (by omega)) (Int.emod_lt_of_pos _ hm) ⟨x', y + 1, 0, 31, rfl, by decide, by omega, by omega⟩
  refine go_seq (go_sif (go_or (go_bB ?_)))
  repeat (first | with_reducible refine go_op ?_ | with_reducible refine go_call ?_ | with_reducible refine go_cons ?_ | with_reducible refine go_nil ?_ | with_reducible refine go_var (by with_unfolding_all exact rfl) ?_ | with_reducible refine go_c ?_ | with_reducible refine go_int ?_ | with_reducible refine go_add ?_ | with_reducible refine go_sub ?_)
  show Go _ _
  refine go_ixL h rfl ?_
  repeat (first | with_reducible refine go_op ?_ | with_reducible refine go_call ?_ | with_reducible refine go_cons ?_ | with_reducible refine go_nil ?_ | with_reducible refine go_var (by with_unfolding_all exact rfl) ?_ | with_reducible refine go_c ?_ | with_reducible refine go_int ?_ | with_reducible refine go_add ?_ | with_reducible refine go_sub ?_)
  show Go _ _
  refine go_eqI ⟨_, rfl, ?_⟩
  have yes : ∀ {G2 : SS}, Go ((sSeq (sAsg (eOp opMod (eCall fcInt (aCons (eOp opIx (eVar 0) (eC (.int 0))) aNil)) (eVar 1)) (gN 2)) (sSeq (sAsg (eOp opDiv (eOp opIx (eVar 0) (eC (.int 0))) (eVar 1)) (gSub (eVar 0) (eC (.int 0)))) (sRet (eVar 2)))) [some (.ref i), some (.int many), none] st) (fun r st1 => match r.1 with
      | .nx => Go (G2 r.2 st1) fun r s => ∃ d, r.1 = .rt d ∧ P d s
      | _ => ∃ d, r.1 = .rt d ∧ P d st1) := fun {G2} => second.mono fun r s ⟨d, e, w⟩ => by
    obtain ⟨r1, r2⟩ := r
    have e : r1 = .rt d := e
    subst e
    exact ⟨d, rfl, w⟩
  refine go_iff (fun _ => Go.ok ?_) fun _ => ?_
  · rw [if_pos rfl]; exact yes
  · refine go_and (go_bB ?_)
    repeat (first | with_reducible refine go_op ?_ | with_reducible refine go_call ?_ | with_reducible refine go_cons ?_ | with_reducible refine go_nil ?_ | with_reducible refine go_var (by with_unfolding_all exact rfl) ?_ | with_reducible refine go_c ?_ | with_reducible refine go_int ?_ | with_reducible refine go_add ?_ | with_reducible refine go_sub ?_)
    show Go _ _
    refine go_ixL h rfl ?_
    refine go_c ?_
    refine go_eqI ⟨_, rfl, ?_⟩
    refine go_iff (fun _ => ?_) fun _ => Go.ok ?_
    · refine go_bB ?_
      repeat (first | with_reducible refine go_op ?_ | with_reducible refine go_call ?_ | with_reducible refine go_cons ?_ | with_reducible refine go_nil ?_ | with_reducible refine go_var (by with_unfolding_all exact rfl) ?_ | with_reducible refine go_c ?_ | with_reducible refine go_int ?_ | with_reducible refine go_add ?_ | with_reducible refine go_sub ?_)
      show Go _ _
      refine go_ixL h rfl ?_
      refine go_c ?_
      refine go_gt ⟨_, rfl, ?_⟩
      exact go_iff (fun _ => yes) fun _ => go_snil third
    · rw [if_neg Bool.false_ne_true]; exact go_snil third

theorem get_more {s os : Sto} {j : Nat} {o : Ob} (h : s[j]? = some o) : (s ++ os)[j]? = some o := by rw [List.getElem?_append_left (List.getElem?_eq_some_iff.mp h).1]; exact h
theorem get_last {st : Sto} {o : Ob} : (st ++ [o])[st.length]? = some o := by simp
/-- dice at i that may be rolled m times more -/
def Tb (i m : Nat) (s : Sto) : Prop := ∃ o, s[i]? = some o ∧ Die m o
theorem Tb.more {i m : Nat} {s : Sto} (h : Tb i m s) (os : Sto) : Tb i m (s ++ os) := let ⟨o, h1, h2⟩ := h; ⟨o, get_more h1, h2⟩
theorem Tb.less {i m m' : Nat} {s : Sto} (h : Tb i m s) (e : m' ≤ m) : Tb i m' s := let ⟨o, h1, h2⟩ := h; ⟨o, h1, h2.less e⟩
/-- only the dice have changed -/
def But (i : Nat) (s s' : Sto) : Prop := s'.length = s.length ∧ ∀ j, j ≠ i → s'[j]? = s[j]?
theorem But.refl (i : Nat) (s : Sto) : But i s s := ⟨rfl, fun _ _ => rfl⟩
theorem But.trans {i : Nat} {a b c : Sto} (h : But i a b) (k : But i b c) : But i a c := ⟨k.1.trans h.1, fun j hj => (k.2 j hj).trans (h.2 j hj)⟩
theorem But.get {i j : Nat} {s s' : Sto} {o : Ob} (b : But i s s') (h : s[j]? = some o) (hj : j ≠ i) : s'[j]? = some o := (b.2 j hj).trans h
theorem go_rollT {i m : Nat} {many : Int} {s : Sto} {P : Dv → Sto → Prop} (T : Tb i (m + 1) s) (hm : 0 < many) (h8 : many ≤ 100000000)
    (q : ∀ r s', 0 ≤ r → r < many → Tb i m s' → But i s s' → P (.int r) s') : Go (fnOf cRoll 3 [.ref i, .int many] s) P := by
  obtain ⟨o, h1, h2⟩ := T
  refine go_roll h1 h2 hm h8 fun r o' r0 r1 d => q r _ r0 r1 ⟨o', set_get h1, d⟩ ⟨List.length_set, fun j hj => ?_⟩
  rw [List.getElem?_set_ne (fun e => hj e.symm)]
theorem bits_lt {z : Int} {B : Nat} (h : Builtin.Int.intBits z ≤ B) : z.natAbs < 2 ^ B := by
  unfold Builtin.Int.intBits at h
  by_cases c : z = 0
  · subst c; exact Nat.two_pow_pos B
  · rw [if_neg (by simpa using c)] at h
    exact Nat.lt_of_lt_of_le (Nat.lt_log2_self) (Nat.pow_le_pow_right (by decide) h)
section
variable {P : Dv → Sto → Prop} {ls : Ls} {st : Sto}
theorem go_sl {fa : SE} {fl fh : SP'} (h : Go (fa ls st) fun x s => Go (fl ls s) fun lo s => Go (fh ls s) fun hi s => Go (sliceD x lo hi s) P) : Go (eSl fa fl fh ls st) P := Go.bind (h.mono fun _ _ q => Go.bind (q.mono fun _ _ q => Go.bind q))
theorem go_slC {ds : List Dv} {x : Dv} {lo hi : Option Int} (e : asL st x = some ds) (h : P (.cst (cutD ds lo hi)) st) : Go (sliceD x lo hi st) P := by
  cases x with
  | ref n => exact (show Go (match asL st (.ref n) with | some ds => rOk (.cst (cutD ds lo hi)) st | none => none) P by rw [e]; exact Go.ok h)
  | cst xs => exact (show Go (match asL st (.cst xs) with | some ds => rOk (.cst (cutD ds lo hi)) st | none => none) P by rw [e]; exact Go.ok h)
  | wri xs => exact (show Go (match asL st (.wri xs) with | some ds => rOk (.cst (cutD ds lo hi)) st | none => none) P by rw [e]; exact Go.ok h)
  | _ => cases e
theorem go_slT {ds : List Dv} {lo hi : Option Int} (h : P (.tup (cutD ds lo hi)) st) : Go (sliceD (.tup ds) lo hi st) P := Go.ok h
theorem go_pno {P : Option Int → Sto → Prop} (h : P none st) : Go (pNo ls st) P := Go.ok h
theorem go_pat {fa : SE} {P : Option Int → Sto → Prop} (h : Go (fa ls st) fun x s => ∃ i, x = .int i ∧ P (some i) s) : Go (pAt fa ls st) P := Go.bind (h.mono fun x s ⟨i, e, q⟩ => by
  subst e
  exact Go.ok q)
theorem cut_to {ds : List Dv} {d : Nat} : cutD ds none (some (d : Int)) = ds.take d := by
  unfold cutD
  rw [HT.sIx_none, HT.sIx_nat, List.drop_zero, Nat.sub_zero, ← List.take_take, List.take_length]
/-! equals -/
def Plain (st : Sto) (x : Dv) (a : PyData) : Prop := toP deepN st x = some a ∧ SeqAt.shaped a = true
theorem go_eqD {x y : Dv} {a b : PyData} (hx : Plain st x a) (hy : Plain st y b) (h : P (.bl (PyData.eqv a b)) st) : Go (opEq x y st) P := by
  have e : eqP x y st = some (PyData.eqv a b) := by unfold eqP; rw [hx.1, hy.1]; exact if_pos ⟨hx.2, hy.2⟩
  unfold opEq; rw [e]; exact Go.ok h
theorem go_neD {x y : Dv} {a b : PyData} (hx : Plain st x a) (hy : Plain st y b) (h : P (.bl (!PyData.eqv a b)) st) : Go (opNe x y st) P := by
  have e : eqP x y st = some (PyData.eqv a b) := by unfold eqP; rw [hx.1, hy.1]; exact if_pos ⟨hx.2, hy.2⟩
  unfold opNe; rw [e]; exact Go.ok h
end
abbrev cDice : SS := (sSeq (sIf (bB (eChain opLt opLt (eOp opSub (eC (.int 0)) (eC (.int 10))) (eVar 0) (eC (.int 10)))) (sRet (eLst (aCons (eCall fcAbs (aCons (eVar 0) aNil)) (aCons (eC (.int 0)) (aCons (eC (.int 2)) aNil))))) sNil)
  (sRet (eLst (aCons (eVar 0) (aCons (eOp opAdd (eC (.int 1)) (eOp opMod (eCall fcInt (aCons (eVar 0) aNil)) (eC (.int 1009)))) (aCons (eCall fcInt (aCons (eOp opGe (eVar 0) (eOp opPow (eC (.int 10)) (eC (.int 18)))) aNil)) aNil))))))
abbrev budget : Nat := 1000000000
theorem go_dice {z : Int} {B : Nat} {st : Sto} {P : Dv → Sto → Prop} (hz : z.natAbs < 2 ^ B) (hB : B ≤ 1048600) (h : ∀ o, Die budget o → P (.ref st.length) (st ++ [o])) : Go (fnOf cDice 1 [.int z] st) P := by
  refine go_fn ?_
  show Go (cDice [some (.int z)] st) _
  have big : Go (sRet (eLst (aCons (eVar 0) (aCons (eOp opAdd (eC (.int 1)) (eOp opMod (eCall fcInt (aCons (eVar 0) aNil)) (eC (.int 1009)))) (aCons (eCall fcInt (aCons (eOp opGe (eVar 0) (eOp opPow (eC (.int 10)) (eC (.int 18)))) aNil)) aNil)))) [some (.int z)] st) fun r s => ∃ d, r.1 = .rt d ∧ P d s := by
    refine go_ret <| go_lst <| go_cons <| go_var (i := 0) rfl <| go_cons <| go_op <| go_c <| go_op <| go_call <| go_cons <| go_var (i := 0) rfl <| go_nil <| go_int <| go_c <| go_mod (by decide) <| go_add <| go_cons <| go_call <| go_cons <| go_op <| go_var (i := 0) rfl <| go_op <| go_c <| go_c <| go_I (C := CPow) (by decide) <| go_ge <| go_nil <| go_intB <| go_nil ⟨by show 3 ≤ sizeLine; decide, _, rfl, h _ ⟨z, _, _, B, rfl, hB, hz, by show _ + 1000000000 < _; omega⟩⟩
  refine go_seq <| go_sif <| go_bB <| go_chain <| go_op <| go_c <| go_c <| go_sub <| go_var (i := 0) rfl <| go_lt ⟨_, rfl, ?_⟩
  by_cases c1 : 0 - 10 < z
  · rw [decide_eq_true c1, if_pos rfl]
    refine go_c <| go_lt ⟨_, rfl, go_ifP (fun c2 => ?_) fun c2 => go_snil big⟩
    refine go_ret <| go_lst <| go_cons <| go_call <| go_cons <| go_var (i := 0) rfl <| go_nil <| go_abs <| go_cons <| go_c <| go_cons <| go_c <| go_nil ⟨by show 3 ≤ sizeLine; decide, _, rfl, h _ ⟨_, 0, 2, 4, rfl, by decide, ?_, by decide⟩⟩
    rw [abs_cast]
    omega
  · rw [decide_eq_false c1, if_neg Bool.false_ne_true]
    exact ⟨_, rfl, go_snil big⟩
abbrev cRounds (md : FC) : SS := (sSeq (sAsg (eSl (eVar 0) pNo (pAt (eVar 1))) (gN 2))
  (sSeq (sIf (bB (eOp opEq (eVar 2) (eCst aNil))) (sAsg (eCst (aCons (eC (.int 0)) aNil)) (gN 2)) sNil)
  (sRet (eLc (wSeq (eVar 2)) (nxG (gN 3)) (nxB bYes) (nxE (eCall md (aCons (eVar 3) aNil))) [3]))))
theorem plain_cints {st : Sto} {xs : List Int} (h : xs.length ≤ 3) : Plain st (.cst (xs.map .int)) (.list (xs.map .int)) := by
  match xs, h with
  | [], _ => exact ⟨rfl, by simp [SeqAt.shaped, PyData.canLay0, PyData.canLayAll0, PyData.depth, PyData.depthAll]⟩
  | [a], _ => exact ⟨rfl, by simp [SeqAt.shaped, PyData.canLay0, PyData.canLayAll0, PyData.depth, PyData.depthAll]⟩
  | [a, b], _ => exact ⟨rfl, by simp [SeqAt.shaped, PyData.canLay0, PyData.canLayAll0, PyData.depth, PyData.depthAll]⟩
  | [a, b, c], _ => exact ⟨rfl, by simp [SeqAt.shaped, PyData.canLay0, PyData.canLayAll0, PyData.depth, PyData.depthAll]⟩
theorem go_rounds {X : Dv} {st : Sto} {ns : List Int} {P : Dv → Sto → Prop} (hb : ∀ z ∈ ns, Builtin.Int.intBits z ≤ 1048576) (hX : asL st X = some (ns.map .int))
    (h : ∀ i s, Tb i budget s → P (.cst [.ref i]) s) : Go (fnOf (cRounds (fnOf cDice 1)) 4 [X, .int 1] st) P := by
  refine go_fn ?_
  show Go (cRounds _ [some X, some (.int 1), none, none] st) _
  generalize hB : 1048576 = B at hb
  have hB : B ≤ 1048600 := by omega
  refine go_seq <| go_asg <| go_sl <| go_var (i := 0) rfl <| go_pno <| go_pat <| go_var (i := 1) rfl ⟨1, rfl, go_slC hX <| go_gn (by show 2 < 4; decide) ?_⟩
  rw [show (some (1 : Int)) = some ((1 : Nat) : Int) from rfl, cut_to]
  have last : ∀ (z : Int) (s : Sto), z.natAbs < 2 ^ B → Go (sRet (eLc (wSeq (eVar 2)) (nxG (gN 3)) (nxB bYes) (nxE (eCall (fnOf cDice 1) (aCons (eVar 3) aNil))) [3]) [some X, some (.int 1), some (.cst [.int z]), none] s) fun r s => ∃ d, r.1 = .rt d ∧ P d s := fun z s hz => by
    refine go_ret <| go_lc <| go_wSeqC <| go_var (i := 2) rfl ⟨_, rfl, fun k hk => ⟨_, hk, fun j acc s' => (j = 0 ∧ acc = []) ∨ (j = 1 ∧ ∃ i, acc = [.ref i] ∧ Tb i budget s'), .inl ⟨rfl, rfl⟩, ?_, ?_⟩⟩
    · rintro j acc s' hj (⟨rfl, rfl⟩ | ⟨rfl, _⟩)
      · refine go_gn (by show 3 < 4; decide) ⟨true, _, rfl, ?_⟩
        refine go_call <| go_cons <| go_var (i := 3) rfl <| go_nil <| go_dice hz hB fun o D => ⟨by decide, .inr ⟨rfl, _, rfl, o, get_last, D⟩⟩
      · exact absurd hj (by show ¬ 1 < 1; decide)
    · rintro acc s' (⟨e, _⟩ | ⟨_, i, rfl, T⟩)
      · cases e
      · exact go_finC ⟨_, rfl, h _ _ T⟩
  cases ns with
  | nil =>
    refine go_seq <| go_sif <| go_bB <| go_op <| go_var (i := 2) rfl <| go_cst <| go_nil ⟨by decide, go_eqD (plain_cints (xs := []) (by decide)) (plain_cints (xs := []) (by decide)) ⟨_, rfl, ?_⟩⟩
    exact go_asg <| go_cst <| go_cons <| go_c <| go_nil ⟨by decide, go_gn (by show 2 < 4; decide) <| last 0 _ (Nat.two_pow_pos B)⟩
  | cons z ns =>
    refine go_seq <| go_sif <| go_bB <| go_op <| go_var (i := 2) rfl <| go_cst <| go_nil ⟨by decide, go_eqD (plain_cints (xs := [z]) (by show 1 ≤ 3; decide)) (plain_cints (xs := []) (by decide)) ⟨_, rfl, ?_⟩⟩
    exact go_snil <| last z _ (bits_lt (hb z (List.mem_cons_self ..)))
/-- the law: one die, then the plain ones -/
theorem go_lawF {mr : FC} {body : SS} {fe : SE} {ls : Ls} {X : Dv} {st : Sto} {ns : List Int} {P : Dv → Sto → Prop} (hb : ∀ z ∈ ns, Builtin.Int.intBits z ≤ 1048576) (hX : asL st X = some (ns.map .int)) (hmr : mr = fnOf (cRounds (fnOf cDice 1)) 4)
    (h0 : ls[0]? = some (some X)) (h1 : 1 < ls.length) (hbody : ∀ i s, Tb i budget s → Go (body (ls.set 1 (some (.ref i))) s) fun r _ => r.1 = .nx) (hfe : ∀ ls s, Go (fe ls s) P) :
    Go (sSeq (sFor (wSeq (eCall mr (aCons (eVar 0) (aCons (eC (.int 1)) aNil)))) (gN 1) body) (sRet fe) ls st) fun r s => ∃ d, r.1 = .rt d ∧ P d s := by
  subst hmr
  refine go_seq <| go_for <| go_wSeqC <| go_call <| go_cons <| go_var h0 <| go_cons <| go_c <| go_nil <| go_rounds hb hX fun i s T => ⟨_, rfl, fun k hk => ⟨_, hk, fun j ls' s' => j = 0 → ls' = ls ∧ s' = s, fun _ => ⟨rfl, rfl⟩, ?_, fun ls' s' _ => go_ret ((hfe ls' s').mono fun d s q => ⟨d, rfl, q⟩)⟩⟩
  intro j ls' s' hj q
  have hj : j < 1 := hj
  obtain rfl : j = 0 := by omega
  obtain ⟨rfl, rfl⟩ := q rfl
  refine go_gn h1 ((hbody i _ T).mono fun r s e => ?_)
  obtain ⟨r1, r2⟩ := r
  have e : r1 = .nx := e
  subst e
  exact fun h => absurd h (by omega)
/-- True, seen by the kernel -/
def isT (m : Mo Dv) : Bool := match m with
  | some (.ok (.bl true), _) => true
  | _ => false
theorem go_isT {g : FC} {st : Sto} (h : isT (g [] []) = true) : Go (frame1 g [] st) fun d _ => d = .bl true := by
  refine go_fr rfl ?_ rfl rfl
  unfold isT at h
  split at h
  · rename_i s e
    exact ⟨_, s, e, rfl⟩
  · cases h
end R

namespace R
open PySem L2
noncomputable instance dvDec : DecidableEq Dv := fun a b => Classical.propDecidable (a = b)
/-! ### data, n deep -/
mutual
def dat (n : Nat) : Dv → Bool
  | .non => decide (0 < n)
  | .bl _ => decide (0 < n)
  | .int _ => decide (0 < n)
  | .str x => decide (0 < n) && PyData.strOk x
  | .tup ds => decide (0 < n) && datL (n - 1) ds
  | .cst ds => decide (0 < n) && datL (n - 1) ds
  | _ => false
def datL (n : Nat) : List Dv → Bool
  | [] => true
  | d :: ds => dat n d && datL n ds
end
/-- .. without True, False -/
def noBl : Dv → Bool
  | .bl _ => false
  | .tup ds => noBlL ds
  | .cst ds => noBlL ds
  | _ => true
where noBlL : List Dv → Bool
  | [] => true
  | d :: ds => noBl d && noBlL ds
mutual
theorem dat_py {n : Nat} : ∀ {d : Dv}, dat n d = true → ∃ a, (∀ k st, n ≤ k → toP k st d = some a) ∧ PyData.canLay0 a = true ∧ a.depth ≤ n
  | .non, h => ⟨.none, fun k st hk => by
      have : 0 < n := by simpa [dat] using h
      obtain ⟨j, rfl⟩ : ∃ j, k = j + 1 := ⟨k - 1, by omega⟩
      rfl, by simp [PyData.canLay0], by simp [PyData.depth]⟩
  | .bl b, h => ⟨.bool b, fun k st hk => by
      have : 0 < n := by simpa [dat] using h
      obtain ⟨j, rfl⟩ : ∃ j, k = j + 1 := ⟨k - 1, by omega⟩
      rfl, by simp [PyData.canLay0], by simp [PyData.depth]⟩
  | .int i, h => ⟨.int i, fun k st hk => by
      have : 0 < n := by simpa [dat] using h
      obtain ⟨j, rfl⟩ : ∃ j, k = j + 1 := ⟨k - 1, by omega⟩
      rfl, by simp [PyData.canLay0], by simp [PyData.depth]⟩
  | .str x, h => ⟨.str x, fun k st hk => by
      have : 0 < n := by simp [dat] at h; exact h.1
      obtain ⟨j, rfl⟩ : ∃ j, k = j + 1 := ⟨k - 1, by omega⟩
      rfl, by simp [dat] at h; simp [PyData.canLay0, h.2], by simp [PyData.depth]⟩
  | .tup ds, h => by
    have h : (0 < n) ∧ datL (n - 1) ds = true := by simpa [dat] using h
    obtain ⟨as, h1, h2, h3⟩ := datL_py h.2
    refine ⟨.tuple as, fun k st hk => ?_, by simpa [PyData.canLay0] using h2, by simp [PyData.depth]; omega⟩
    obtain ⟨j, rfl⟩ : ∃ j, k = j + 1 := ⟨k - 1, by omega⟩
    show (mapO (toP j st) ds).map PyData.tuple = _
    rw [h1 j st (by omega)]; rfl
  | .cst ds, h => by
    have h : (0 < n) ∧ datL (n - 1) ds = true := by simpa [dat] using h
    obtain ⟨as, h1, h2, h3⟩ := datL_py h.2
    refine ⟨.list as, fun k st hk => ?_, by simpa [PyData.canLay0] using h2, by simp [PyData.depth]; omega⟩
    obtain ⟨j, rfl⟩ : ∃ j, k = j + 1 := ⟨k - 1, by omega⟩
    show (mapO (toP j st) ds).map PyData.list = _
    rw [h1 j st (by omega)]; rfl
  | .wri _, h => by simp [dat] at h
  | .ref _, h => by simp [dat] at h
  | .dic _ _, h => by simp [dat] at h
  | .dct _ _, h => by simp [dat] at h
theorem datL_py {n : Nat} : ∀ {ds : List Dv}, datL n ds = true → ∃ as, (∀ k st, n ≤ k → mapO (toP k st) ds = some as) ∧ PyData.canLayAll0 as = true ∧ PyData.depthAll as ≤ n
  | [], _ => ⟨[], fun _ _ _ => rfl, by simp [PyData.canLayAll0], by simp [PyData.depthAll]⟩
  | d :: ds, h => by
    have h : dat n d = true ∧ datL n ds = true := by simpa [datL] using h
    obtain ⟨a, a1, a2, a3⟩ := dat_py h.1
    obtain ⟨as, b1, b2, b3⟩ := datL_py h.2
    refine ⟨a :: as, fun k st hk => ?_, by simp [PyData.canLayAll0, a2, b2], by simp [PyData.depthAll]; omega⟩
    unfold mapO
    rw [a1 k st hk, b1 k st hk]
end
theorem dat_plain {d : Dv} (h : dat 9 d = true) : ∃ a, ∀ st, Plain st d a := by
  obtain ⟨a, h1, h2, h3⟩ := dat_py h
  exact ⟨a, fun st => ⟨h1 _ _ (Nat.le_refl _), by simp [SeqAt.shaped, h2]; omega⟩⟩
theorem eqv_self {a : PyData} (h : SeqAt.shaped a = true) : PyData.eqv a a = true := by
  have h1 : a.canLay0 = true := (Bool.and_eq_true_iff.mp h).1
  exact SeqAt.eqv_refl a h1
section
variable {P : Dv → Sto → Prop} {PB : Bool → Sto → Prop} {PS' : Fl × Ls → Sto → Prop} {ls : Ls} {st : Sto} {c : Nat} {PX : Sto → Prop} {g1 g2 : SS} {t u : SB} {fe fa fb : SE} {fs : SA}
theorem go_eqS {x : Dv} (h : dat 9 x = true) (q : P (.bl true) st) : Go (opEq x x st) P := by
  obtain ⟨a, ha⟩ := dat_plain h
  exact go_eqD (ha st) (ha st) (by rw [eqv_self (ha st).2]; exact q)
theorem go_neS {x : Dv} (h : dat 9 x = true) (q : P (.bl false) st) : Go (opNe x x st) P := by
  obtain ⟨a, ha⟩ := dat_plain h
  exact go_neD (ha st) (ha st) (by rw [eqv_self (ha st).2]; exact q)
/-- if a != b: .. where both are the same -/
theorem go_neF (h : Go (fa ls st) fun x s => Go (fb ls s) fun y s2 => y = x ∧ dat 9 x = true ∧ PB false s2) : Go (bB (eOp opNe fa fb) ls st) PB := go_bB (go_op (h.mono fun x s q => q.mono fun y s2 ⟨he, hd, hq⟩ => by
  rw [he]
  exact go_neS hd ⟨_, rfl, hq⟩))
theorem go_guardNe (h : Go (fa ls st) fun x s => Go (fb ls s) fun y s2 => y = x ∧ dat 9 x = true ∧ Go (g2 ls s2) PS') : Go (sSeq (sIf (bB (eOp opNe fa fb)) g1 sNil) g2 ls st) PS' := go_guard (go_neF (h.mono fun x s q => q.mono fun y s2 ⟨e, d, q⟩ => ⟨e, d, rfl, q⟩))
theorem go_guardNe1 (h : Go (fa ls st) fun x s => Go (fb ls s) fun y s2 => y = x ∧ dat 9 x = true ∧ PS' (.nx, ls) s2) : Go (sIf (bB (eOp opNe fa fb)) g1 sNil ls st) PS' := go_guard1 (go_neF (h.mono fun x s q => q.mono fun y s2 ⟨e, d, q⟩ => ⟨e, d, rfl, q⟩))
theorem dat_int {n : Nat} {i : Int} (h : 0 < n := by decide) : dat n (.int i) = true := by simp [dat, h]
theorem dat_q {n : Nat} {r : Rat} (h : 1 < n := by decide) : dat n (enQ r) = true := by simp [dat, datL, enQ]; omega
theorem dat_bl {n : Nat} {b : Bool} (h : 0 < n := by decide) : dat n (.bl b) = true := by simp [dat, h]
theorem datL_map {α : Type} {n : Nat} {e : α → Dv} (h : ∀ x, dat n (e x) = true) : ∀ xs : List α, datL n (xs.map e) = true
  | [] => rfl
  | x :: xs => by rw [List.map_cons, datL, h x, datL_map h xs]; rfl
theorem datL_all {n : Nat} : ∀ {ds : List Dv}, (∀ d ∈ ds, dat n d = true) → datL n ds = true
  | [], _ => rfl
  | d :: ds, h => by rw [datL, h d (List.mem_cons_self ..), datL_all fun e he => h e (List.mem_cons_of_mem d he)]; rfl
theorem dat_cst {n : Nat} {ds : List Dv} (h : datL n ds = true) : dat (n + 1) (.cst ds) = true := by simp [dat, h]
theorem dat_tup {n : Nat} {ds : List Dv} (h : datL n ds = true) : dat (n + 1) (.tup ds) = true := by simp [dat, h]
theorem dat_mono {n m : Nat} (e : n ≤ m) : ∀ d : Dv, dat n d = true → dat m d = true := by
  intro d h
  have key : (∀ d : Dv, ∀ n m, n ≤ m → dat n d = true → dat m d = true) := by
    intro d
    induction d using Dv.rec (motive_2 := fun ds => ∀ n m, n ≤ m → datL n ds = true → datL m ds = true) with
    | non => intro n m e h; simp [dat] at h ⊢; omega
    | bl b => intro n m e h; simp [dat] at h ⊢; omega
    | int i => intro n m e h; simp [dat] at h ⊢; omega
    | str x => intro n m e h; simp [dat] at h ⊢; exact ⟨by omega, h.2⟩
    | tup ds ih => intro n m e h; simp [dat] at h ⊢; exact ⟨by omega, ih _ _ (by omega) h.2⟩
    | cst ds ih => intro n m e h; simp [dat] at h ⊢; exact ⟨by omega, ih _ _ (by omega) h.2⟩
    | ref k => intro n m e h; simp [dat] at h
    | wri ds ih => intro n m e h; simp [dat] at h
    | dic ks ds ih => intro n m e h; simp [dat] at h
    | dct ks ds ih => intro n m e h; simp [dat] at h
    | nil => rfl
    | cons d ds i1 i2 => rename_i n m e h; simp [datL] at h ⊢; exact ⟨i1 _ _ e h.1, i2 _ _ e h.2⟩
  exact key d n m e h
/-- of two ratios -/
theorem enQ_inj {p q : Rat} : enQ p = enQ q ↔ p = q := by
  constructor
  · intro h
    injection h with h
    injection h with h1 h2
    injection h2 with h2 _
    injection h1 with h1
    injection h2 with h2
    exact Rat.ext h1 (by omega)
  · intro h; rw [h]
theorem eqP_q {p q : Rat} {st : Sto} : eqP (enQ p) (enQ q) st = some (decide (p = q)) := by
  show eqP (.tup [.int p.num, .int p.den]) (.tup [.int q.num, .int q.den]) st = _
  rw [eqP_pair]
  congr 1
  rw [Bool.eq_iff_iff]
  simp only [Bool.and_eq_true, decide_eq_true_eq]
  constructor
  · intro ⟨h1, h2⟩; exact Rat.ext h1 (by omega)
  · intro h; rw [h]; exact ⟨rfl, rfl⟩
theorem go_eqQ {p q : Rat} (h : P (.bl (decide (p = q))) st) : Go (opEq (enQ p) (enQ q) st) P := by unfold opEq; rw [eqP_q]; exact Go.ok h
theorem go_neQ {p q : Rat} (h : P (.bl (!decide (p = q))) st) : Go (opNe (enQ p) (enQ q) st) P := by unfold opNe; rw [eqP_q]; exact Go.ok h
/-- xs == [], xs != [] -/
theorem eqP_nil {ds : List Dv} {st : Sto} (h : dat 9 (.cst ds) = true) : eqP (.cst ds) (.cst []) st = some ds.isEmpty := by
  obtain ⟨a, ha⟩ := dat_plain h
  obtain ⟨b, hb⟩ := dat_plain (d := .cst []) rfl
  unfold eqP
  rw [(ha st).1, (hb st).1]
  simp only [(ha st).2, (hb st).2, and_self, if_true]
  have e1 := (ha st).1
  have e2 := (hb st).1
  have e2 : b = .list [] := by
    have : some (PyData.list []) = some b := e2
    injection this with this
    exact this.symm
  subst e2
  have e1 : (mapO (toP 8 st) ds).map PyData.list = some a := e1
  cases ds with
  | nil =>
    have e1 : some (PyData.list []) = some a := e1
    injection e1 with e1
    subst e1
    simp [PyData.eqv, PyData.eqvAll]
  | cons d ds =>
    obtain ⟨as, e3, e4⟩ := Option.map_eq_some_iff.mp e1
    subst e4
    cases as with
    | nil =>
      unfold mapO at e3
      split at e3
      · injection e3 with e3
        cases e3
      · cases e3
    | cons b as => simp [PyData.eqv, PyData.eqvAll]
theorem go_eqNil {ds : List Dv} (h : dat 9 (.cst ds) = true) (q : P (.bl ds.isEmpty) st) : Go (opEq (.cst ds) (.cst []) st) P := by unfold opEq; rw [eqP_nil h]; exact Go.ok q
theorem go_neNil {ds : List Dv} (h : dat 9 (.cst ds) = true) (q : P (.bl (!ds.isEmpty)) st) : Go (opNe (.cst ds) (.cst []) st) P := by unfold opNe; rw [eqP_nil h]; exact Go.ok q
/-! ### errors -/
/-- it ends with the error -/
def Gx {α : Type} (m : Mo α) (c : Nat) (P : Sto → Prop) : Prop := ∃ st, m = some (.exc c, st) ∧ P st
theorem Gx.bind {α β : Type} {m : Mo α} {k : α → Sto → Mo β} {c : Nat} {P : Sto → Prop} (h : Gx m c P) : Gx (m.bind k) c P := by
  obtain ⟨st, rfl, q⟩ := h
  exact ⟨st, rfl, q⟩
theorem Go.bindx {α β : Type} {m : Mo α} {k : α → Sto → Mo β} {c : Nat} {P : Sto → Prop} (h : Go m fun a st => Gx (k a st) c P) : Gx (m.bind k) c P := by
  obtain ⟨a, st, rfl, q⟩ := h
  exact q
theorem gx_seq (h : Gx (g1 ls st) c PX) : Gx (sSeq g1 g2 ls st) c PX := h.bind
theorem gx_seq2 (h : Go (g1 ls st) fun r s => r.1 = .nx ∧ Gx (g2 r.2 s) c PX) : Gx (sSeq g1 g2 ls st) c PX := Go.bindx (h.mono fun r s ⟨e, q⟩ => by
  obtain ⟨r1, r2⟩ := r
  have e : r1 = .nx := e
  subst e
  exact q)
theorem gx_if (h : Go (t ls st) fun b s => Gx (if b = true then g1 ls s else g2 ls s) c PX) : Gx (sIf t g1 g2 ls st) c PX := Go.bindx h
theorem gx_ifT {α : Type} {b : Bool} {m1 m2 : Mo α} (e : b = true) (h : Gx m1 c PX) : Gx (if b = true then m1 else m2) c PX := by subst e; exact h
theorem gx_raise (h : PX st) : Gx (sRaise c ls st) c PX := ⟨st, rfl, h⟩
/-- if test: raise, the test true -/
theorem gx_guard (h : Go (t ls st) fun b s => b = true ∧ PX s) : Gx (sSeq (sIf t (sRaise c) sNil) g2 ls st) c PX := gx_seq (gx_if (h.mono fun b s ⟨e, q⟩ => gx_ifT e (gx_raise q)))
theorem gx_call {m : FC} (h : Go (fs ls st) fun ds s => Gx (m ds s) c PX) : Gx (eCall m fs ls st) c PX := Go.bindx h
theorem gx_callA {m : FC} (h : Gx (fs ls st) c PX) : Gx (eCall m fs ls st) c PX := h.bind
theorem gx_cons (h : Gx (fa ls st) c PX) : Gx (aCons fa fs ls st) c PX := h.bind
theorem gx_cons2 (h : Go (fa ls st) fun _ s => Gx (fs ls s) c PX) : Gx (aCons fa fs ls st) c PX := Go.bindx (h.mono fun x s q => q.bind)
theorem gx_ret (h : Gx (fa ls st) c PX) : Gx (sRet fa ls st) c PX := h.bind
theorem gx_exp (h : Gx (fa ls st) c PX) : Gx (sExp fa ls st) c PX := h.bind
theorem gx_asg {g : SG} (h : Gx (fa ls st) c PX) : Gx (sAsg fa g ls st) c PX := h.bind
theorem gx_fn {g : SS} {N : Nat} {ds : List Dv} (h : Gx (g (ds.map some ++ List.replicate (N - ds.length) none) st) c PX) : Gx (fnOf g N ds st) c PX := by
  obtain ⟨s, e, q⟩ := h
  exact ⟨s, fn_exc e, q⟩
theorem gx_fr {g : FC} {ds : List Dv} (hl : isV ds = true) (h : Gx (g ds []) c fun _ => True) (q : PX st) : Gx (frame1 g ds st) c PX := by
  obtain ⟨s, e, _⟩ := h
  obtain ⟨e1, e2⟩ := frame_v (g := g) (st := st) hl
  refine ⟨st, ?_, q⟩
  rw [e1]
  unfold frame0
  rw [if_pos e2, e]
theorem go_told {ok : Nat → Bool} {ret : Str} (h : Go (fe ls st) P) : Go (eTold ok ret fe ls st) P := by
  obtain ⟨d, s, e, q⟩ := h
  refine ⟨d, s, ?_, q⟩
  unfold eTold
  rw [e]
theorem go_toldx {ok : Nat → Bool} {ret : Str} (h : Gx (fe ls st) c fun s => P (.str ret) s) (hc : ok c = true) : Go (eTold ok ret fe ls st) P := by
  obtain ⟨s, e, q⟩ := h
  refine ⟨.str ret, s, ?_, q⟩
  unfold eTold
  rw [e]
  exact if_pos hc
/-! ### builtins -/
theorem go_max {i j : Int} (h : P (.int (max i j)) st) : Go (fcMax [.int i, .int j] st) P := by
  refine Go.ok (a := Dv.int (if j > i then j else i)) ?_
  rw [show (if j > i then j else i) = max i j from by rw [Int.max_def]; split <;> split <;> omega]
  exact h
theorem go_min {i j : Int} (h : P (.int (min i j)) st) : Go (fcMin [.int i, .int j] st) P := by
  refine Go.ok (a := Dv.int (if j < i then j else i)) ?_
  rw [show (if j < i then j else i) = min i j from by rw [Int.min_def]; split <;> split <;> omega]
  exact h
theorem go_lenT {ds : List Dv} (h : P (.int ds.length) st) : Go (fcLen [.tup ds] st) P := Go.ok h
theorem go_lenC {ds : List Dv} (h : P (.int ds.length) st) : Go (fcLen [.cst ds] st) P := Go.ok h
theorem asIs_map : ∀ ns : List Int, asIs (ns.map .int) = some ns
  | [] => rfl
  | n :: ns => by simp only [List.map_cons, asIs, asIs_map ns]; rfl
theorem go_sumC {ns : List Int} (h : P (.int ns.sum) st) : Go (fcSum [.cst (ns.map .int)] st) P := by
  show Go (match asIs (ns.map .int) with | some ns => rOk (.int ns.sum) st | none => none) P
  rw [asIs_map]
  exact Go.ok h
theorem go_tupC {ds : List Dv} (h : P (.tup ds) st) : Go (fcTup [.cst ds] st) P := Go.ok h
theorem go_tupT {ds : List Dv} (h : P (.tup ds) st) : Go (fcTup [.tup ds] st) P := Go.ok h
theorem go_tupL {n : Nat} {ds : List Dv} (e : st[n]? = some (.lst ds)) (h : P (.tup ds) st) : Go (fcTup [.ref n] st) P := by
  show Go (match asL st (.ref n) with | some xs => rOk (.tup xs) st | none => none) P
  rw [show asL st (.ref n) = some ds from lstAt_lst e]
  exact Go.ok h
theorem go_lstC {ds : List Dv} (h : P (.cst ds) st) : Go (fcLst [.cst ds] st) P := Go.ok h
theorem go_lstT {ds : List Dv} (h : P (.cst ds) st) : Go (fcLst [.tup ds] st) P := Go.ok h
theorem go_app {fo : SE} (h : Go (fo ls st) fun x s => ∃ n ds, x = .ref n ∧ s[n]? = some (.lst ds) ∧ Go (fa ls s) fun d s2 => ∃ ds2, s2[n]? = some (.lst ds2) ∧ ds2.length < sizeLine ∧ P .non (s2.set n (.lst (ds2 ++ [d])))) : Go (eApp fo fa ls st) P := Go.bind (h.mono fun x s ⟨n, ds, e1, e2, q⟩ => by
  subst e1
  show Go (match s[n]? with | some (.lst _) => (fa ls s).bind fun d st2 => appD n d st2 | _ => none) P
  rw [e2]
  refine Go.bind (q.mono fun d s2 ⟨ds2, e3, e4, q⟩ => ?_)
  unfold appD
  rw [e3]
  show Go (if ds2.length < sizeLine then _ else _) P
  rw [if_pos e4]
  exact ⟨_, _, rfl, q⟩)
theorem go_augI {f : Int → Int → Int} {i : Nat} {x : Int} (e : ls[i]? = some (some (.int x))) (h : Go (fa ls st) fun d s => ∃ y, d = .int y ∧ i < ls.length ∧ PS' (.nx, ls.set i (some (.int (f x y)))) s) : Go (sAugI f i fa ls st) PS' := by
  unfold sAugI
  rw [e]
  refine Go.bind (h.mono fun d s ⟨y, e1, e2, q⟩ => ?_)
  subst e1
  show Go (if i < ls.length then _ else _) PS'
  rw [if_pos e2]
  exact Go.ok q
theorem go_fz {i n : Nat} {ds : List Dv} (e : ls[i]? = some (some (.ref n))) (e2 : st[n]? = some (.lst ds)) (h : P (.cst ds) (st.set n .gone)) : Go (eFz i ls st) P := by
  unfold eFz
  rw [e]
  simp only
  rw [e2]
  exact Go.ok h
/-! ### generator expressions, the store left -/
theorem gStep_pure {k : Wk} {t : SG} {f : SE} {wp : Ls} {m i : Nat} {d x : Dv} (h : k.at_ i st = some (some d)) (q : Go (t d wp st) fun ls1 s1 => s1 = st ∧ Go (f ls1 st) fun y s2 => y = x ∧ s2 = st) : gStep k t bYes f wp (m + 1) i st = some (some (x, i + 1), st) := by
  obtain ⟨ls1, s1, e1, rfl, y, s2, e2, rfl, rfl⟩ := q
  unfold gStep
  rw [h]
  simp only [e1, bYes, rOk, e2]
theorem gStep_end {k : Wk} {t : SG} {u : SB} {f : SE} {wp : Ls} {m i : Nat} (h : k.at_ i st = some none) : gStep k t u f wp (m + 1) i st = some (none, st) := by
  unfold gStep
  rw [h]
theorem gStep_skip {k : Wk} {t : SG} {u : SB} {f : SE} {wp : Ls} {m i : Nat} {d : Dv} (h : k.at_ i st = some (some d)) (q : Go (t d wp st) fun ls1 s1 => s1 = st ∧ Go (u ls1 st) fun b s2 => b = false ∧ s2 = st) : gStep k t u f wp (m + 1) i st = gStep k t u f wp m (i + 1) st := by
  obtain ⟨ls1, s1, e1, rfl, b, s2, e2, rfl, rfl⟩ := q
  conv => lhs; unfold gStep
  rw [h]
  simp only [e1, e2]
theorem gStep_take {k : Wk} {t : SG} {u : SB} {f : SE} {wp : Ls} {m i : Nat} {d x : Dv} (h : k.at_ i st = some (some d)) (q : Go (t d wp st) fun ls1 s1 => s1 = st ∧ Go (u ls1 st) fun b s2 => b = true ∧ s2 = st ∧ Go (f ls1 st) fun y s2 => y = x ∧ s2 = st) : gStep k t u f wp (m + 1) i st = some (some (x, i + 1), st) := by
  obtain ⟨ls1, s1, e1, rfl, b, s2, e2, rfl, rfl, y, s3, e3, rfl, rfl⟩ := q
  unfold gStep
  rw [h]
  simp only [e1, e2, e3]
section
variable {α : Type} {k : Wk} {t : SG} {f : SE} {wp : Ls} {xs : List α} {e : α → Dv}
theorem gAll_pure {g : α → Dv} (hk : WkV k (xs.map e)) (hs : ∀ x ∈ xs, Go (t (e x) wp st) fun ls1 s1 => s1 = st ∧ Go (f ls1 st) fun y s2 => y = g x ∧ s2 = st) : ∀ (j m i : Nat), i + j = xs.length → j < m → gAll k t bYes f wp m i st = some ((xs.drop i).map g, st)
  | _, 0, _, _, h2 => absurd h2 (Nat.not_lt_zero _)
  | 0, m + 1, i, h1, _ => by
    obtain rfl : i = xs.length := by omega
    have hd := (hk.2 st).2
    rw [List.length_map] at hd
    unfold gAll
    rw [gStep_end hd, List.drop_length]
    rfl
  | j + 1, m + 1, i, h1, h2 => by
    have hi : i < xs.length := by omega
    have hd := (hk.2 st).1 i (by simpa using hi)
    rw [List.getElem_map] at hd
    unfold gAll
    rw [gStep_pure hd (hs _ (List.getElem_mem hi))]
    simp only
    rw [gAll_pure hk hs j m (i + 1) (by omega) (by omega), List.drop_eq_getElem_cons hi]
    rfl
theorem gHas_pure {z : Bool} {v : α → Bool} (hk : WkV k (xs.map e)) (hs : ∀ x ∈ xs, Go (t (e x) wp st) fun ls1 s1 => s1 = st ∧ Go (f ls1 st) fun y s2 => y = .bl (v x) ∧ s2 = st)
    (h : P (.bl (if (∃ x ∈ xs, v x = z) then z else !z)) st) : ∀ (j m i : Nat), i + j = xs.length → j < m → (∀ l (h : l < xs.length), l < i → v xs[l] = !z) → Go (gHas z k t bYes f wp m i st) P
  | _, 0, _, _, h2, _ => absurd h2 (Nat.not_lt_zero _)
  | 0, m + 1, i, h3, _, h4 => by
    obtain rfl : i = xs.length := by omega
    have hd := (hk.2 st).2
    rw [List.length_map] at hd
    unfold gHas
    rw [gStep_end hd]
    refine ⟨_, _, rfl, ?_⟩
    rw [if_neg] at h
    · exact h
    · rintro ⟨x, hx, e1⟩
      obtain ⟨l, hl, rfl⟩ := List.getElem_of_mem hx
      rw [h4 l hl hl] at e1
      cases z <;> cases e1
  | j + 1, m + 1, i, h3, h5, h4 => by
    have hi : i < xs.length := by omega
    have hd := (hk.2 st).1 i (by simpa using hi)
    rw [List.getElem_map] at hd
    unfold gHas
    rw [gStep_pure hd (hs _ (List.getElem_mem hi))]
    simp only
    by_cases c : v xs[i] = z
    · rw [if_pos c]
      refine ⟨_, _, rfl, ?_⟩
      rw [if_pos ⟨_, List.getElem_mem hi, c⟩] at h
      exact h
    · rw [if_neg c]
      refine gHas_pure hk hs h j m (i + 1) (by omega) (by omega) fun l hl hl2 => ?_
      by_cases e : l = i
      · subst e
        cases hv : v xs[l] <;> cases z <;> simp_all
      · exact h4 l hl (by omega)
theorem gSum_pure {g : α → Int} {B : Int} (hB : 0 ≤ B) (hk : WkV k (xs.map e)) (hb : ∀ x ∈ xs, -B ≤ g x ∧ g x ≤ B) (hs : ∀ x ∈ xs, Go (t (e x) wp st) fun ls1 s1 => s1 = st ∧ Go (f ls1 st) fun y s2 => y = .int (g x) ∧ s2 = st) : ∀ (j m i : Nat) (a : Int), i + j = xs.length → j < m → -(2 ^ 63) < a - B * j ∧ a + B * j < 2 ^ 63 → P (.int (a + ((xs.drop i).map g).sum)) st → Go (gSum k t bYes f wp m i st a) P
  | _, 0, _, _, _, h2, _, _ => absurd h2 (Nat.not_lt_zero _)
  | 0, m + 1, i, a, h1, _, _, h => by
    obtain rfl : i = xs.length := by omega
    have hd := (hk.2 st).2
    rw [List.length_map] at hd
    unfold gSum
    rw [gStep_end hd]
    refine ⟨_, _, rfl, ?_⟩
    simpa using h
  | j + 1, m + 1, i, a, h1, h2, h3, h => by
    have hi : i < xs.length := by omega
    have hd := (hk.2 st).1 i (by simpa using hi)
    rw [List.getElem_map] at hd
    unfold gSum
    rw [gStep_pure hd (hs _ (List.getElem_mem hi))]
    simp only
    have hg := hb _ (List.getElem_mem hi)
    generalize hgx : g xs[i] = y at hg ⊢
    have e1 : B * ((j + 1 : Nat) : Int) = B * j + B := by rw [Int.natCast_add, Int.mul_add]; simp
    rw [e1] at h3
    have e2 : 0 ≤ B * (j : Int) := Int.mul_nonneg hB (Int.natCast_nonneg j)
    rw [if_pos (by omega)]
    refine gSum_pure hB hk hb hs j m (i + 1) _ (by omega) (by omega) (by omega) ?_
    rw [List.drop_eq_getElem_cons hi, List.map_cons, List.sum_cons, ← Int.add_assoc, hgx] at h
    exact h
end
theorem go_genAll {α : Type} {w : SW} {t : SG} {f : SE} {vs : List Nat} {fin : List Dv → Sto → Mo Dv} (xs : List α) (e g : α → Dv) (h : Go (w ls st) fun k s => s = st ∧ WkV k (xs.map e)) (hz : xs.length ≤ sizeLine)
    (hs : ∀ x ∈ xs, Go (t (e x) (wipeL ls vs) st) fun ls1 s1 => s1 = st ∧ Go (f ls1 st) fun y s2 => y = g x ∧ s2 = st) (he : Go (fin (xs.map g) st) P) : Go (eGen w (gdAll fin) t bYes f vs ls st) P := Go.bind (h.mono fun k s ⟨e1, hk⟩ => by
  subst e1
  show Go (match gAll k t bYes f (wipeL ls vs) (k.len + 1) 0 s with | some (ds, st') => if ds.length ≤ sizeLine then fin ds st' else none | none => none) P
  have hl := hk.1
  rw [List.length_map] at hl
  rw [gAll_pure hk hs xs.length _ 0 (by omega) (by omega), List.drop_zero]
  show Go (if _ then _ else _) P
  rw [if_pos (by rw [List.length_map]; exact hz)]
  exact he)
/-- any, all -/
theorem go_genHas {α : Type} {z : Bool} {w : SW} {t : SG} {f : SE} {vs : List Nat} (xs : List α) (e : α → Dv) (v : α → Bool) (h : Go (w ls st) fun k s => s = st ∧ WkV k (xs.map e))
    (hs : ∀ x ∈ xs, Go (t (e x) (wipeL ls vs) st) fun ls1 s1 => s1 = st ∧ Go (f ls1 st) fun y s2 => y = .bl (v x) ∧ s2 = st) (he : P (.bl (if (∃ x ∈ xs, v x = z) then z else !z)) st) : Go (eGen w (gdHas z) t bYes f vs ls st) P := Go.bind (h.mono fun k s ⟨e1, hk⟩ => by
  subst e1
  have hl := hk.1
  rw [List.length_map] at hl
  exact gHas_pure hk hs he xs.length _ 0 (by omega) (by omega) fun l _ h => absurd h (Nat.not_lt_zero _))
theorem go_any {α : Type} {w : SW} {t : SG} {f : SE} {vs : List Nat} (xs : List α) (e : α → Dv) (v : α → Bool) (h : Go (w ls st) fun k s => s = st ∧ WkV k (xs.map e))
    (hs : ∀ x ∈ xs, Go (t (e x) (wipeL ls vs) st) fun ls1 s1 => s1 = st ∧ Go (f ls1 st) fun y s2 => y = .bl (v x) ∧ s2 = st) (he : P (.bl (xs.any v)) st) : Go (eGen w (gdHas true) t bYes f vs ls st) P := go_genHas xs e v h hs (by
  rw [show (if (∃ x ∈ xs, v x = true) then true else !true) = xs.any v from by
    by_cases c : ∃ x ∈ xs, v x = true
    · rw [if_pos c]; exact (List.any_eq_true.mpr c).symm
    · rw [if_neg c]
      cases hx : xs.any v with
      | false => rfl
      | true => exact absurd (List.any_eq_true.mp hx) c]
  exact he)
theorem go_genSum {α : Type} {w : SW} {t : SG} {f : SE} {vs : List Nat} (xs : List α) (e : α → Dv) (g : α → Int) (B : Int) (hB : 0 ≤ B) (hb : ∀ x ∈ xs, -B ≤ g x ∧ g x ≤ B) (hz : B * xs.length < 2 ^ 63) (h : Go (w ls st) fun k s => s = st ∧ WkV k (xs.map e))
    (hs : ∀ x ∈ xs, Go (t (e x) (wipeL ls vs) st) fun ls1 s1 => s1 = st ∧ Go (f ls1 st) fun y s2 => y = .int (g x) ∧ s2 = st) (he : P (.int (xs.map g).sum) st) : Go (eGen w gdSum t bYes f vs ls st) P := Go.bind (h.mono fun k s ⟨e1, hk⟩ => by
  subst e1
  have hl := hk.1
  rw [List.length_map] at hl
  refine gSum_pure hB hk hb hs xs.length _ 0 0 (by omega) (by omega) (by omega) ?_
  rw [List.drop_zero, Int.zero_add]
  exact he)
/-! ### targets -/
theorem go_gT2 {d e : Dv} {t u : SG} {PG' : Ls → Sto → Prop} (h : Go (t d ls st) fun ls1 s1 => Go (u e ls1 s1) PG') : Go (gT [t, u] (.tup [d, e]) ls st) PG' := Go.bind (h.mono fun ls1 s1 q => Go.bind (q.mono fun ls2 s2 q => Go.ok q))
theorem go_gT3 {d e f : Dv} {t u v : SG} {PG' : Ls → Sto → Prop} (h : Go (t d ls st) fun ls1 s1 => Go (u e ls1 s1) fun ls2 s2 => Go (v f ls2 s2) PG') : Go (gT [t, u, v] (.tup [d, e, f]) ls st) PG' := Go.bind (h.mono fun ls1 s1 q => Go.bind (q.mono fun ls2 s2 q => Go.bind (q.mono fun ls3 s3 q => Go.ok q)))
theorem go_gT4 {d e f g : Dv} {t u v w : SG} {PG' : Ls → Sto → Prop} (h : Go (t d ls st) fun ls1 s1 => Go (u e ls1 s1) fun ls2 s2 => Go (v f ls2 s2) fun ls3 s3 => Go (w g ls3 s3) PG') : Go (gT [t, u, v, w] (.tup [d, e, f, g]) ls st) PG' := Go.bind (h.mono fun ls1 s1 q => Go.bind (q.mono fun ls2 s2 q => Go.bind (q.mono fun ls3 s3 q => Go.bind (q.mono fun ls4 s4 q => Go.ok q))))
end
end R

namespace R
open PySem L2
section
variable {P : Dv → Sto → Prop} {PB : Bool → Sto → Prop} {PS' : Fl × Ls → Sto → Prop} {PG' : Ls → Sto → Prop} {ls : Ls} {st : Sto} {fa fb fc fd : SE} {fs : SA}
theorem go_tup2 (h : Go (fa ls st) fun x s => Go (fb ls s) fun y s2 => P (.tup [x, y]) s2) : Go (eTup (aCons fa (aCons fb aNil)) ls st) P := go_tup (go_cons (h.mono fun x s q => go_cons (q.mono fun y s2 q => go_nil ⟨by show 2 ≤ sizeLine; decide, q⟩)))
theorem go_tup3 (h : Go (fa ls st) fun x s => Go (fb ls s) fun y s2 => Go (fc ls s2) fun z s3 => P (.tup [x, y, z]) s3) : Go (eTup (aCons fa (aCons fb (aCons fc aNil))) ls st) P := go_tup (go_cons (h.mono fun x s q => go_cons (q.mono fun y s2 q => go_cons (q.mono fun z s3 q => go_nil ⟨by show 3 ≤ sizeLine; decide, q⟩))))
theorem go_tup4 (h : Go (fa ls st) fun x s => Go (fb ls s) fun y s2 => Go (fc ls s2) fun z s3 => Go (fd ls s3) fun w s4 => P (.tup [x, y, z, w]) s4) : Go (eTup (aCons fa (aCons fb (aCons fc (aCons fd aNil)))) ls st) P := go_tup (go_cons (h.mono fun x s q => go_cons (q.mono fun y s2 q => go_cons (q.mono fun z s3 q => go_cons (q.mono fun w s4 q => go_nil ⟨by show 4 ≤ sizeLine; decide, q⟩)))))
theorem go_neg1 {i : Int} (h : P (.int (-i)) st) : Go (eNeg (eC (.int i)) ls st) P := go_neg (go_c ⟨i, rfl, h⟩)
theorem go_par2 {i j : Nat} (h : Go (fa ls st) fun x s => Go (fb ls s) fun y s2 => i < ls.length ∧ j < ls.length ∧ PS' (.nx, (ls.set i (some x)).set j (some y)) s2) : Go (sPar i j (aCons fa (aCons fb aNil)) ls st) PS' := go_par (go_cons (h.mono fun x s q => go_cons (q.mono fun y s2 ⟨a, b, q⟩ => go_nil ⟨x, y, rfl, a, b, q⟩)))
theorem go_par3x {i j l : Nat} (h : Go (fa ls st) fun x s => Go (fb ls s) fun y s2 => Go (fc ls s2) fun z s3 => i < ls.length ∧ j < ls.length ∧ l < ls.length ∧ PS' (.nx, ((ls.set i (some x)).set j (some y)).set l (some z)) s3) : Go (sPar3 i j l (aCons fa (aCons fb (aCons fc aNil))) ls st) PS' := go_par3 (go_cons (h.mono fun x s q => go_cons (q.mono fun y s2 q => go_cons (q.mono fun z s3 ⟨a, b, c, q⟩ => go_nil ⟨x, y, z, rfl, a, b, c, q⟩))))
/-- 0 <= n <= k and the like, in range -/
theorem go_chK {k : Int} {a b : Int} {fe : SE} (h1 : Go (fe ls st) fun x s => x = .int k ∧ s = st) (h2 : a ≤ k) (h3 : k ≤ b) (h : PB false st) : Go (bNot (bB (eChain opLe opLe (eC (.int a)) fe (eC (.int b)))) ls st) PB := go_not (go_bB (go_chI (C := fun a b => a ≤ b) (D := fun a b => a ≤ b) (fun _ _ => go_le) (fun _ _ => go_le) (go_c ⟨rfl, rfl⟩) h1 (go_c ⟨rfl, rfl⟩) ⟨_, rfl, by simpa [h2, h3] using h⟩))
theorem go_mono2 {fe : SE} {d : Dv} (h : Go (fe ls st) fun x s => x = d ∧ s = st) (q : P d st) : Go (fe ls st) P := h.mono fun x s ⟨a, b⟩ => by
  subst a b
  exact q
theorem RatV.sm {n : Nat} {d : Dv} {r : Rat} (h : RatV n d r) : SmQ n r := by
  obtain ⟨p, _, hp, rfl⟩ := h.ex
  exact smQ_div hp.1 hp.2.2 (by have := hp.2.1; omega)
theorem cast_pos {b : Int} (h : 0 < b) : (0 : Rat) < (b : Rat) := by have := Rat.intCast_lt_intCast.mpr h; simpa using this
theorem valP_neg {n : Nat} {p : Int × Int} (hp : SmP n p) : p.1 < 0 ↔ valP p < 0 := by
  have h1 := cast_pos hp.2.1
  unfold valP
  rw [Rat.div_lt_iff h1, show (0 : Rat) * (p.2 : Rat) = 0 by grind]
  have := @Rat.intCast_lt_intCast p.1 0
  simpa using this.symm
theorem num_neg {r : Rat} : r.num < 0 ↔ r < 0 := by
  have := valP_neg (n := r.num.natAbs + r.den + 1) (p := (r.num, (r.den : Int))) ⟨Nat.lt_of_lt_of_le (Nat.lt_two_pow_self) (pow_le2 (show r.num.natAbs ≤ _ by omega)), by have := r.den_pos; show (0 : Int) < r.den; omega, by
    show ((r.den : Nat) : Int).natAbs < _
    rw [Int.natAbs_natCast]
    exact Nat.lt_of_lt_of_le (Nat.lt_two_pow_self) (pow_le2 (show r.den ≤ _ by omega))⟩
  rwa [valP_q] at this
theorem num_le0 {r : Rat} : r.num ≤ 0 ↔ r ≤ 0 := by
  have h := @num_neg (-r)
  rw [show (-r).num = -r.num from rfl] at h
  constructor
  · intro a
    by_cases c : r ≤ 0
    · exact c
    · have : -r < 0 := by grind
      have := h.mpr this
      omega
  · intro a
    by_cases c : r.num ≤ 0
    · exact c
    · have := h.mp (by omega)
      grind
theorem num_eq0 {r : Rat} : r.num = 0 ↔ r = 0 := by simp
theorem go_gTP {p : Int × Int} {t u : SG} (h : Go (t (.int p.1) ls st) fun ls1 s1 => Go (u (.int p.2) ls1 s1) PG') : Go (gT [t, u] (enP p) ls st) PG' := go_gT2 h
theorem go_q0x {p : Int × Int} (h : P (.int p.1) st) : Go (opIx (enP p) (.int 0) st) P := Go.ok h
/-- a statement that ends as it should -/
theorem go_fin {m : Mo (Fl × Ls)} {Q : Fl × Ls → Sto → Prop} (h : Go m fun r s => r.1 = .nx ∧ Q r s) (k : ∀ ls s, Q (.nx, ls) s → PS' (.nx, ls) s) : Go m PS' := h.mono fun r s ⟨e1, e2⟩ => by
  obtain ⟨r1, r2⟩ := r
  have e1 : r1 = .nx := e1
  subst e1
  exact k _ _ e2
/-! ### lists drawn -/
/-- a comprehension whose items are drawn, c rolls each -/
theorem go_lcRoll {α : Type} {w : SW} {t : SG} {f : SE} {vs : List Nat} {i : Nat} (m c L : Nat) (enc : α → Dv) (ok : α → Prop) (hz : L ≤ sizeLine)
    (h : Go (w ls st) fun k s => ∃ ds, WkV k ds ∧ ds.length ≤ L ∧ Tb i (m + c * L) s ∧ But i st s)
    (hs : ∀ d s m', Tb i (m' + c) s → Go (t d (wipeL ls vs) s) fun ls1 s1 => Go (f ls1 s1) fun y s2 => ∃ x, y = enc x ∧ ok x ∧ Tb i m' s2 ∧ But i s s2)
    (he : ∀ (xs : List α) s, (∀ x ∈ xs, ok x) → xs.length ≤ L → Tb i m s → But i st s → P (.cst (xs.map enc)) s) : Go (eLcF finC w (nxG t) (nxB bYes) (nxE f) vs ls st) P := by
  refine go_lc (h.mono fun k s ⟨ds, hk, hl, T, B⟩ => ⟨ds, hk, fun j acc s' => ∃ xs : List α, acc = xs.map enc ∧ xs.length = j ∧ (∀ x ∈ xs, ok x) ∧ Tb i (m + c * (L - j)) s' ∧ But i st s', ⟨[], rfl, rfl, fun x h => absurd h List.not_mem_nil, T, B⟩, ?_, ?_⟩)
  · rintro j acc s' hj ⟨xs, rfl, rfl, h1, T', B'⟩
    have e : m + c * (L - xs.length) = (m + c * (L - (xs.length + 1))) + c := by
      obtain ⟨r, hr⟩ : ∃ r, L = xs.length + 1 + r := ⟨L - (xs.length + 1), by omega⟩
      rw [show L - xs.length = r + 1 by omega, show L - (xs.length + 1) = r by omega, Nat.mul_add]
      omega
    rw [e] at T'
    refine (hs ds[xs.length] s' _ T').mono fun ls1 s1 q => ⟨true, s1, rfl, ?_⟩
    show Go (f ls1 s1) _
    refine q.mono fun y s2 ⟨x, e1, hx, T2, B2⟩ => ⟨by rw [List.length_map]; omega, xs ++ [x], by rw [List.map_append, e1]; rfl, by simp, fun z hz => ?_, T2, B'.trans B2⟩
    rcases List.mem_append.mp hz with a | a
    · exact h1 z a
    · rw [List.mem_singleton.mp a]; exact hx
  · rintro acc s' ⟨xs, rfl, e, h1, T', B'⟩
    exact go_finC (he xs s' h1 (by omega) (T'.less (by omega)) B')
theorem rng_len {n : Int} {L : Nat} (h : n ≤ L) : (rngD 0 n.toNat).length ≤ L := by rw [rngD_len]; omega
/-- over range(roll) -/
theorem go_wRoll {i : Nat} {n : Int} {m : Nat} {PW : Wk → Sto → Prop} (hm : 0 < n) (h8 : n ≤ 100000000) {fo : FC} {fs : SA} (hfo : fo = fnOf cRoll 3) (hfs : Go (fs ls st) fun ds s => ds = [.ref i, .int n] ∧ s = st) (T : Tb i (m + 1) st)
    (h : ∀ k r s, 0 ≤ r → r < n → WkV k (rngD 0 r.toNat) → Tb i m s → But i st s → PW k s) : Go (wR1 (aCons (eCall fo fs) aNil) ls st) PW := by
  subst hfo
  refine go_wR1 <| go_cons <| go_call <| hfs.mono fun ds s ⟨e1, e2⟩ => ?_
  subst e1 e2
  exact go_rollT T hm h8 fun r s a b T1 B1 => go_nil ⟨r, rfl, by omega, by omega, fun k hk => h k r s a b hk T1 B1⟩
theorem find_first {m i : Nat} {c : Nat → Bool} (hi : i < m) (h1 : c i = true) (h2 : ∀ j, j < i → c j = false) : (List.range m).find? c = some i := List.find?_range_eq_some.mpr ⟨h1, List.mem_range.mpr hi, fun j hj => by rw [h2 j hj]; rfl⟩
theorem find_no {m : Nat} {c : Nat → Bool} (h : ∀ j, j < m → c j = false) : (List.range m).find? c = none := List.find?_range_eq_none.mpr fun j hj => by rw [h j hj]; rfl
theorem atI_neg1 {ds : List Dv} {d : Dv} : atI (ds ++ [d]) (-1) = some d := by
  unfold atI ixN
  rw [if_neg (by decide), if_pos (by simp; omega)]
  show (ds ++ [d])[_]? = _
  rw [show (-1 + ((ds ++ [d]).length : Int)).toNat = ds.length by simp; omega]
  simp
theorem atI_nat {ds : List Dv} {i : Nat} {d : Dv} (h : ds[i]? = some d) : atI ds (i : Int) = some d := by
  have hi : i < ds.length := (List.getElem?_eq_some_iff.mp h).1
  unfold atI ixN
  rw [if_pos (by omega), if_pos (by omega)]
  exact h
theorem go_ixC {ds : List Dv} {k : Int} {d : Dv} (e : atI ds k = some d) (q : P d st) : Go (opIx (.cst ds) (.int k) st) P := by
  have e1 : opIx (.cst ds) (.int k) st = rOk d st := by
    show (match atI ds k with | some d => rOk d st | none => none) = _
    rw [e]
  rw [e1]; exact Go.ok q
end
end R

namespace LW
open PySem PySem.Spec PyProof.Rows L2 R
def top (i : Nat) : Stmt := PySem.Challenge.pw_riskstack_k03_money_over_years.main.body.getD i (.Pass ⟨0, 0, 0, 0⟩)
abbrev s_ratio : Stmt := top 5
def dd_ratio : He.DefD := ⟨("ratio", none), "ratio", "ratio", defArgs s_ratio, defBody s_ratio, defScope s_ratio, [.int 1], []⟩
abbrev s_plus : Stmt := top 6
def dd_plus : He.DefD := ⟨("plus", none), "plus", "plus", defArgs s_plus, defBody s_plus, defScope s_plus, [], []⟩
abbrev s_minus : Stmt := top 7
def dd_minus : He.DefD := ⟨("minus", none), "minus", "minus", defArgs s_minus, defBody s_minus, defScope s_minus, [], []⟩
abbrev s_times : Stmt := top 8
def dd_times : He.DefD := ⟨("times", none), "times", "times", defArgs s_times, defBody s_times, defScope s_times, [], []⟩
abbrev s_over : Stmt := top 9
def dd_over : He.DefD := ⟨("over", none), "over", "over", defArgs s_over, defBody s_over, defScope s_over, [], []⟩
abbrev s_is_less : Stmt := top 10
def dd_is_less : He.DefD := ⟨("is_less", none), "is_less", "is_less", defArgs s_is_less, defBody s_is_less, defScope s_is_less, [], []⟩
abbrev s_power : Stmt := top 11
def dd_power : He.DefD := ⟨("power", none), "power", "power", defArgs s_power, defBody s_power, defScope s_power, [], []⟩
abbrev s_near : Stmt := top 12
def dd_near : He.DefD := ⟨("near", none), "near", "near", defArgs s_near, defBody s_near, defScope s_near, [], []⟩
abbrev s_check_rate : Stmt := top 15
def dd_check_rate : He.DefD := ⟨("check_rate", none), "check_rate", "check_rate", defArgs s_check_rate, defBody s_check_rate, defScope s_check_rate, [], []⟩
abbrev s_grown : Stmt := top 16
def dd_grown : He.DefD := ⟨("grown", none), "grown", "grown", defArgs s_grown, defBody s_grown, defScope s_grown, [], []⟩
abbrev s_worth_now : Stmt := top 17
def dd_worth_now : He.DefD := ⟨("worth_now", none), "worth_now", "worth_now", defArgs s_worth_now, defBody s_worth_now, defScope s_worth_now, [], []⟩
abbrev s_each_year : Stmt := top 18
def dd_each_year : He.DefD := ⟨("each_year", none), "each_year", "each_year", defArgs s_each_year, defBody s_each_year, defScope s_each_year, [], []⟩
abbrev s_plan : Stmt := top 19
def dd_plan : He.DefD := ⟨("plan", none), "plan", "plan", defArgs s_plan, defBody s_plan, defScope s_plan, [], []⟩
abbrev s_better : Stmt := top 20
def dd_better : He.DefD := ⟨("better", none), "better", "better", defArgs s_better, defBody s_better, defScope s_better, [], []⟩
abbrev s_rate_of : Stmt := top 21
def dd_rate_of : He.DefD := ⟨("rate_of", none), "rate_of", "rate_of", defArgs s_rate_of, defBody s_rate_of, defScope s_rate_of, [], []⟩
abbrev s_years_to : Stmt := top 22
def dd_years_to : He.DefD := ⟨("years_to", none), "years_to", "years_to", defArgs s_years_to, defBody s_years_to, defScope s_years_to, [], []⟩
abbrev s_even_out : Stmt := top 23
def dd_even_out : He.DefD := ⟨("even_out", none), "even_out", "even_out", defArgs s_even_out, defBody s_even_out, defScope s_even_out, [], []⟩
abbrev s__law_dice : Stmt := top 25
def dd__law_dice : He.DefD := ⟨("_law_dice", none), "_law_dice", "_law_dice", defArgs s__law_dice, defBody s__law_dice, defScope s__law_dice, [], []⟩
abbrev s__law_roll : Stmt := top 26
def dd__law_roll : He.DefD := ⟨("_law_roll", none), "_law_roll", "_law_roll", defArgs s__law_roll, defBody s__law_roll, defScope s__law_roll, [], []⟩
abbrev s__law_rounds : Stmt := top 27
def dd__law_rounds : He.DefD := ⟨("_law_rounds", none), "_law_rounds", "_law_rounds", defArgs s__law_rounds, defBody s__law_rounds, defScope s__law_rounds, [], []⟩
abbrev s__law_told : Stmt := top 28
def dd__law_told : He.DefD := ⟨("_law_told", none), "_law_told", "_law_told", defArgs s__law_told, defBody s__law_told, defScope s__law_told, [], []⟩
abbrev s__law_ratio : Stmt := top 29
def dd__law_ratio : He.DefD := ⟨("_law_ratio", none), "_law_ratio", "_law_ratio", defArgs s__law_ratio, defBody s__law_ratio, defScope s__law_ratio, [], []⟩
abbrev s__law_plus : Stmt := top 30
def dd__law_plus : He.DefD := ⟨("_law_plus", none), "_law_plus", "_law_plus", defArgs s__law_plus, defBody s__law_plus, defScope s__law_plus, [], []⟩
abbrev s__law_times : Stmt := top 31
def dd__law_times : He.DefD := ⟨("_law_times", none), "_law_times", "_law_times", defArgs s__law_times, defBody s__law_times, defScope s__law_times, [], []⟩
abbrev s__law_minus : Stmt := top 32
def dd__law_minus : He.DefD := ⟨("_law_minus", none), "_law_minus", "_law_minus", defArgs s__law_minus, defBody s__law_minus, defScope s__law_minus, [], []⟩
abbrev s__law_less : Stmt := top 33
def dd__law_less : He.DefD := ⟨("_law_less", none), "_law_less", "_law_less", defArgs s__law_less, defBody s__law_less, defScope s__law_less, [], []⟩
abbrev s__law_grown : Stmt := top 34
def dd__law_grown : He.DefD := ⟨("_law_grown", none), "_law_grown", "_law_grown", defArgs s__law_grown, defBody s__law_grown, defScope s__law_grown, [], []⟩
abbrev s__law_worth : Stmt := top 35
def dd__law_worth : He.DefD := ⟨("_law_worth", none), "_law_worth", "_law_worth", defArgs s__law_worth, defBody s__law_worth, defScope s__law_worth, [], []⟩
abbrev s__law_near : Stmt := top 36
def dd__law_near : He.DefD := ⟨("_law_near", none), "_law_near", "_law_near", defArgs s__law_near, defBody s__law_near, defScope s__law_near, [], []⟩
abbrev s__law_plain : Stmt := top 37
def dd__law_plain : He.DefD := ⟨("_law_plain", none), "_law_plain", "_law_plain", defArgs s__law_plain, defBody s__law_plain, defScope s__law_plain, [], []⟩
abbrev s_law : Stmt := top 38
def dd_law : He.DefD := ⟨("law", none), "law", "law", defArgs s_law, defBody s_law, defScope s_law, [], []⟩
def fnL : List He.DefD := [dd_ratio, dd_plus, dd_minus, dd_times, dd_over, dd_is_less, dd_power, dd_near, dd_check_rate, dd_grown, dd_worth_now, dd_each_year, dd_plan, dd_better, dd_rate_of, dd_years_to, dd_even_out, dd__law_dice, dd__law_roll, dd__law_rounds, dd__law_told, dd__law_ratio, dd__law_plus, dd__law_times, dd__law_minus, dd__law_less, dd__law_grown, dd__law_worth, dd__law_near, dd__law_plain, dd_law]
def faL : List He.Fa := [.glo "ratio", .glo "plus", .glo "minus", .glo "times", .glo "over", .glo "is_less", .glo "power", .glo "near", .glo "check_rate", .glo "grown", .glo "worth_now", .glo "each_year", .glo "plan", .glo "better", .glo "rate_of", .glo "years_to", .glo "even_out", .glo "_law_dice", .glo "_law_roll", .glo "_law_rounds", .glo "_law_told", .glo "_law_ratio", .glo "_law_plus", .glo "_law_times", .glo "_law_minus", .glo "_law_less", .glo "_law_grown", .glo "_law_worth", .glo "_law_near", .glo "_law_plain", .glo "law", .glo "RiskError", .exc "RiskError", .exm "RiskError" "RiskError" true, .glo "NumberError", .exc "NumberError", .exm "NumberError" "NumberError" true, .glo "MoneyError", .exc "MoneyError", .exm "MoneyError" "MoneyError" true, .free "abs", .free "any", .free "enumerate", .free "int", .free "len", .free "max", .free "min", .free "range", .free "sum", .free "tuple", .int "MOST_YEARS" 100]
def tfL : List He.Defn := [("even_out", none), ("_law_plain", none), ("law", none)]
def looseL : List Str := (List.append (["RiskError", "NumberError", "MoneyError", "ratio", "plus", "minus", "times", "over", "is_less", "power", "near", "MOST_YEARS", "check_rate", "grown", "worth_now", "each_year", "plan", "better", "rate_of", "years_to"] : List Str) (["even_out", "_law_dice", "_law_roll", "_law_rounds", "_law_told", "_law_ratio", "_law_plus", "_law_times", "_law_minus", "_law_less", "_law_grown", "_law_worth", "_law_near", "_law_plain"] : List Str))
def tfnL : List (He.Defn × Str) := [(("even_out", none), "even_out.<locals>.<genexpr>"), (("_law_plain", none), "_law_plain.<locals>.<lambda>"), (("law", none), "law.<locals>.<lambda>")]
def excL : List Str := ["RiskError", "NumberError", "MoneyError"]
def clsL : List Str := []
abbrev GG (K : PySem.W.Frag) : Cfg := cfgOf K clsL excL tfnL
abbrev TX (w : World) (K : PySem.W.Frag) (mg : Str → Option Value) (base : Heap) : Prop := Tx faL fnL [] tfnL (fun K => decide ((tfnL.map fun t => (He.cT K t.1).2).Nodup)) w K mg base
section
variable {P : Program} {w : World} {K : PySem.W.Frag} {mg : Str → Option Value} {base : Heap}
theorem ca_RiskError (T : TX w K mg base) : Caught (GG K) K (He.ga K "RiskError") (fun i => i == 0) := fun c hc => by
  obtain rfl : c = 0 := by simpa using hc
  exact T.exm 33 rfl
theorem ca_NumberError (T : TX w K mg base) : Caught (GG K) K (He.ga K "NumberError") (fun i => i == 1) := fun c hc => by
  obtain rfl : c = 1 := by simpa using hc
  exact T.exm 36 rfl
theorem ca_MoneyError (T : TX w K mg base) : Caught (GG K) K (He.ga K "MoneyError") (fun i => i == 2) := fun c hc => by
  obtain rfl : c = 2 := by simpa using hc
  exact T.exm 39 rfl
theorem sc_ratio : FnScope ["top", "bottom", "one", "other", "sign"] ["top", "bottom"] (defScope s_ratio) := ⟨rfl, rfl, rfl, by decide +kernel, rfl, by decide +kernel, by decide +kernel⟩
def d_ratio (n : Nat) : SS := (sSeq (sIf (bB (eOp opEq (eVar 1) (eC (.int 0)))) (sRaise 1) sNil)
  (sSeq (sPar 2 3 (aCons (eCall fcAbs (aCons (eVar 0) aNil)) (aCons (eCall fcAbs (aCons (eVar 1) aNil)) aNil)))
  (sSeq (sWhile (bB (eOp opNe (eVar 3) (eC (.int 0)))) (sPar 2 3 (aCons (eVar 3) (aCons (eOp opMod (eVar 2) (eVar 3)) aNil))) n)
  (sSeq (sAsg (eIf (bB (eOp opGt (eVar 1) (eC (.int 0)))) (eC (.int 1)) (eOp opSub (eC (.int 0)) (eC (.int 1)))) (gN 4))
  (sRet (eTup (aCons (eOp opDiv (eOp opMul (eVar 4) (eVar 0)) (eVar 2)) (aCons (eOp opDiv (eOp opMul (eVar 4) (eVar 1)) (eVar 2)) aNil))))))))
def m_ratio : FC := mRatio 1
theorem mir_ratio : ∀ ds st r st', ds.length = 2 → m_ratio ds st = some (r, st') → ∃ n, fnOf (d_ratio n) 5 ds st = some (r, st') := mir_ratioA fun _ => rfl
theorem der_ratio (T : TX w K mg base)  (n : Nat) (A : Around) (outer : List Env) (s : Shared) (H : Hp) (E : XK) (hr : Room 1 (A.deeper (envOfC dd_ratio.qual dd_ratio.scope s.heap.objs.size (He.fAd K dd_ratio.at_) (.ref (He.codeOf K dd_ratio.at_))))) :
    PSs (cxOf (L2.CX P w) P w K mg base ["top", "bottom", "one", "other", "sign"] dd_ratio.qual (defScope s_ratio) (He.fAd K dd_ratio.at_) (.ref (He.codeOf K dd_ratio.at_)) A outer s H E) (defBody s_ratio) (tS (GG K) E (d_ratio n)) := by
  exact (r_cons (r_if (r_tc (c_eq (hr.mono (by decide : 1 ≤ 1)).units) (r_var (pv 1)) r_int) (r_one (r_raise 1 rfl takes_k (pmk_own PySem.F.excBase_ValueError (T.exc 35 rfl).1 (T.glo 34 rfl) (T.exc 35 rfl).2.1 (raises_own (T.exc 35 rfl).2.2.1 (T.exc 35 rfl).2.2.2) rfl))) r_nil)
  (r_cons (r_par rfl (by exact sc_ratio.nd) rfl rfl (by decide) rfl rfl (r_acons (r_callB (call_abs) f_abs (by rfl) (T.free 40 rfl) (by decide +kernel) (r_acons (r_var (pv 0)) r_anil)) (r_acons (r_callB (call_abs) f_abs (by rfl) (T.free 40 rfl) (by decide +kernel) (r_acons (r_var (pv 1)) r_anil)) r_anil)) (by rfl))
  (r_cons (r_while n passes_k (r_tc (c_ne (hr.mono (by decide : 1 ≤ 1)).units) (r_var (pv 3)) r_int) (r_one (r_par rfl (by exact sc_ratio.nd) rfl rfl (by decide) rfl rfl (r_acons (r_var (pv 3)) (r_acons (r_mod (r_var (pv 2)) (r_var (pv 3))) r_anil)) (by rfl))))
  (r_cons (r_asg (r_ifx (r_tc c_gt (r_var (pv 1)) r_int) r_int (r_sub r_int r_int)) (r_gn (pg_name (i := 4) (by exact sc_ratio.nd) rfl (by first | exact .inl rfl | exact .inr rfl))))
  (r_one (r_ret (r_tup (r_acons (r_div (r_mul (r_var (pv 4)) (r_var (pv 0))) (r_var (pv 2))) (r_acons (r_div (r_mul (r_var (pv 4)) (r_var (pv 1))) (r_var (pv 2))) r_anil)))))))))
theorem ok_ratio (T : TX w K mg base) : FnB P w K mg base 2 "ratio" ["top", "bottom"] (spOf (GG K) 2 m_ratio) := by
  obtain ⟨fd, F⟩ := T.def_ 0 (d := dd_ratio) rfl
  have hb : Binds K fd ["top", "bottom"] [] := by
    obtain ⟨ds, rv, hb⟩ := F.binds1 (ps := ["top", "bottom"]) 2 1 (by simp [He.DefD.dvs, dd_ratio]) (by rfl) fun T kV doc pm an cdv ct us its h1 h2 => match us, its, h1, h2 with | [_, _], [_], _, _ => ⟨_, rfl, rfl⟩
    cases rv
    exact hb
  exact ⟨fd, ok_fn0 (G := GG K) (d := dd_ratio) d_ratio F sc_ratio (fun n A outer s H E hr => der_ratio T n A outer s H E hr) mir_ratio, hb, F.kp, T.glo 0 rfl, fun_lk F⟩
theorem sc_plus : FnScope ["one", "other"] ["one", "other"] (defScope s_plus) := ⟨rfl, rfl, rfl, by decide +kernel, rfl, by decide +kernel, by decide +kernel⟩
def d_plus (n : Nat) : SS := (sRet (eCall m_ratio (aCons (eOp opAdd (eOp opMul (eOp opIx (eVar 0) (eC (.int 0))) (eOp opIx (eVar 1) (eC (.int 1)))) (eOp opMul (eOp opIx (eVar 1) (eC (.int 0))) (eOp opIx (eVar 0) (eC (.int 1))))) (aCons (eOp opMul (eOp opIx (eVar 0) (eC (.int 1))) (eOp opIx (eVar 1) (eC (.int 1)))) aNil))))
def b_plus : FC := fun ds st => fnOf (d_plus 400) 2 ds st
def m_plus : FC := frame1 b_plus
theorem mir_plus : ∀ ds st r st', ds.length = 2 → b_plus ds st = some (r, st') → ∃ n, fnOf (d_plus n) 2 ds st = some (r, st') := fun ds st r st' _ e => ⟨400, e⟩
theorem der_plus (T : TX w K mg base) (B_ratio : FnB P w K mg base 2 "ratio" ["top", "bottom"] (spOf (GG K) 2 m_ratio)) (n : Nat) (A : Around) (outer : List Env) (s : Shared) (H : Hp) (E : XK) (hr : Room 2 (A.deeper (envOfC dd_plus.qual dd_plus.scope s.heap.objs.size (He.fAd K dd_plus.at_) (.ref (He.codeOf K dd_plus.at_))))) :
    PSs (cxOf (L2.CX P w) P w K mg base ["one", "other"] dd_plus.qual (defScope s_plus) (He.fAd K dd_plus.at_) (.ref (He.codeOf K dd_plus.at_)) A outer s H E) (defBody s_plus) (tS (GG K) E (d_plus n)) := by
  exact (r_one (r_ret (r_callF (x := "ratio") B_ratio (hr.mono (by decide : 2 ≤ 2)) takes_k (by rfl) (r_acons (r_add rfl (r_mul (r_ix (r_var (pv 0)) r_int) (r_ix (r_var (pv 1)) r_int)) (r_mul (r_ix (r_var (pv 1)) r_int) (r_ix (r_var (pv 0)) r_int))) (r_acons (r_mul (r_ix (r_var (pv 0)) r_int) (r_ix (r_var (pv 1)) r_int)) r_anil)) (lenA_cons (lenA_cons lenA_nil)))))
theorem ok_plus (T : TX w K mg base) : FnB P w K mg base 3 "plus" ["one", "other"] (spOf (GG K) 2 m_plus) := by
  obtain ⟨fd, F⟩ := T.def_ 1 (d := dd_plus) rfl
  have hb : Binds K fd ["one", "other"] [] := F.bindsN fun _ _ _ _ _ _ us hl => match us, hl with | [_, _], _ => rfl
  exact ⟨fd, ok_frame (ok_fn0 (G := GG K) (d := dd_plus) d_plus F sc_plus (fun n A outer s H E hr => der_plus T (ok_ratio T) n A outer s H E hr) mir_plus), hb, F.kp, T.glo 1 rfl, fun_lk F⟩
theorem sc_minus : FnScope ["one", "other"] ["one", "other"] (defScope s_minus) := ⟨rfl, rfl, rfl, by decide +kernel, rfl, by decide +kernel, by decide +kernel⟩
def d_minus (n : Nat) : SS := (sRet (eCall m_ratio (aCons (eOp opSub (eOp opMul (eOp opIx (eVar 0) (eC (.int 0))) (eOp opIx (eVar 1) (eC (.int 1)))) (eOp opMul (eOp opIx (eVar 1) (eC (.int 0))) (eOp opIx (eVar 0) (eC (.int 1))))) (aCons (eOp opMul (eOp opIx (eVar 0) (eC (.int 1))) (eOp opIx (eVar 1) (eC (.int 1)))) aNil))))
def b_minus : FC := fun ds st => fnOf (d_minus 400) 2 ds st
def m_minus : FC := frame1 b_minus
theorem mir_minus : ∀ ds st r st', ds.length = 2 → b_minus ds st = some (r, st') → ∃ n, fnOf (d_minus n) 2 ds st = some (r, st') := fun ds st r st' _ e => ⟨400, e⟩
theorem der_minus (T : TX w K mg base) (B_ratio : FnB P w K mg base 2 "ratio" ["top", "bottom"] (spOf (GG K) 2 m_ratio)) (n : Nat) (A : Around) (outer : List Env) (s : Shared) (H : Hp) (E : XK) (hr : Room 2 (A.deeper (envOfC dd_minus.qual dd_minus.scope s.heap.objs.size (He.fAd K dd_minus.at_) (.ref (He.codeOf K dd_minus.at_))))) :
    PSs (cxOf (L2.CX P w) P w K mg base ["one", "other"] dd_minus.qual (defScope s_minus) (He.fAd K dd_minus.at_) (.ref (He.codeOf K dd_minus.at_)) A outer s H E) (defBody s_minus) (tS (GG K) E (d_minus n)) := by
  exact (r_one (r_ret (r_callF (x := "ratio") B_ratio (hr.mono (by decide : 2 ≤ 2)) takes_k (by rfl) (r_acons (r_sub (r_mul (r_ix (r_var (pv 0)) r_int) (r_ix (r_var (pv 1)) r_int)) (r_mul (r_ix (r_var (pv 1)) r_int) (r_ix (r_var (pv 0)) r_int))) (r_acons (r_mul (r_ix (r_var (pv 0)) r_int) (r_ix (r_var (pv 1)) r_int)) r_anil)) (lenA_cons (lenA_cons lenA_nil)))))
theorem ok_minus (T : TX w K mg base) : FnB P w K mg base 3 "minus" ["one", "other"] (spOf (GG K) 2 m_minus) := by
  obtain ⟨fd, F⟩ := T.def_ 2 (d := dd_minus) rfl
  have hb : Binds K fd ["one", "other"] [] := F.bindsN fun _ _ _ _ _ _ us hl => match us, hl with | [_, _], _ => rfl
  exact ⟨fd, ok_frame (ok_fn0 (G := GG K) (d := dd_minus) d_minus F sc_minus (fun n A outer s H E hr => der_minus T (ok_ratio T) n A outer s H E hr) mir_minus), hb, F.kp, T.glo 2 rfl, fun_lk F⟩
theorem sc_times : FnScope ["one", "other"] ["one", "other"] (defScope s_times) := ⟨rfl, rfl, rfl, by decide +kernel, rfl, by decide +kernel, by decide +kernel⟩
def d_times (n : Nat) : SS := (sRet (eCall m_ratio (aCons (eOp opMul (eOp opIx (eVar 0) (eC (.int 0))) (eOp opIx (eVar 1) (eC (.int 0)))) (aCons (eOp opMul (eOp opIx (eVar 0) (eC (.int 1))) (eOp opIx (eVar 1) (eC (.int 1)))) aNil))))
def b_times : FC := fun ds st => fnOf (d_times 400) 2 ds st
def m_times : FC := frame1 b_times
theorem mir_times : ∀ ds st r st', ds.length = 2 → b_times ds st = some (r, st') → ∃ n, fnOf (d_times n) 2 ds st = some (r, st') := fun ds st r st' _ e => ⟨400, e⟩
theorem der_times (T : TX w K mg base) (B_ratio : FnB P w K mg base 2 "ratio" ["top", "bottom"] (spOf (GG K) 2 m_ratio)) (n : Nat) (A : Around) (outer : List Env) (s : Shared) (H : Hp) (E : XK) (hr : Room 2 (A.deeper (envOfC dd_times.qual dd_times.scope s.heap.objs.size (He.fAd K dd_times.at_) (.ref (He.codeOf K dd_times.at_))))) :
    PSs (cxOf (L2.CX P w) P w K mg base ["one", "other"] dd_times.qual (defScope s_times) (He.fAd K dd_times.at_) (.ref (He.codeOf K dd_times.at_)) A outer s H E) (defBody s_times) (tS (GG K) E (d_times n)) := by
  exact (r_one (r_ret (r_callF (x := "ratio") B_ratio (hr.mono (by decide : 2 ≤ 2)) takes_k (by rfl) (r_acons (r_mul (r_ix (r_var (pv 0)) r_int) (r_ix (r_var (pv 1)) r_int)) (r_acons (r_mul (r_ix (r_var (pv 0)) r_int) (r_ix (r_var (pv 1)) r_int)) r_anil)) (lenA_cons (lenA_cons lenA_nil)))))
theorem ok_times (T : TX w K mg base) : FnB P w K mg base 3 "times" ["one", "other"] (spOf (GG K) 2 m_times) := by
  obtain ⟨fd, F⟩ := T.def_ 3 (d := dd_times) rfl
  have hb : Binds K fd ["one", "other"] [] := F.bindsN fun _ _ _ _ _ _ us hl => match us, hl with | [_, _], _ => rfl
  exact ⟨fd, ok_frame (ok_fn0 (G := GG K) (d := dd_times) d_times F sc_times (fun n A outer s H E hr => der_times T (ok_ratio T) n A outer s H E hr) mir_times), hb, F.kp, T.glo 3 rfl, fun_lk F⟩
theorem sc_over : FnScope ["one", "other"] ["one", "other"] (defScope s_over) := ⟨rfl, rfl, rfl, by decide +kernel, rfl, by decide +kernel, by decide +kernel⟩
def d_over (n : Nat) : SS := (sRet (eCall m_ratio (aCons (eOp opMul (eOp opIx (eVar 0) (eC (.int 0))) (eOp opIx (eVar 1) (eC (.int 1)))) (aCons (eOp opMul (eOp opIx (eVar 0) (eC (.int 1))) (eOp opIx (eVar 1) (eC (.int 0)))) aNil))))
def b_over : FC := fun ds st => fnOf (d_over 400) 2 ds st
def m_over : FC := frame1 b_over
theorem mir_over : ∀ ds st r st', ds.length = 2 → b_over ds st = some (r, st') → ∃ n, fnOf (d_over n) 2 ds st = some (r, st') := fun ds st r st' _ e => ⟨400, e⟩
theorem der_over (T : TX w K mg base) (B_ratio : FnB P w K mg base 2 "ratio" ["top", "bottom"] (spOf (GG K) 2 m_ratio)) (n : Nat) (A : Around) (outer : List Env) (s : Shared) (H : Hp) (E : XK) (hr : Room 2 (A.deeper (envOfC dd_over.qual dd_over.scope s.heap.objs.size (He.fAd K dd_over.at_) (.ref (He.codeOf K dd_over.at_))))) :
    PSs (cxOf (L2.CX P w) P w K mg base ["one", "other"] dd_over.qual (defScope s_over) (He.fAd K dd_over.at_) (.ref (He.codeOf K dd_over.at_)) A outer s H E) (defBody s_over) (tS (GG K) E (d_over n)) := by
  exact (r_one (r_ret (r_callF (x := "ratio") B_ratio (hr.mono (by decide : 2 ≤ 2)) takes_k (by rfl) (r_acons (r_mul (r_ix (r_var (pv 0)) r_int) (r_ix (r_var (pv 1)) r_int)) (r_acons (r_mul (r_ix (r_var (pv 0)) r_int) (r_ix (r_var (pv 1)) r_int)) r_anil)) (lenA_cons (lenA_cons lenA_nil)))))
theorem ok_over (T : TX w K mg base) : FnB P w K mg base 3 "over" ["one", "other"] (spOf (GG K) 2 m_over) := by
  obtain ⟨fd, F⟩ := T.def_ 4 (d := dd_over) rfl
  have hb : Binds K fd ["one", "other"] [] := F.bindsN fun _ _ _ _ _ _ us hl => match us, hl with | [_, _], _ => rfl
  exact ⟨fd, ok_frame (ok_fn0 (G := GG K) (d := dd_over) d_over F sc_over (fun n A outer s H E hr => der_over T (ok_ratio T) n A outer s H E hr) mir_over), hb, F.kp, T.glo 4 rfl, fun_lk F⟩
theorem sc_is_less : FnScope ["one", "other"] ["one", "other"] (defScope s_is_less) := ⟨rfl, rfl, rfl, by decide +kernel, rfl, by decide +kernel, by decide +kernel⟩
def d_is_less (n : Nat) : SS := (sRet (eOp opLt (eOp opMul (eOp opIx (eVar 0) (eC (.int 0))) (eOp opIx (eVar 1) (eC (.int 1)))) (eOp opMul (eOp opIx (eVar 1) (eC (.int 0))) (eOp opIx (eVar 0) (eC (.int 1))))))
def b_is_less : FC := fun ds st => fnOf (d_is_less 400) 2 ds st
def m_is_less : FC := frame1 b_is_less
theorem mir_is_less : ∀ ds st r st', ds.length = 2 → b_is_less ds st = some (r, st') → ∃ n, fnOf (d_is_less n) 2 ds st = some (r, st') := fun ds st r st' _ e => ⟨400, e⟩
theorem der_is_less (T : TX w K mg base)  (n : Nat) (A : Around) (outer : List Env) (s : Shared) (H : Hp) (E : XK) (hr : Room 1 (A.deeper (envOfC dd_is_less.qual dd_is_less.scope s.heap.objs.size (He.fAd K dd_is_less.at_) (.ref (He.codeOf K dd_is_less.at_))))) :
    PSs (cxOf (L2.CX P w) P w K mg base ["one", "other"] dd_is_less.qual (defScope s_is_less) (He.fAd K dd_is_less.at_) (.ref (He.codeOf K dd_is_less.at_)) A outer s H E) (defBody s_is_less) (tS (GG K) E (d_is_less n)) := by
  exact (r_one (r_ret (r_c c_lt (r_mul (r_ix (r_var (pv 0)) r_int) (r_ix (r_var (pv 1)) r_int)) (r_mul (r_ix (r_var (pv 1)) r_int) (r_ix (r_var (pv 0)) r_int)))))
theorem ok_is_less (T : TX w K mg base) : FnB P w K mg base 2 "is_less" ["one", "other"] (spOf (GG K) 2 m_is_less) := by
  obtain ⟨fd, F⟩ := T.def_ 5 (d := dd_is_less) rfl
  have hb : Binds K fd ["one", "other"] [] := F.bindsN fun _ _ _ _ _ _ us hl => match us, hl with | [_, _], _ => rfl
  exact ⟨fd, ok_frame (ok_fn0 (G := GG K) (d := dd_is_less) d_is_less F sc_is_less (fun n A outer s H E hr => der_is_less T n A outer s H E hr) mir_is_less), hb, F.kp, T.glo 5 rfl, fun_lk F⟩
theorem sc_power : FnScope ["one", "many", "found", "turn"] ["one", "many"] (defScope s_power) := ⟨rfl, rfl, rfl, by decide +kernel, rfl, by decide +kernel, by decide +kernel⟩
def d_power (n : Nat) : SS := (sSeq (sIf (bNot (bB (eChain opLe opLe (eC (.int 0)) (eVar 1) (eC (.int 200))))) (sRaise 1) sNil)
  (sSeq (sAsg (eTup (aCons (eC (.int 1)) (aCons (eC (.int 1)) aNil))) (gN 2))
  (sSeq (sFor (wR1 (aCons (eVar 1) aNil)) (gN 3) (sAsg (eCall m_times (aCons (eVar 2) (aCons (eVar 0) aNil))) (gN 2)))
  (sRet (eVar 2)))))
def b_power : FC := fun ds st => fnOf (d_power 400) 4 ds st
def m_power : FC := frame1 b_power
theorem mir_power : ∀ ds st r st', ds.length = 2 → b_power ds st = some (r, st') → ∃ n, fnOf (d_power n) 4 ds st = some (r, st') := fun ds st r st' _ e => ⟨400, e⟩
theorem der_power (T : TX w K mg base) (B_times : FnB P w K mg base 3 "times" ["one", "other"] (spOf (GG K) 2 m_times)) (n : Nat) (A : Around) (outer : List Env) (s : Shared) (H : Hp) (E : XK) (hr : Room 3 (A.deeper (envOfC dd_power.qual dd_power.scope s.heap.objs.size (He.fAd K dd_power.at_) (.ref (He.codeOf K dd_power.at_))))) :
    PSs (cxOf (L2.CX P w) P w K mg base ["one", "many", "found", "turn"] dd_power.qual (defScope s_power) (He.fAd K dd_power.at_) (.ref (He.codeOf K dd_power.at_)) A outer s H E) (defBody s_power) (tS (GG K) E (d_power n)) := by
  exact (r_cons (r_if (r_tnot (r_tch c_le c_le r_int (r_var (pv 1)) r_int)) (r_one (r_raise 1 rfl takes_k (pmk_own PySem.F.excBase_ValueError (T.exc 35 rfl).1 (T.glo 34 rfl) (T.exc 35 rfl).2.1 (raises_own (T.exc 35 rfl).2.2.1 (T.exc 35 rfl).2.2.2) rfl))) r_nil)
  (r_cons (r_asg (r_tup (r_acons r_int (r_acons r_int r_anil))) (r_gn (pg_name (i := 2) (by exact sc_power.nd) rfl (by first | exact .inl rfl | exact .inr rfl))))
  (r_cons (r_for passes_k rfl (w_r1 (by rfl) (T.free 47 rfl) (r_acons (r_var (pv 1)) r_anil)) (r_gn (pg_name (i := 3) (by exact sc_power.nd) rfl (by first | exact .inl rfl | exact .inr rfl))) (r_one (r_asg (r_callF (x := "times") B_times (hr.mono (by decide : 3 ≤ 3)) takes_k (by rfl) (r_acons (r_var (pv 2)) (r_acons (r_var (pv 0)) r_anil)) (lenA_cons (lenA_cons lenA_nil))) (r_gn (pg_name (i := 2) (by exact sc_power.nd) rfl (by first | exact .inl rfl | exact .inr rfl))))))
  (r_one (r_ret (r_var (pv 2)))))))
theorem ok_power (T : TX w K mg base) : FnB P w K mg base 4 "power" ["one", "many"] (spOf (GG K) 2 m_power) := by
  obtain ⟨fd, F⟩ := T.def_ 6 (d := dd_power) rfl
  have hb : Binds K fd ["one", "many"] [] := F.bindsN fun _ _ _ _ _ _ us hl => match us, hl with | [_, _], _ => rfl
  exact ⟨fd, ok_frame (ok_fn0 (G := GG K) (d := dd_power) d_power F sc_power (fun n A outer s H E hr => der_power T (ok_times T) n A outer s H E hr) mir_power), hb, F.kp, T.glo 6 rfl, fun_lk F⟩
theorem sc_near : FnScope ["one", "low", "twice"] ["one"] (defScope s_near) := ⟨rfl, rfl, rfl, by decide +kernel, rfl, by decide +kernel, by decide +kernel⟩
def d_near (n : Nat) : SS := (sSeq (sAsg (eOp opDiv (eOp opIx (eVar 0) (eC (.int 0))) (eOp opIx (eVar 0) (eC (.int 1)))) (gN 1))
  (sSeq (sAsg (eOp opMul (eC (.int 2)) (eOp opSub (eOp opIx (eVar 0) (eC (.int 0))) (eOp opMul (eVar 1) (eOp opIx (eVar 0) (eC (.int 1)))))) (gN 2))
  (sSeq (sIf (bB (eOp opEq (eVar 2) (eOp opIx (eVar 0) (eC (.int 1))))) (sRet (eIf (bB (eOp opEq (eOp opMod (eVar 1) (eC (.int 2))) (eC (.int 0)))) (eVar 1) (eOp opAdd (eVar 1) (eC (.int 1))))) sNil)
  (sRet (eIf (bB (eOp opLt (eVar 2) (eOp opIx (eVar 0) (eC (.int 1))))) (eVar 1) (eOp opAdd (eVar 1) (eC (.int 1))))))))
def b_near : FC := fun ds st => fnOf (d_near 400) 3 ds st
def m_near : FC := frame1 b_near
theorem mir_near : ∀ ds st r st', ds.length = 1 → b_near ds st = some (r, st') → ∃ n, fnOf (d_near n) 3 ds st = some (r, st') := fun ds st r st' _ e => ⟨400, e⟩
theorem der_near (T : TX w K mg base)  (n : Nat) (A : Around) (outer : List Env) (s : Shared) (H : Hp) (E : XK) (hr : Room 1 (A.deeper (envOfC dd_near.qual dd_near.scope s.heap.objs.size (He.fAd K dd_near.at_) (.ref (He.codeOf K dd_near.at_))))) :
    PSs (cxOf (L2.CX P w) P w K mg base ["one", "low", "twice"] dd_near.qual (defScope s_near) (He.fAd K dd_near.at_) (.ref (He.codeOf K dd_near.at_)) A outer s H E) (defBody s_near) (tS (GG K) E (d_near n)) := by
  exact (r_cons (r_asg (r_div (r_ix (r_var (pv 0)) r_int) (r_ix (r_var (pv 0)) r_int)) (r_gn (pg_name (i := 1) (by exact sc_near.nd) rfl (by first | exact .inl rfl | exact .inr rfl))))
  (r_cons (r_asg (r_mul r_int (r_sub (r_ix (r_var (pv 0)) r_int) (r_mul (r_var (pv 1)) (r_ix (r_var (pv 0)) r_int)))) (r_gn (pg_name (i := 2) (by exact sc_near.nd) rfl (by first | exact .inl rfl | exact .inr rfl))))
  (r_cons (r_if (r_tc (c_eq (hr.mono (by decide : 1 ≤ 1)).units) (r_var (pv 2)) (r_ix (r_var (pv 0)) r_int)) (r_one (r_ret (r_ifx (r_tc (c_eq (hr.mono (by decide : 1 ≤ 1)).units) (r_mod (r_var (pv 1)) r_int) r_int) (r_var (pv 1)) (r_add rfl (r_var (pv 1)) r_int)))) r_nil)
  (r_one (r_ret (r_ifx (r_tc c_lt (r_var (pv 2)) (r_ix (r_var (pv 0)) r_int)) (r_var (pv 1)) (r_add rfl (r_var (pv 1)) r_int)))))))
theorem ok_near (T : TX w K mg base) : FnB P w K mg base 2 "near" ["one"] (spOf (GG K) 1 m_near) := by
  obtain ⟨fd, F⟩ := T.def_ 7 (d := dd_near) rfl
  have hb : Binds K fd ["one"] [] := F.bindsN fun _ _ _ _ _ _ us hl => match us, hl with | [_], _ => rfl
  exact ⟨fd, ok_frame (ok_fn0 (G := GG K) (d := dd_near) d_near F sc_near (fun n A outer s H E hr => der_near T n A outer s H E hr) mir_near), hb, F.kp, T.glo 7 rfl, fun_lk F⟩
theorem sc_check_rate : FnScope ["rate"] ["rate"] (defScope s_check_rate) := ⟨rfl, rfl, rfl, by decide +kernel, rfl, by decide +kernel, by decide +kernel⟩
def d_check_rate (n : Nat) : SS := (sIf (bOr (bB (eOp opLt (eOp opIx (eVar 0) (eC (.int 0))) (eC (.int 0)))) (bB (eCall m_is_less (aCons (eTup (aCons (eC (.int 1)) (aCons (eC (.int 1)) aNil))) (aCons (eVar 0) aNil))))) (sRaise 2) sNil)
def b_check_rate : FC := fun ds st => fnOf (d_check_rate 400) 1 ds st
def m_check_rate : FC := frame1 b_check_rate
theorem mir_check_rate : ∀ ds st r st', ds.length = 1 → b_check_rate ds st = some (r, st') → ∃ n, fnOf (d_check_rate n) 1 ds st = some (r, st') := fun ds st r st' _ e => ⟨400, e⟩
theorem der_check_rate (T : TX w K mg base) (B_is_less : FnB P w K mg base 2 "is_less" ["one", "other"] (spOf (GG K) 2 m_is_less)) (n : Nat) (A : Around) (outer : List Env) (s : Shared) (H : Hp) (E : XK) (hr : Room 2 (A.deeper (envOfC dd_check_rate.qual dd_check_rate.scope s.heap.objs.size (He.fAd K dd_check_rate.at_) (.ref (He.codeOf K dd_check_rate.at_))))) :
    PSs (cxOf (L2.CX P w) P w K mg base ["rate"] dd_check_rate.qual (defScope s_check_rate) (He.fAd K dd_check_rate.at_) (.ref (He.codeOf K dd_check_rate.at_)) A outer s H E) (defBody s_check_rate) (tS (GG K) E (d_check_rate n)) := by
  exact (r_one (r_if (L2.PW.pt (r_wor (r_tc c_lt (r_ix (r_var (pv 0)) r_int) r_int) (r_wor1 (r_test (r_callF (x := "is_less") B_is_less (hr.mono (by decide : 2 ≤ 2)) takes_k (by rfl) (r_acons (r_tup (r_acons r_int (r_acons r_int r_anil))) (r_acons (r_var (pv 0)) r_anil)) (lenA_cons (lenA_cons lenA_nil))))))) (r_one (r_raise 2 rfl takes_k (pmk_own PySem.F.excBase_ValueError (T.exc 38 rfl).1 (T.glo 37 rfl) (T.exc 38 rfl).2.1 (raises_own (T.exc 38 rfl).2.2.1 (T.exc 38 rfl).2.2.2) rfl))) r_nil))
theorem ok_check_rate (T : TX w K mg base) : FnB P w K mg base 3 "check_rate" ["rate"] (spOf (GG K) 1 m_check_rate) := by
  obtain ⟨fd, F⟩ := T.def_ 8 (d := dd_check_rate) rfl
  have hb : Binds K fd ["rate"] [] := F.bindsN fun _ _ _ _ _ _ us hl => match us, hl with | [_], _ => rfl
  exact ⟨fd, ok_frame (ok_fn0 (G := GG K) (d := dd_check_rate) d_check_rate F sc_check_rate (fun n A outer s H E hr => der_check_rate T (ok_is_less T) n A outer s H E hr) mir_check_rate), hb, F.kp, T.glo 8 rfl, fun_lk F⟩
theorem sc_grown : FnScope ["pence", "rate", "years"] ["pence", "rate", "years"] (defScope s_grown) := ⟨rfl, rfl, rfl, by decide +kernel, rfl, by decide +kernel, by decide +kernel⟩
def d_grown (n : Nat) : SS := (sSeq (sExp (eCall m_check_rate (aCons (eVar 1) aNil)))
  (sSeq (sIf (bNot (bB (eChain opLe opLe (eC (.int 0)) (eVar 2) (eC (.int 100))))) (sRaise 2) sNil)
  (sRet (eCall m_times (aCons (eVar 0) (aCons (eCall m_power (aCons (eCall m_plus (aCons (eTup (aCons (eC (.int 1)) (aCons (eC (.int 1)) aNil))) (aCons (eVar 1) aNil))) (aCons (eVar 2) aNil))) aNil))))))
def b_grown : FC := fun ds st => fnOf (d_grown 400) 3 ds st
def m_grown : FC := frame1 b_grown
theorem mir_grown : ∀ ds st r st', ds.length = 3 → b_grown ds st = some (r, st') → ∃ n, fnOf (d_grown n) 3 ds st = some (r, st') := fun ds st r st' _ e => ⟨400, e⟩
theorem der_grown (T : TX w K mg base) (B_check_rate : FnB P w K mg base 3 "check_rate" ["rate"] (spOf (GG K) 1 m_check_rate)) (B_plus : FnB P w K mg base 3 "plus" ["one", "other"] (spOf (GG K) 2 m_plus)) (B_power : FnB P w K mg base 4 "power" ["one", "many"] (spOf (GG K) 2 m_power)) (B_times : FnB P w K mg base 3 "times" ["one", "other"] (spOf (GG K) 2 m_times)) (n : Nat) (A : Around) (outer : List Env) (s : Shared) (H : Hp) (E : XK) (hr : Room 4 (A.deeper (envOfC dd_grown.qual dd_grown.scope s.heap.objs.size (He.fAd K dd_grown.at_) (.ref (He.codeOf K dd_grown.at_))))) :
    PSs (cxOf (L2.CX P w) P w K mg base ["pence", "rate", "years"] dd_grown.qual (defScope s_grown) (He.fAd K dd_grown.at_) (.ref (He.codeOf K dd_grown.at_)) A outer s H E) (defBody s_grown) (tS (GG K) E (d_grown n)) := by
  exact (r_cons (r_exp (r_callF (x := "check_rate") B_check_rate (hr.mono (by decide : 3 ≤ 4)) takes_k (by rfl) (r_acons (r_var (pv 1)) r_anil) (lenA_cons lenA_nil)))
  (r_cons (r_if (r_tnot (r_tch c_le c_le r_int (r_var (pv 2)) (r_gI (T.int 50 rfl) (by rfl)))) (r_one (r_raise 2 rfl takes_k (pmk_own PySem.F.excBase_ValueError (T.exc 38 rfl).1 (T.glo 37 rfl) (T.exc 38 rfl).2.1 (raises_own (T.exc 38 rfl).2.2.1 (T.exc 38 rfl).2.2.2) rfl))) r_nil)
  (r_one (r_ret (r_callF (x := "times") B_times (hr.mono (by decide : 3 ≤ 4)) takes_k (by rfl) (r_acons (r_var (pv 0)) (r_acons (r_callF (x := "power") B_power (hr.mono (by decide : 4 ≤ 4)) takes_k (by rfl) (r_acons (r_callF (x := "plus") B_plus (hr.mono (by decide : 3 ≤ 4)) takes_k (by rfl) (r_acons (r_tup (r_acons r_int (r_acons r_int r_anil))) (r_acons (r_var (pv 1)) r_anil)) (lenA_cons (lenA_cons lenA_nil))) (r_acons (r_var (pv 2)) r_anil)) (lenA_cons (lenA_cons lenA_nil))) r_anil)) (lenA_cons (lenA_cons lenA_nil)))))))
theorem ok_grown (T : TX w K mg base) : FnB P w K mg base 5 "grown" ["pence", "rate", "years"] (spOf (GG K) 3 m_grown) := by
  obtain ⟨fd, F⟩ := T.def_ 9 (d := dd_grown) rfl
  have hb : Binds K fd ["pence", "rate", "years"] [] := F.bindsN fun _ _ _ _ _ _ us hl => match us, hl with | [_, _, _], _ => rfl
  exact ⟨fd, ok_frame (ok_fn0 (G := GG K) (d := dd_grown) d_grown F sc_grown (fun n A outer s H E hr => der_grown T (ok_check_rate T) (ok_plus T) (ok_power T) (ok_times T) n A outer s H E hr) mir_grown), hb, F.kp, T.glo 9 rfl, fun_lk F⟩
theorem sc_worth_now : FnScope ["rows", "rate", "found", "year", "pence"] ["rows", "rate"] (defScope s_worth_now) := ⟨rfl, rfl, rfl, by decide +kernel, rfl, by decide +kernel, by decide +kernel⟩
def d_worth_now (n : Nat) : SS := (sSeq (sAsg (eTup (aCons (eC (.int 0)) (aCons (eC (.int 1)) aNil))) (gN 2))
  (sSeq (sFor (wSeq (eVar 0)) (gT [(gN 3), (gN 4)]) (sAsg (eCall m_plus (aCons (eVar 2) (aCons (eCall m_over (aCons (eTup (aCons (eVar 4) (aCons (eC (.int 1)) aNil))) (aCons (eCall m_grown (aCons (eTup (aCons (eC (.int 1)) (aCons (eC (.int 1)) aNil))) (aCons (eVar 1) (aCons (eVar 3) aNil)))) aNil))) aNil))) (gN 2)))
  (sRet (eVar 2))))
def b_worth_now : FC := fun ds st => fnOf (d_worth_now 400) 5 ds st
def m_worth_now : FC := frame1 b_worth_now
theorem mir_worth_now : ∀ ds st r st', ds.length = 2 → b_worth_now ds st = some (r, st') → ∃ n, fnOf (d_worth_now n) 5 ds st = some (r, st') := fun ds st r st' _ e => ⟨400, e⟩
theorem der_worth_now (T : TX w K mg base) (B_grown : FnB P w K mg base 5 "grown" ["pence", "rate", "years"] (spOf (GG K) 3 m_grown)) (B_over : FnB P w K mg base 3 "over" ["one", "other"] (spOf (GG K) 2 m_over)) (B_plus : FnB P w K mg base 3 "plus" ["one", "other"] (spOf (GG K) 2 m_plus)) (n : Nat) (A : Around) (outer : List Env) (s : Shared) (H : Hp) (E : XK) (hr : Room 5 (A.deeper (envOfC dd_worth_now.qual dd_worth_now.scope s.heap.objs.size (He.fAd K dd_worth_now.at_) (.ref (He.codeOf K dd_worth_now.at_))))) :
    PSs (cxOf (L2.CX P w) P w K mg base ["rows", "rate", "found", "year", "pence"] dd_worth_now.qual (defScope s_worth_now) (He.fAd K dd_worth_now.at_) (.ref (He.codeOf K dd_worth_now.at_)) A outer s H E) (defBody s_worth_now) (tS (GG K) E (d_worth_now n)) := by
  exact (r_cons (r_asg (r_tup (r_acons r_int (r_acons r_int r_anil))) (r_gn (pg_name (i := 2) (by exact sc_worth_now.nd) rfl (by first | exact .inl rfl | exact .inr rfl))))
  (r_cons (r_for passes_k rfl (w_seq (r_var (pv 0))) (r_gtup rfl (r_gs (r_gn (pg_name (i := 3) (by exact sc_worth_now.nd) rfl (by first | exact .inl rfl | exact .inr rfl))) (r_gs (r_gn (pg_name (i := 4) (by exact sc_worth_now.nd) rfl (by first | exact .inl rfl | exact .inr rfl))) (r_gs0)))) (r_one (r_asg (r_callF (x := "plus") B_plus (hr.mono (by decide : 3 ≤ 5)) takes_k (by rfl) (r_acons (r_var (pv 2)) (r_acons (r_callF (x := "over") B_over (hr.mono (by decide : 3 ≤ 5)) takes_k (by rfl) (r_acons (r_tup (r_acons (r_var (pv 4)) (r_acons r_int r_anil))) (r_acons (r_callF (x := "grown") B_grown (hr.mono (by decide : 5 ≤ 5)) takes_k (by rfl) (r_acons (r_tup (r_acons r_int (r_acons r_int r_anil))) (r_acons (r_var (pv 1)) (r_acons (r_var (pv 3)) r_anil))) (lenA_cons (lenA_cons (lenA_cons lenA_nil)))) r_anil)) (lenA_cons (lenA_cons lenA_nil))) r_anil)) (lenA_cons (lenA_cons lenA_nil))) (r_gn (pg_name (i := 2) (by exact sc_worth_now.nd) rfl (by first | exact .inl rfl | exact .inr rfl))))))
  (r_one (r_ret (r_var (pv 2))))))
theorem ok_worth_now (T : TX w K mg base) : FnB P w K mg base 6 "worth_now" ["rows", "rate"] (spOf (GG K) 2 m_worth_now) := by
  obtain ⟨fd, F⟩ := T.def_ 10 (d := dd_worth_now) rfl
  have hb : Binds K fd ["rows", "rate"] [] := F.bindsN fun _ _ _ _ _ _ us hl => match us, hl with | [_, _], _ => rfl
  exact ⟨fd, ok_frame (ok_fn0 (G := GG K) (d := dd_worth_now) d_worth_now F sc_worth_now (fun n A outer s H E hr => der_worth_now T (ok_grown T) (ok_over T) (ok_plus T) n A outer s H E hr) mir_worth_now), hb, F.kp, T.glo 10 rfl, fun_lk F⟩
theorem sc_each_year : FnScope ["pence", "rate", "years", "whole"] ["pence", "rate", "years"] (defScope s_each_year) := ⟨rfl, rfl, rfl, by decide +kernel, rfl, by decide +kernel, by decide +kernel⟩
def d_each_year (n : Nat) : SS := (sSeq (sIf (bNot (bB (eChain opLe opLe (eC (.int 1)) (eVar 2) (eC (.int 100))))) (sRaise 2) sNil)
  (sSeq (sExp (eCall m_check_rate (aCons (eVar 1) aNil)))
  (sSeq (sIf (bB (eOp opEq (eOp opIx (eVar 1) (eC (.int 0))) (eC (.int 0)))) (sRet (eCall m_ratio (aCons (eVar 0) (aCons (eVar 2) aNil)))) sNil)
  (sSeq (sAsg (eCall m_grown (aCons (eTup (aCons (eC (.int 1)) (aCons (eC (.int 1)) aNil))) (aCons (eVar 1) (aCons (eVar 2) aNil)))) (gN 3))
  (sRet (eCall m_over (aCons (eCall m_times (aCons (eCall m_times (aCons (eTup (aCons (eVar 0) (aCons (eC (.int 1)) aNil))) (aCons (eVar 1) aNil))) (aCons (eVar 3) aNil))) (aCons (eCall m_minus (aCons (eVar 3) (aCons (eTup (aCons (eC (.int 1)) (aCons (eC (.int 1)) aNil))) aNil))) aNil))))))))
def b_each_year : FC := fun ds st => fnOf (d_each_year 400) 4 ds st
def m_each_year : FC := frame1 b_each_year
theorem mir_each_year : ∀ ds st r st', ds.length = 3 → b_each_year ds st = some (r, st') → ∃ n, fnOf (d_each_year n) 4 ds st = some (r, st') := fun ds st r st' _ e => ⟨400, e⟩
theorem der_each_year (T : TX w K mg base) (B_check_rate : FnB P w K mg base 3 "check_rate" ["rate"] (spOf (GG K) 1 m_check_rate)) (B_grown : FnB P w K mg base 5 "grown" ["pence", "rate", "years"] (spOf (GG K) 3 m_grown)) (B_minus : FnB P w K mg base 3 "minus" ["one", "other"] (spOf (GG K) 2 m_minus)) (B_over : FnB P w K mg base 3 "over" ["one", "other"] (spOf (GG K) 2 m_over)) (B_ratio : FnB P w K mg base 2 "ratio" ["top", "bottom"] (spOf (GG K) 2 m_ratio)) (B_times : FnB P w K mg base 3 "times" ["one", "other"] (spOf (GG K) 2 m_times)) (n : Nat) (A : Around) (outer : List Env) (s : Shared) (H : Hp) (E : XK) (hr : Room 5 (A.deeper (envOfC dd_each_year.qual dd_each_year.scope s.heap.objs.size (He.fAd K dd_each_year.at_) (.ref (He.codeOf K dd_each_year.at_))))) :
    PSs (cxOf (L2.CX P w) P w K mg base ["pence", "rate", "years", "whole"] dd_each_year.qual (defScope s_each_year) (He.fAd K dd_each_year.at_) (.ref (He.codeOf K dd_each_year.at_)) A outer s H E) (defBody s_each_year) (tS (GG K) E (d_each_year n)) := by
  exact (r_cons (r_if (r_tnot (r_tch c_le c_le r_int (r_var (pv 2)) (r_gI (T.int 50 rfl) (by rfl)))) (r_one (r_raise 2 rfl takes_k (pmk_own PySem.F.excBase_ValueError (T.exc 38 rfl).1 (T.glo 37 rfl) (T.exc 38 rfl).2.1 (raises_own (T.exc 38 rfl).2.2.1 (T.exc 38 rfl).2.2.2) rfl))) r_nil)
  (r_cons (r_exp (r_callF (x := "check_rate") B_check_rate (hr.mono (by decide : 3 ≤ 5)) takes_k (by rfl) (r_acons (r_var (pv 1)) r_anil) (lenA_cons lenA_nil)))
  (r_cons (r_if (r_tc (c_eq (hr.mono (by decide : 1 ≤ 5)).units) (r_ix (r_var (pv 1)) r_int) r_int) (r_one (r_ret (r_callF (x := "ratio") B_ratio (hr.mono (by decide : 2 ≤ 5)) takes_k (by rfl) (r_acons (r_var (pv 0)) (r_acons (r_var (pv 2)) r_anil)) (lenA_cons (lenA_cons lenA_nil))))) r_nil)
  (r_cons (r_asg (r_callF (x := "grown") B_grown (hr.mono (by decide : 5 ≤ 5)) takes_k (by rfl) (r_acons (r_tup (r_acons r_int (r_acons r_int r_anil))) (r_acons (r_var (pv 1)) (r_acons (r_var (pv 2)) r_anil))) (lenA_cons (lenA_cons (lenA_cons lenA_nil)))) (r_gn (pg_name (i := 3) (by exact sc_each_year.nd) rfl (by first | exact .inl rfl | exact .inr rfl))))
  (r_one (r_ret (r_callF (x := "over") B_over (hr.mono (by decide : 3 ≤ 5)) takes_k (by rfl) (r_acons (r_callF (x := "times") B_times (hr.mono (by decide : 3 ≤ 5)) takes_k (by rfl) (r_acons (r_callF (x := "times") B_times (hr.mono (by decide : 3 ≤ 5)) takes_k (by rfl) (r_acons (r_tup (r_acons (r_var (pv 0)) (r_acons r_int r_anil))) (r_acons (r_var (pv 1)) r_anil)) (lenA_cons (lenA_cons lenA_nil))) (r_acons (r_var (pv 3)) r_anil)) (lenA_cons (lenA_cons lenA_nil))) (r_acons (r_callF (x := "minus") B_minus (hr.mono (by decide : 3 ≤ 5)) takes_k (by rfl) (r_acons (r_var (pv 3)) (r_acons (r_tup (r_acons r_int (r_acons r_int r_anil))) r_anil)) (lenA_cons (lenA_cons lenA_nil))) r_anil)) (lenA_cons (lenA_cons lenA_nil)))))))))
theorem ok_each_year (T : TX w K mg base) : FnB P w K mg base 6 "each_year" ["pence", "rate", "years"] (spOf (GG K) 3 m_each_year) := by
  obtain ⟨fd, F⟩ := T.def_ 11 (d := dd_each_year) rfl
  have hb : Binds K fd ["pence", "rate", "years"] [] := F.bindsN fun _ _ _ _ _ _ us hl => match us, hl with | [_, _, _], _ => rfl
  exact ⟨fd, ok_frame (ok_fn0 (G := GG K) (d := dd_each_year) d_each_year F sc_each_year (fun n A outer s H E hr => der_each_year T (ok_check_rate T) (ok_grown T) (ok_minus T) (ok_over T) (ok_ratio T) (ok_times T) n A outer s H E hr) mir_each_year), hb, F.kp, T.glo 11 rfl, fun_lk F⟩
theorem sc_plan : FnScope ["pence", "rate", "years", "paid", "left", "rows", "year", "interest", "back"] ["pence", "rate", "years"] (defScope s_plan) := ⟨rfl, rfl, rfl, by decide +kernel, rfl, by decide +kernel, by decide +kernel⟩
def d_plan (n : Nat) : SS := (sSeq (sIf (bB (eOp opLt (eVar 0) (eC (.int 1)))) (sRaise 2) sNil)
  (sSeq (sPar3 3 4 5 (aCons (eCall m_near (aCons (eCall m_each_year (aCons (eVar 0) (aCons (eVar 1) (aCons (eVar 2) aNil)))) aNil)) (aCons (eVar 0) (aCons (eLst aNil) aNil))))
  (sSeq (sFor (wR2 (aCons (eC (.int 1)) (aCons (eOp opAdd (eVar 2) (eC (.int 1))) aNil))) (gN 6) (sSeq (sAsg (eCall m_near (aCons (eCall m_times (aCons (eTup (aCons (eVar 4) (aCons (eC (.int 1)) aNil))) (aCons (eVar 1) aNil))) aNil)) (gN 7))
  (sSeq (sAsg (eIf (bB (eOp opEq (eVar 6) (eVar 2))) (eVar 4) (eCall fcMin (aCons (eVar 4) (aCons (eCall fcMax (aCons (eC (.int 0)) (aCons (eOp opSub (eVar 3) (eVar 7)) aNil))) aNil)))) (gN 8))
  (sSeq (sAugI (fun i j => i - j) 4 (eVar 8))
  (sExp (eApp (eVar 5) (eTup (aCons (eVar 6) (aCons (eVar 7) (aCons (eVar 8) (aCons (eVar 4) aNil)))))))))))
  (sRet (eCall fcTup (aCons (eVar 5) aNil))))))
def b_plan : FC := fun ds st => fnOf (d_plan 400) 9 ds st
def m_plan : FC := frame1 b_plan
theorem mir_plan : ∀ ds st r st', ds.length = 3 → b_plan ds st = some (r, st') → ∃ n, fnOf (d_plan n) 9 ds st = some (r, st') := fun ds st r st' _ e => ⟨400, e⟩
theorem der_plan (T : TX w K mg base) (B_each_year : FnB P w K mg base 6 "each_year" ["pence", "rate", "years"] (spOf (GG K) 3 m_each_year)) (B_near : FnB P w K mg base 2 "near" ["one"] (spOf (GG K) 1 m_near)) (B_times : FnB P w K mg base 3 "times" ["one", "other"] (spOf (GG K) 2 m_times)) (n : Nat) (A : Around) (outer : List Env) (s : Shared) (H : Hp) (E : XK) (hr : Room 6 (A.deeper (envOfC dd_plan.qual dd_plan.scope s.heap.objs.size (He.fAd K dd_plan.at_) (.ref (He.codeOf K dd_plan.at_))))) :
    PSs (cxOf (L2.CX P w) P w K mg base ["pence", "rate", "years", "paid", "left", "rows", "year", "interest", "back"] dd_plan.qual (defScope s_plan) (He.fAd K dd_plan.at_) (.ref (He.codeOf K dd_plan.at_)) A outer s H E) (defBody s_plan) (tS (GG K) E (d_plan n)) := by
  exact (r_cons (r_if (r_tc c_lt (r_var (pv 0)) r_int) (r_one (r_raise 2 rfl takes_k (pmk_own PySem.F.excBase_ValueError (T.exc 38 rfl).1 (T.glo 37 rfl) (T.exc 38 rfl).2.1 (raises_own (T.exc 38 rfl).2.2.1 (T.exc 38 rfl).2.2.2) rfl))) r_nil)
  (r_cons (r_par3 rfl (by exact sc_plan.nd) rfl rfl rfl (by decide) (by decide) (by decide) rfl rfl rfl (r_acons (r_callF (x := "near") B_near (hr.mono (by decide : 2 ≤ 6)) takes_k (by rfl) (r_acons (r_callF (x := "each_year") B_each_year (hr.mono (by decide : 6 ≤ 6)) takes_k (by rfl) (r_acons (r_var (pv 0)) (r_acons (r_var (pv 1)) (r_acons (r_var (pv 2)) r_anil))) (lenA_cons (lenA_cons (lenA_cons lenA_nil)))) r_anil) (lenA_cons lenA_nil)) (r_acons (r_var (pv 0)) (r_acons (r_lst r_anil) r_anil))) (by rfl))
  (r_cons (r_for passes_k rfl (w_r2 (by rfl) (T.free 47 rfl) (r_acons r_int (r_acons (r_add rfl (r_var (pv 2)) r_int) r_anil))) (r_gn (pg_name (i := 6) (by exact sc_plan.nd) rfl (by first | exact .inl rfl | exact .inr rfl))) (r_cons (r_asg (r_callF (x := "near") B_near (hr.mono (by decide : 2 ≤ 6)) takes_k (by rfl) (r_acons (r_callF (x := "times") B_times (hr.mono (by decide : 3 ≤ 6)) takes_k (by rfl) (r_acons (r_tup (r_acons (r_var (pv 4)) (r_acons r_int r_anil))) (r_acons (r_var (pv 1)) r_anil)) (lenA_cons (lenA_cons lenA_nil))) r_anil) (lenA_cons lenA_nil)) (r_gn (pg_name (i := 7) (by exact sc_plan.nd) rfl (by first | exact .inl rfl | exact .inr rfl))))
  (r_cons (r_asg (r_ifx (r_tc (c_eq (hr.mono (by decide : 1 ≤ 6)).units) (r_var (pv 6)) (r_var (pv 2))) (r_var (pv 4)) (r_callB (call_min2 rfl) f_min (by rfl) (T.free 46 rfl) (by decide +kernel) (r_acons (r_var (pv 4)) (r_acons (r_callB (call_max2 rfl) f_max (by rfl) (T.free 45 rfl) (by decide +kernel) (r_acons r_int (r_acons (r_sub (r_var (pv 3)) (r_var (pv 7))) r_anil))) r_anil)))) (r_gn (pg_name (i := 8) (by exact sc_plan.nd) rfl (by first | exact .inl rfl | exact .inr rfl))))
  (r_cons (r_aug (i := 4) (by exact sc_plan.nd) rfl (by first | exact .inl rfl | exact .inr rfl) ip_sub (r_var (pv 8)))
  (r_one (r_exp (r_app (r_var (pv 5)) (r_tup (r_acons (r_var (pv 6)) (r_acons (r_var (pv 7)) (r_acons (r_var (pv 8)) (r_acons (r_var (pv 4)) r_anil))))))))))))
  (r_one (r_ret (r_callT (call_tuple_of) f_tup (by rfl) (T.free 49 rfl) (by decide +kernel) (r_acons (r_var (pv 5)) r_anil)))))))
theorem ok_plan (T : TX w K mg base) : FnB P w K mg base 7 "plan" ["pence", "rate", "years"] (spOf (GG K) 3 m_plan) := by
  obtain ⟨fd, F⟩ := T.def_ 12 (d := dd_plan) rfl
  have hb : Binds K fd ["pence", "rate", "years"] [] := F.bindsN fun _ _ _ _ _ _ us hl => match us, hl with | [_, _, _], _ => rfl
  exact ⟨fd, ok_frame (ok_fn0 (G := GG K) (d := dd_plan) d_plan F sc_plan (fun n A outer s H E hr => der_plan T (ok_each_year T) (ok_near T) (ok_times T) n A outer s H E hr) mir_plan), hb, F.kp, T.glo 12 rfl, fun_lk F⟩
theorem sc_better : FnScope ["one", "other", "rate", "first", "second"] ["one", "other", "rate"] (defScope s_better) := ⟨rfl, rfl, rfl, by decide +kernel, rfl, by decide +kernel, by decide +kernel⟩
def d_better (n : Nat) : SS := (sSeq (sPar 3 4 (aCons (eCall m_worth_now (aCons (eVar 0) (aCons (eVar 2) aNil))) (aCons (eCall m_worth_now (aCons (eVar 1) (aCons (eVar 2) aNil))) aNil)))
  (sRet (eIf (bB (eOp opEq (eVar 3) (eVar 4))) (eC (.int 0)) (eIf (bB (eCall m_is_less (aCons (eVar 4) (aCons (eVar 3) aNil)))) (eC (.int 1)) (eC (.int 2))))))
def b_better : FC := fun ds st => fnOf (d_better 400) 5 ds st
def m_better : FC := frame1 b_better
theorem mir_better : ∀ ds st r st', ds.length = 3 → b_better ds st = some (r, st') → ∃ n, fnOf (d_better n) 5 ds st = some (r, st') := fun ds st r st' _ e => ⟨400, e⟩
theorem der_better (T : TX w K mg base) (B_is_less : FnB P w K mg base 2 "is_less" ["one", "other"] (spOf (GG K) 2 m_is_less)) (B_worth_now : FnB P w K mg base 6 "worth_now" ["rows", "rate"] (spOf (GG K) 2 m_worth_now)) (n : Nat) (A : Around) (outer : List Env) (s : Shared) (H : Hp) (E : XK) (hr : Room 6 (A.deeper (envOfC dd_better.qual dd_better.scope s.heap.objs.size (He.fAd K dd_better.at_) (.ref (He.codeOf K dd_better.at_))))) :
    PSs (cxOf (L2.CX P w) P w K mg base ["one", "other", "rate", "first", "second"] dd_better.qual (defScope s_better) (He.fAd K dd_better.at_) (.ref (He.codeOf K dd_better.at_)) A outer s H E) (defBody s_better) (tS (GG K) E (d_better n)) := by
  exact (r_cons (r_par rfl (by exact sc_better.nd) rfl rfl (by decide) rfl rfl (r_acons (r_callF (x := "worth_now") B_worth_now (hr.mono (by decide : 6 ≤ 6)) takes_k (by rfl) (r_acons (r_var (pv 0)) (r_acons (r_var (pv 2)) r_anil)) (lenA_cons (lenA_cons lenA_nil))) (r_acons (r_callF (x := "worth_now") B_worth_now (hr.mono (by decide : 6 ≤ 6)) takes_k (by rfl) (r_acons (r_var (pv 1)) (r_acons (r_var (pv 2)) r_anil)) (lenA_cons (lenA_cons lenA_nil))) r_anil)) (by rfl))
  (r_one (r_ret (r_ifx (r_tc (c_eq (hr.mono (by decide : 1 ≤ 6)).units) (r_var (pv 3)) (r_var (pv 4))) r_int (r_ifx (r_test (r_callF (x := "is_less") B_is_less (hr.mono (by decide : 2 ≤ 6)) takes_k (by rfl) (r_acons (r_var (pv 4)) (r_acons (r_var (pv 3)) r_anil)) (lenA_cons (lenA_cons lenA_nil)))) r_int r_int)))))
theorem ok_better (T : TX w K mg base) : FnB P w K mg base 7 "better" ["one", "other", "rate"] (spOf (GG K) 3 m_better) := by
  obtain ⟨fd, F⟩ := T.def_ 13 (d := dd_better) rfl
  have hb : Binds K fd ["one", "other", "rate"] [] := F.bindsN fun _ _ _ _ _ _ us hl => match us, hl with | [_, _, _], _ => rfl
  exact ⟨fd, ok_frame (ok_fn0 (G := GG K) (d := dd_better) d_better F sc_better (fun n A outer s H E hr => der_better T (ok_is_less T) (ok_worth_now T) n A outer s H E hr) mir_better), hb, F.kp, T.glo 13 rfl, fun_lk F⟩
theorem sc_rate_of : FnScope ["rows", "most", "part"] ["rows", "most"] (defScope s_rate_of) := ⟨rfl, rfl, rfl, by decide +kernel, rfl, by decide +kernel, by decide +kernel⟩
def d_rate_of (n : Nat) : SS := (sSeq (sIf (bNot (bB (eChain opLe opLe (eC (.int 0)) (eVar 1) (eC (.int 1000))))) (sRaise 2) sNil)
  (sSeq (sFor (wR1 (aCons (eOp opAdd (eVar 1) (eC (.int 1))) aNil)) (gN 2) (sIf (bB (eOp opLe (eOp opIx (eCall m_worth_now (aCons (eVar 0) (aCons (eCall m_ratio (aCons (eVar 2) (aCons (eC (.int 1000)) aNil))) aNil))) (eC (.int 0))) (eC (.int 0)))) (sRet (eVar 2)) sNil))
  (sRet (eC .non))))
def b_rate_of : FC := fun ds st => fnOf (d_rate_of 400) 3 ds st
def m_rate_of : FC := frame1 b_rate_of
theorem mir_rate_of : ∀ ds st r st', ds.length = 2 → b_rate_of ds st = some (r, st') → ∃ n, fnOf (d_rate_of n) 3 ds st = some (r, st') := fun ds st r st' _ e => ⟨400, e⟩
theorem der_rate_of (T : TX w K mg base) (B_ratio : FnB P w K mg base 2 "ratio" ["top", "bottom"] (spOf (GG K) 2 m_ratio)) (B_worth_now : FnB P w K mg base 6 "worth_now" ["rows", "rate"] (spOf (GG K) 2 m_worth_now)) (n : Nat) (A : Around) (outer : List Env) (s : Shared) (H : Hp) (E : XK) (hr : Room 6 (A.deeper (envOfC dd_rate_of.qual dd_rate_of.scope s.heap.objs.size (He.fAd K dd_rate_of.at_) (.ref (He.codeOf K dd_rate_of.at_))))) :
    PSs (cxOf (L2.CX P w) P w K mg base ["rows", "most", "part"] dd_rate_of.qual (defScope s_rate_of) (He.fAd K dd_rate_of.at_) (.ref (He.codeOf K dd_rate_of.at_)) A outer s H E) (defBody s_rate_of) (tS (GG K) E (d_rate_of n)) := by
  exact (r_cons (r_if (r_tnot (r_tch c_le c_le r_int (r_var (pv 1)) r_int)) (r_one (r_raise 2 rfl takes_k (pmk_own PySem.F.excBase_ValueError (T.exc 38 rfl).1 (T.glo 37 rfl) (T.exc 38 rfl).2.1 (raises_own (T.exc 38 rfl).2.2.1 (T.exc 38 rfl).2.2.2) rfl))) r_nil)
  (r_cons (r_for passes_k rfl (w_r1 (by rfl) (T.free 47 rfl) (r_acons (r_add rfl (r_var (pv 1)) r_int) r_anil)) (r_gn (pg_name (i := 2) (by exact sc_rate_of.nd) rfl (by first | exact .inl rfl | exact .inr rfl))) (r_one (r_if (r_tc c_le (r_ix (r_callF (x := "worth_now") B_worth_now (hr.mono (by decide : 6 ≤ 6)) takes_k (by rfl) (r_acons (r_var (pv 0)) (r_acons (r_callF (x := "ratio") B_ratio (hr.mono (by decide : 2 ≤ 6)) takes_k (by rfl) (r_acons (r_var (pv 2)) (r_acons r_int r_anil)) (lenA_cons (lenA_cons lenA_nil))) r_anil)) (lenA_cons (lenA_cons lenA_nil))) r_int) r_int) (r_one (r_ret (r_var (pv 2)))) r_nil)))
  (r_one (r_ret r_non))))
theorem ok_rate_of (T : TX w K mg base) : FnB P w K mg base 7 "rate_of" ["rows", "most"] (spOf (GG K) 2 m_rate_of) := by
  obtain ⟨fd, F⟩ := T.def_ 14 (d := dd_rate_of) rfl
  have hb : Binds K fd ["rows", "most"] [] := F.bindsN fun _ _ _ _ _ _ us hl => match us, hl with | [_, _], _ => rfl
  exact ⟨fd, ok_frame (ok_fn0 (G := GG K) (d := dd_rate_of) d_rate_of F sc_rate_of (fun n A outer s H E hr => der_rate_of T (ok_ratio T) (ok_worth_now T) n A outer s H E hr) mir_rate_of), hb, F.kp, T.glo 14 rfl, fun_lk F⟩
theorem sc_years_to : FnScope ["pence", "goal", "rate", "have", "years"] ["pence", "goal", "rate"] (defScope s_years_to) := ⟨rfl, rfl, rfl, by decide +kernel, rfl, by decide +kernel, by decide +kernel⟩
def d_years_to (n : Nat) : SS := (sSeq (sExp (eCall m_check_rate (aCons (eVar 2) aNil)))
  (sSeq (sIf (bB (eOp opLt (eCall fcMin (aCons (eVar 0) (aCons (eVar 1) aNil))) (eC (.int 1)))) (sRaise 2) sNil)
  (sSeq (sAsg (eTup (aCons (eVar 0) (aCons (eC (.int 1)) aNil))) (gN 3))
  (sSeq (sFor (wR1 (aCons (eOp opAdd (eC (.int 100)) (eC (.int 1))) aNil)) (gN 4) (sSeq (sIf (bNot (bB (eCall m_is_less (aCons (eVar 3) (aCons (eTup (aCons (eVar 1) (aCons (eC (.int 1)) aNil))) aNil))))) (sRet (eVar 4)) sNil)
  (sAsg (eCall m_times (aCons (eVar 3) (aCons (eCall m_plus (aCons (eTup (aCons (eC (.int 1)) (aCons (eC (.int 1)) aNil))) (aCons (eVar 2) aNil))) aNil))) (gN 3))))
  (sRet (eC .non))))))
def b_years_to : FC := fun ds st => fnOf (d_years_to 400) 5 ds st
def m_years_to : FC := frame1 b_years_to
theorem mir_years_to : ∀ ds st r st', ds.length = 3 → b_years_to ds st = some (r, st') → ∃ n, fnOf (d_years_to n) 5 ds st = some (r, st') := fun ds st r st' _ e => ⟨400, e⟩
theorem der_years_to (T : TX w K mg base) (B_check_rate : FnB P w K mg base 3 "check_rate" ["rate"] (spOf (GG K) 1 m_check_rate)) (B_is_less : FnB P w K mg base 2 "is_less" ["one", "other"] (spOf (GG K) 2 m_is_less)) (B_plus : FnB P w K mg base 3 "plus" ["one", "other"] (spOf (GG K) 2 m_plus)) (B_times : FnB P w K mg base 3 "times" ["one", "other"] (spOf (GG K) 2 m_times)) (n : Nat) (A : Around) (outer : List Env) (s : Shared) (H : Hp) (E : XK) (hr : Room 3 (A.deeper (envOfC dd_years_to.qual dd_years_to.scope s.heap.objs.size (He.fAd K dd_years_to.at_) (.ref (He.codeOf K dd_years_to.at_))))) :
    PSs (cxOf (L2.CX P w) P w K mg base ["pence", "goal", "rate", "have", "years"] dd_years_to.qual (defScope s_years_to) (He.fAd K dd_years_to.at_) (.ref (He.codeOf K dd_years_to.at_)) A outer s H E) (defBody s_years_to) (tS (GG K) E (d_years_to n)) := by
  exact (r_cons (r_exp (r_callF (x := "check_rate") B_check_rate (hr.mono (by decide : 3 ≤ 3)) takes_k (by rfl) (r_acons (r_var (pv 2)) r_anil) (lenA_cons lenA_nil)))
  (r_cons (r_if (r_tc c_lt (r_callB (call_min2 rfl) f_min (by rfl) (T.free 46 rfl) (by decide +kernel) (r_acons (r_var (pv 0)) (r_acons (r_var (pv 1)) r_anil))) r_int) (r_one (r_raise 2 rfl takes_k (pmk_own PySem.F.excBase_ValueError (T.exc 38 rfl).1 (T.glo 37 rfl) (T.exc 38 rfl).2.1 (raises_own (T.exc 38 rfl).2.2.1 (T.exc 38 rfl).2.2.2) rfl))) r_nil)
  (r_cons (r_asg (r_tup (r_acons (r_var (pv 0)) (r_acons r_int r_anil))) (r_gn (pg_name (i := 3) (by exact sc_years_to.nd) rfl (by first | exact .inl rfl | exact .inr rfl))))
  (r_cons (r_for passes_k rfl (w_r1 (by rfl) (T.free 47 rfl) (r_acons (r_add rfl (r_gI (T.int 50 rfl) (by rfl)) r_int) r_anil)) (r_gn (pg_name (i := 4) (by exact sc_years_to.nd) rfl (by first | exact .inl rfl | exact .inr rfl))) (r_cons (r_if (r_tnot (r_test (r_callF (x := "is_less") B_is_less (hr.mono (by decide : 2 ≤ 3)) takes_k (by rfl) (r_acons (r_var (pv 3)) (r_acons (r_tup (r_acons (r_var (pv 1)) (r_acons r_int r_anil))) r_anil)) (lenA_cons (lenA_cons lenA_nil))))) (r_one (r_ret (r_var (pv 4)))) r_nil)
  (r_one (r_asg (r_callF (x := "times") B_times (hr.mono (by decide : 3 ≤ 3)) takes_k (by rfl) (r_acons (r_var (pv 3)) (r_acons (r_callF (x := "plus") B_plus (hr.mono (by decide : 3 ≤ 3)) takes_k (by rfl) (r_acons (r_tup (r_acons r_int (r_acons r_int r_anil))) (r_acons (r_var (pv 2)) r_anil)) (lenA_cons (lenA_cons lenA_nil))) r_anil)) (lenA_cons (lenA_cons lenA_nil))) (r_gn (pg_name (i := 3) (by exact sc_years_to.nd) rfl (by first | exact .inl rfl | exact .inr rfl)))))))
  (r_one (r_ret r_non))))))
theorem ok_years_to (T : TX w K mg base) : FnB P w K mg base 4 "years_to" ["pence", "goal", "rate"] (spOf (GG K) 3 m_years_to) := by
  obtain ⟨fd, F⟩ := T.def_ 15 (d := dd_years_to) rfl
  have hb : Binds K fd ["pence", "goal", "rate"] [] := F.bindsN fun _ _ _ _ _ _ us hl => match us, hl with | [_, _, _], _ => rfl
  exact ⟨fd, ok_frame (ok_fn0 (G := GG K) (d := dd_years_to) d_years_to F sc_years_to (fun n A outer s H E hr => der_years_to T (ok_check_rate T) (ok_is_less T) (ok_plus T) (ok_times T) n A outer s H E hr) mir_years_to), hb, F.kp, T.glo 15 rfl, fun_lk F⟩
theorem sc_even_out : FnScope ["rows", "year", "pence", "whole"] ["rows"] (defScope s_even_out) := ⟨rfl, rfl, rfl, by decide +kernel, rfl, by decide +kernel, by decide +kernel⟩
def d_even_out (n : Nat) : SS := (sSeq (sAsg (eGen (wSeq (eVar 0)) gdSum (gT [(gN 1), (gN 2)]) bYes (eVar 2) [1, 2]) (gN 3))
  (sSeq (sIf (bOr (bB (eOp opLt (eVar 3) (eC (.int 1)))) (bB (eGen (wSeq (eVar 0)) (gdHas true) (gT [(gN 1), (gN 2)]) bYes (eOp opLt (eVar 2) (eC (.int 0))) [1, 2]))) (sRaise 2) sNil)
  (sRet (eCall m_ratio (aCons (eGen (wSeq (eVar 0)) gdSum (gT [(gN 1), (gN 2)]) bYes (eOp opMul (eVar 1) (eVar 2)) [1, 2]) (aCons (eVar 3) aNil))))))
def b_even_out : FC := fun ds st => fnOf (d_even_out 400) 4 ds st
def m_even_out : FC := frame1 b_even_out
theorem mir_even_out : ∀ ds st r st', ds.length = 1 → b_even_out ds st = some (r, st') → ∃ n, fnOf (d_even_out n) 4 ds st = some (r, st') := fun ds st r st' _ e => ⟨400, e⟩
theorem der_even_out (T : TX w K mg base) (B_ratio : FnB P w K mg base 2 "ratio" ["top", "bottom"] (spOf (GG K) 2 m_ratio)) (n : Nat) (A : Around) (outer : List Env) (s : Shared) (H : Hp) (E : XK) (hr : Room 7 (A.deeper (envOfC dd_even_out.qual dd_even_out.scope s.heap.objs.size (He.fAd K dd_even_out.at_) (.ref (He.codeOf K dd_even_out.at_))))) :
    PSs (cxOf (L2.CX P w) P w K mg base ["rows", "year", "pence", "whole"] dd_even_out.qual (defScope s_even_out) (He.fAd K dd_even_out.at_) (.ref (He.codeOf K dd_even_out.at_)) A outer s H E) (defBody s_even_out) (tS (GG K) E (d_even_out n)) := by
  exact (r_cons (r_asg (r_genB (own := [("year", 1), ("pence", 2)]) con_sum (by rfl) (T.free 48 rfl) (by decide +kernel) (hr.mono (by decide : 1 ≤ 7)) (T.gen 0 rfl) rfl (by exact sc_even_out.nd) ⟨blkOk_by (N := ["rows", "year", "pence", "whole"]) (sc := defScope s_even_out) (own := [("year", 1), ("pence", 2)]) (by decide +kernel), rfl, by decide +kernel, by decide +kernel⟩ (w_seq (r_var (pv 0))) (fun _ _ _ _ => (r_gtup rfl (r_gs (r_gn (pg_name (i := 1) (by exact sc_even_out.nd) rfl (by first | exact .inl rfl | exact .inr rfl)) (fun σ v => wipe_set (by decide))) (r_gs (r_gn (pg_name (i := 2) (by exact sc_even_out.nd) rfl (by first | exact .inl rfl | exact .inr rfl)) (fun σ v => wipe_set (by decide))) (r_gs0 (fun _ => rfl)))))) (fun _ _ _ _ => r_pts0) (fun _ _ _ _ => (r_var (pv 2)))) (r_gn (pg_name (i := 3) (by exact sc_even_out.nd) rfl (by first | exact .inl rfl | exact .inr rfl))))
  (r_cons (r_if (L2.PW.pt (r_wor (r_tc c_lt (r_var (pv 3)) r_int) (r_wor1 (r_test (r_genB (own := [("year", 1), ("pence", 2)]) con_any (by rfl) (T.free 41 rfl) (by decide +kernel) (hr.mono (by decide : 1 ≤ 7)) (T.gen 0 rfl) rfl (by exact sc_even_out.nd) ⟨blkOk_by (N := ["rows", "year", "pence", "whole"]) (sc := defScope s_even_out) (own := [("year", 1), ("pence", 2)]) (by decide +kernel), rfl, by decide +kernel, by decide +kernel⟩ (w_seq (r_var (pv 0))) (fun _ _ _ _ => (r_gtup rfl (r_gs (r_gn (pg_name (i := 1) (by exact sc_even_out.nd) rfl (by first | exact .inl rfl | exact .inr rfl)) (fun σ v => wipe_set (by decide))) (r_gs (r_gn (pg_name (i := 2) (by exact sc_even_out.nd) rfl (by first | exact .inl rfl | exact .inr rfl)) (fun σ v => wipe_set (by decide))) (r_gs0 (fun _ => rfl)))))) (fun _ _ _ _ => r_pts0) (fun _ _ _ _ => (r_c c_lt (r_var (pv 2)) r_int))))))) (r_one (r_raise 2 rfl takes_k (pmk_own PySem.F.excBase_ValueError (T.exc 38 rfl).1 (T.glo 37 rfl) (T.exc 38 rfl).2.1 (raises_own (T.exc 38 rfl).2.2.1 (T.exc 38 rfl).2.2.2) rfl))) r_nil)
  (r_one (r_ret (r_callF (x := "ratio") B_ratio (hr.mono (by decide : 2 ≤ 7)) takes_k (by rfl) (r_acons (r_genB (own := [("year", 1), ("pence", 2)]) con_sum (by rfl) (T.free 48 rfl) (by decide +kernel) (hr.mono (by decide : 1 ≤ 7)) (T.gen 0 rfl) rfl (by exact sc_even_out.nd) ⟨blkOk_by (N := ["rows", "year", "pence", "whole"]) (sc := defScope s_even_out) (own := [("year", 1), ("pence", 2)]) (by decide +kernel), rfl, by decide +kernel, by decide +kernel⟩ (w_seq (r_var (pv 0))) (fun _ _ _ _ => (r_gtup rfl (r_gs (r_gn (pg_name (i := 1) (by exact sc_even_out.nd) rfl (by first | exact .inl rfl | exact .inr rfl)) (fun σ v => wipe_set (by decide))) (r_gs (r_gn (pg_name (i := 2) (by exact sc_even_out.nd) rfl (by first | exact .inl rfl | exact .inr rfl)) (fun σ v => wipe_set (by decide))) (r_gs0 (fun _ => rfl)))))) (fun _ _ _ _ => r_pts0) (fun _ _ _ _ => (r_mul (r_var (pv 1)) (r_var (pv 2))))) (r_acons (r_var (pv 3)) r_anil)) (lenA_cons (lenA_cons lenA_nil)))))))
theorem ok_even_out (T : TX w K mg base) : FnB P w K mg base 8 "even_out" ["rows"] (spOf (GG K) 1 m_even_out) := by
  obtain ⟨fd, F⟩ := T.def_ 16 (d := dd_even_out) rfl
  have hb : Binds K fd ["rows"] [] := F.bindsN fun _ _ _ _ _ _ us hl => match us, hl with | [_], _ => rfl
  exact ⟨fd, ok_frame (ok_fn0 (G := GG K) (d := dd_even_out) d_even_out F sc_even_out (fun n A outer s H E hr => der_even_out T (ok_ratio T) n A outer s H E hr) mir_even_out), hb, F.kp, T.glo 16 rfl, fun_lk F⟩
theorem sc__law_dice : FnScope ["cell"] ["cell"] (defScope s__law_dice) := ⟨rfl, rfl, rfl, by decide +kernel, rfl, by decide +kernel, by decide +kernel⟩
def d__law_dice (n : Nat) : SS := (sSeq (sIf (bB (eChain opLt opLt (eOp opSub (eC (.int 0)) (eC (.int 10))) (eVar 0) (eC (.int 10)))) (sRet (eLst (aCons (eCall fcAbs (aCons (eVar 0) aNil)) (aCons (eC (.int 0)) (aCons (eC (.int 2)) aNil))))) sNil)
  (sRet (eLst (aCons (eVar 0) (aCons (eOp opAdd (eC (.int 1)) (eOp opMod (eCall fcInt (aCons (eVar 0) aNil)) (eC (.int 1009)))) (aCons (eCall fcInt (aCons (eOp opGe (eVar 0) (eOp opPow (eC (.int 10)) (eC (.int 18)))) aNil)) aNil))))))
def b__law_dice : FC := fun ds st => fnOf (d__law_dice 400) 1 ds st
def m__law_dice : FC := b__law_dice
theorem mir__law_dice : ∀ ds st r st', ds.length = 1 → b__law_dice ds st = some (r, st') → ∃ n, fnOf (d__law_dice n) 1 ds st = some (r, st') := fun ds st r st' _ e => ⟨400, e⟩
theorem der__law_dice (T : TX w K mg base)  (n : Nat) (A : Around) (outer : List Env) (s : Shared) (H : Hp) (E : XK) (hr : Room 1 (A.deeper (envOfC dd__law_dice.qual dd__law_dice.scope s.heap.objs.size (He.fAd K dd__law_dice.at_) (.ref (He.codeOf K dd__law_dice.at_))))) :
    PSs (cxOf (L2.CX P w) P w K mg base ["cell"] dd__law_dice.qual (defScope s__law_dice) (He.fAd K dd__law_dice.at_) (.ref (He.codeOf K dd__law_dice.at_)) A outer s H E) (defBody s__law_dice) (tS (GG K) E (d__law_dice n)) := by
  exact (r_cons (r_if (r_tch c_lt c_lt (r_sub r_int r_int) (r_var (pv 0)) r_int) (r_one (r_ret (r_lst (r_acons (r_callB (call_abs) f_abs (by rfl) (T.free 40 rfl) (by decide +kernel) (r_acons (r_var (pv 0)) r_anil)) (r_acons r_int (r_acons r_int r_anil)))))) r_nil)
  (r_one (r_ret (r_lst (r_acons (r_var (pv 0)) (r_acons (r_add rfl r_int (r_mod (r_callT (call_int1) f_int (by rfl) (T.free 43 rfl) (by decide +kernel) (r_acons (r_var (pv 0)) r_anil)) r_int)) (r_acons (r_callT (call_int1) f_int (by rfl) (T.free 43 rfl) (by decide +kernel) (r_acons (r_c c_ge (r_var (pv 0)) (r_pow r_int r_int)) r_anil)) r_anil)))))))
theorem ok__law_dice (T : TX w K mg base) : FnB P w K mg base 2 "_law_dice" ["cell"] (spOf (GG K) 1 m__law_dice) := by
  obtain ⟨fd, F⟩ := T.def_ 17 (d := dd__law_dice) rfl
  have hb : Binds K fd ["cell"] [] := F.bindsN fun _ _ _ _ _ _ us hl => match us, hl with | [_], _ => rfl
  exact ⟨fd, ok_fn0 (G := GG K) (d := dd__law_dice) d__law_dice F sc__law_dice (fun n A outer s H E hr => der__law_dice T n A outer s H E hr) mir__law_dice, hb, F.kp, T.glo 17 rfl, fun_lk F⟩
theorem sc__law_roll : FnScope ["dice", "many", "found"] ["dice", "many"] (defScope s__law_roll) := ⟨rfl, rfl, rfl, by decide +kernel, rfl, by decide +kernel, by decide +kernel⟩
def d__law_roll (n : Nat) : SS := (sSeq (sIf (bOr (bB (eOp opEq (eOp opIx (eVar 0) (eC (.int 2))) (eC (.int 2)))) (bAnd (bB (eOp opEq (eOp opIx (eVar 0) (eC (.int 2))) (eC (.int 1)))) (bB (eOp opGt (eOp opIx (eVar 0) (eC (.int 0))) (eC (.int 0)))))) (sSeq (sAsg (eOp opMod (eCall fcInt (aCons (eOp opIx (eVar 0) (eC (.int 0))) aNil)) (eVar 1)) (gN 2))
  (sSeq (sAsg (eOp opDiv (eOp opIx (eVar 0) (eC (.int 0))) (eVar 1)) (gSub (eVar 0) (eC (.int 0))))
  (sRet (eVar 2)))) sNil)
  (sSeq (sAsg (eC (.int 0)) (gSub (eVar 0) (eC (.int 2))))
  (sSeq (sIf (bB (eOp opGt (eVar 1) (eC (.int 100000000)))) (sRet (eOp opMod (eCall fcInt (aCons (eOp opAdd (eOp opMul (eCall (fun _ _ => none) (aCons (eVar 0) (aCons (eOp opAdd (eOp opDiv (eVar 1) (eC (.int 100000000))) (eC (.int 1))) aNil))) (eC (.int 100000000))) (eCall (fun _ _ => none) (aCons (eVar 0) (aCons (eC (.int 100000000)) aNil)))) aNil)) (eVar 1))) sNil)
  (sSeq (sAsg (eOp opMod (eCall fcInt (aCons (eOp opAdd (eOp opAdd (eOp opMul (eOp opIx (eVar 0) (eC (.int 0))) (eC (.int 48271))) (eOp opMul (eOp opIx (eVar 0) (eC (.int 1))) (eC (.int 69621)))) (eC (.int 11))) aNil)) (eC (.int 2147483647))) (gSub (eVar 0) (eC (.int 0))))
  (sSeq (sAsg (eOp opAdd (eOp opIx (eVar 0) (eC (.int 1))) (eC (.int 1))) (gSub (eVar 0) (eC (.int 1))))
  (sRet (eOp opMod (eCall fcInt (aCons (eOp opDiv (eOp opIx (eVar 0) (eC (.int 0))) (eC (.int 7))) aNil)) (eVar 1))))))))
def b__law_roll : FC := fun ds st => fnOf (d__law_roll 400) 3 ds st
def m__law_roll : FC := b__law_roll
theorem mir__law_roll : ∀ ds st r st', ds.length = 2 → b__law_roll ds st = some (r, st') → ∃ n, fnOf (d__law_roll n) 3 ds st = some (r, st') := fun ds st r st' _ e => ⟨400, e⟩
theorem der__law_roll (T : TX w K mg base) (B_self : FnB P w K mg base 1 "_law_roll" ["dice", "many"] (spOf (GG K) 2 fun _ _ => none)) (n : Nat) (A : Around) (outer : List Env) (s : Shared) (H : Hp) (E : XK) (hr : Room 1 (A.deeper (envOfC dd__law_roll.qual dd__law_roll.scope s.heap.objs.size (He.fAd K dd__law_roll.at_) (.ref (He.codeOf K dd__law_roll.at_))))) :
    PSs (cxOf (L2.CX P w) P w K mg base ["dice", "many", "found"] dd__law_roll.qual (defScope s__law_roll) (He.fAd K dd__law_roll.at_) (.ref (He.codeOf K dd__law_roll.at_)) A outer s H E) (defBody s__law_roll) (tS (GG K) E (d__law_roll n)) := by
  exact (r_cons (r_if (L2.PW.pt (r_wor (r_tc (c_eq (hr.mono (by decide : 1 ≤ 1)).units) (r_ix (r_var (pv 0)) r_int) r_int) (r_wor1 (L2.PW.pt (r_wand (r_tc (c_eq (hr.mono (by decide : 1 ≤ 1)).units) (r_ix (r_var (pv 0)) r_int) r_int) (r_wand1 (r_tc c_gt (r_ix (r_var (pv 0)) r_int) r_int))))))) (r_cons (r_asg (r_mod (r_callT (call_int1) f_int (by rfl) (T.free 43 rfl) (by decide +kernel) (r_acons (r_ix (r_var (pv 0)) r_int) r_anil)) (r_var (pv 1))) (r_gn (pg_name (i := 2) (by exact sc__law_roll.nd) rfl (by first | exact .inl rfl | exact .inr rfl))))
  (r_cons (r_asg (r_div (r_ix (r_var (pv 0)) r_int) (r_var (pv 1))) (r_gsub (r_var (pv 0)) r_int))
  (r_one (r_ret (r_var (pv 2)))))) r_nil)
  (r_cons (r_asg r_int (r_gsub (r_var (pv 0)) r_int))
  (r_cons (r_if (r_tc c_gt (r_var (pv 1)) r_int) (r_one (r_ret (r_mod (r_callT (call_int1) f_int (by rfl) (T.free 43 rfl) (by decide +kernel) (r_acons (r_add rfl (r_mul (r_callF (x := "_law_roll") B_self (hr.mono (by decide : 1 ≤ 1)) takes_k (by rfl) (r_acons (r_var (pv 0)) (r_acons (r_add rfl (r_div (r_var (pv 1)) r_int) r_int) r_anil)) (lenA_cons (lenA_cons lenA_nil))) r_int) (r_callF (x := "_law_roll") B_self (hr.mono (by decide : 1 ≤ 1)) takes_k (by rfl) (r_acons (r_var (pv 0)) (r_acons r_int r_anil)) (lenA_cons (lenA_cons lenA_nil)))) r_anil)) (r_var (pv 1))))) r_nil)
  (r_cons (r_asg (r_mod (r_callT (call_int1) f_int (by rfl) (T.free 43 rfl) (by decide +kernel) (r_acons (r_add rfl (r_add rfl (r_mul (r_ix (r_var (pv 0)) r_int) r_int) (r_mul (r_ix (r_var (pv 0)) r_int) r_int)) r_int) r_anil)) r_int) (r_gsub (r_var (pv 0)) r_int))
  (r_cons (r_asg (r_add rfl (r_ix (r_var (pv 0)) r_int) r_int) (r_gsub (r_var (pv 0)) r_int))
  (r_one (r_ret (r_mod (r_callT (call_int1) f_int (by rfl) (T.free 43 rfl) (by decide +kernel) (r_acons (r_div (r_ix (r_var (pv 0)) r_int) r_int) r_anil)) (r_var (pv 1))))))))))
theorem ok__law_roll (T : TX w K mg base) : FnB P w K mg base 2 "_law_roll" ["dice", "many"] (spOf (GG K) 2 m__law_roll) := by
  obtain ⟨fd, F⟩ := T.def_ 18 (d := dd__law_roll) rfl
  have hb : Binds K fd ["dice", "many"] [] := F.bindsN fun _ _ _ _ _ _ us hl => match us, hl with | [_, _], _ => rfl
  have B_self : FnB P w K mg base 1 "_law_roll" ["dice", "many"] (spOf (GG K) 2 fun _ _ => none) := ⟨fd, ok_none, hb, F.kp, T.glo 18 rfl, fun_lk F⟩
  exact ⟨fd, ok_fn0 (G := GG K) (d := dd__law_roll) d__law_roll F sc__law_roll (fun n A outer s H E hr => der__law_roll T B_self n A outer s H E hr) mir__law_roll, hb, F.kp, T.glo 18 rfl, fun_lk F⟩
theorem sc__law_rounds : FnScope ["script", "most", "cells", "cell"] ["script", "most"] (defScope s__law_rounds) := ⟨rfl, rfl, rfl, by decide +kernel, rfl, by decide +kernel, by decide +kernel⟩
def d__law_rounds (n : Nat) : SS := (sSeq (sAsg (eSl (eVar 0) pNo (pAt (eVar 1))) (gN 2))
  (sSeq (sIf (bB (eOp opEq (eVar 2) (eCst aNil))) (sAsg (eCst (aCons (eC (.int 0)) aNil)) (gN 2)) sNil)
  (sRet (eLc (wSeq (eVar 2)) (nxG (gN 3)) (nxB bYes) (nxE (eCall m__law_dice (aCons (eVar 3) aNil))) [3]))))
def b__law_rounds : FC := fun ds st => fnOf (d__law_rounds 400) 4 ds st
def m__law_rounds : FC := b__law_rounds
theorem mir__law_rounds : ∀ ds st r st', ds.length = 2 → b__law_rounds ds st = some (r, st') → ∃ n, fnOf (d__law_rounds n) 4 ds st = some (r, st') := fun ds st r st' _ e => ⟨400, e⟩
theorem der__law_rounds (T : TX w K mg base) (B__law_dice : FnB P w K mg base 2 "_law_dice" ["cell"] (spOf (GG K) 1 m__law_dice)) (n : Nat) (A : Around) (outer : List Env) (s : Shared) (H : Hp) (E : XK) (hr : Room 2 (A.deeper (envOfC dd__law_rounds.qual dd__law_rounds.scope s.heap.objs.size (He.fAd K dd__law_rounds.at_) (.ref (He.codeOf K dd__law_rounds.at_))))) :
    PSs (cxOf (L2.CX P w) P w K mg base ["script", "most", "cells", "cell"] dd__law_rounds.qual (defScope s__law_rounds) (He.fAd K dd__law_rounds.at_) (.ref (He.codeOf K dd__law_rounds.at_)) A outer s H E) (defBody s__law_rounds) (tS (GG K) E (d__law_rounds n)) := by
  exact (r_cons (r_asg (r_sl (r_var (pv 0)) r_pno (r_pat (r_var (pv 1)))) (r_gn (pg_name (i := 2) (by exact sc__law_rounds.nd) rfl (by first | exact .inl rfl | exact .inr rfl))))
  (r_cons (r_if (r_tc (c_eq (hr.mono (by decide : 1 ≤ 2)).units) (r_var (pv 2)) (r_cst r_anil)) (r_one (r_asg (r_cst (r_acons r_int r_anil)) (r_gn (pg_name (i := 2) (by exact sc__law_rounds.nd) rfl (by first | exact .inl rfl | exact .inr rfl))))) r_nil)
  (r_one (r_ret (r_lcF (own := [("cell", 3)]) finC_ok rfl (by exact sc__law_rounds.nd) (w_seq (r_var (pv 2))) (blkOk_by (N := ["script", "most", "cells", "cell"]) (sc := defScope s__law_rounds) (own := [("cell", 3)]) (by decide +kernel)) (fun _ _ _ _ _ => (r_gn (pg_name (i := 3) (by exact sc__law_rounds.nd) rfl (by first | exact .inl rfl | exact .inr rfl)) (fun σ v => wipe_set (by decide)))) (fun _ _ _ _ _ => r_pts0) (fun _ _ _ _ _ => (r_callF (x := "_law_dice") B__law_dice (hr.mono (by decide : 2 ≤ 2)) takes_en (by rfl) (r_acons (r_var (pv 3)) r_anil) (lenA_cons lenA_nil))))))))
theorem ok__law_rounds (T : TX w K mg base) : FnB P w K mg base 3 "_law_rounds" ["script", "most"] (spOf (GG K) 2 m__law_rounds) := by
  obtain ⟨fd, F⟩ := T.def_ 19 (d := dd__law_rounds) rfl
  have hb : Binds K fd ["script", "most"] [] := F.bindsN fun _ _ _ _ _ _ us hl => match us, hl with | [_, _], _ => rfl
  exact ⟨fd, ok_fn0 (G := GG K) (d := dd__law_rounds) d__law_rounds F sc__law_rounds (fun n A outer s H E hr => der__law_rounds T (ok__law_dice T) n A outer s H E hr) mir__law_rounds, hb, F.kp, T.glo 19 rfl, fun_lk F⟩
theorem sc__law_told : FnScope ["what"] ["what"] (defScope s__law_told) := ⟨rfl, rfl, rfl, by decide +kernel, rfl, by decide +kernel, by decide +kernel⟩
theorem sc__law_ratio : FnScope ["top", "bottom", "one", "other", "sign"] ["top", "bottom"] (defScope s__law_ratio) := ⟨rfl, rfl, rfl, by decide +kernel, rfl, by decide +kernel, by decide +kernel⟩
def d__law_ratio (n : Nat) : SS := (sSeq (sPar 2 3 (aCons (eCall fcAbs (aCons (eVar 0) aNil)) (aCons (eCall fcAbs (aCons (eVar 1) aNil)) aNil)))
  (sSeq (sWhile (bB (eOp opNe (eVar 3) (eC (.int 0)))) (sPar 2 3 (aCons (eVar 3) (aCons (eOp opMod (eVar 2) (eVar 3)) aNil))) n)
  (sSeq (sAsg (eIf (bB (eOp opGt (eVar 1) (eC (.int 0)))) (eC (.int 1)) (eNeg (eC (.int 1)))) (gN 4))
  (sRet (eTup (aCons (eOp opDiv (eOp opMul (eVar 4) (eVar 0)) (eVar 2)) (aCons (eOp opDiv (eOp opMul (eVar 4) (eVar 1)) (eVar 2)) aNil)))))))
def m__law_ratio : FC := mRatio0
theorem mir__law_ratio : ∀ ds st r st', ds.length = 2 → m__law_ratio ds st = some (r, st') → ∃ n, fnOf (d__law_ratio n) 5 ds st = some (r, st') := mir_ratioB fun _ => rfl
theorem der__law_ratio (T : TX w K mg base)  (n : Nat) (A : Around) (outer : List Env) (s : Shared) (H : Hp) (E : XK) (hr : Room 1 (A.deeper (envOfC dd__law_ratio.qual dd__law_ratio.scope s.heap.objs.size (He.fAd K dd__law_ratio.at_) (.ref (He.codeOf K dd__law_ratio.at_))))) :
    PSs (cxOf (L2.CX P w) P w K mg base ["top", "bottom", "one", "other", "sign"] dd__law_ratio.qual (defScope s__law_ratio) (He.fAd K dd__law_ratio.at_) (.ref (He.codeOf K dd__law_ratio.at_)) A outer s H E) (defBody s__law_ratio) (tS (GG K) E (d__law_ratio n)) := by
  exact (r_cons (r_par rfl (by exact sc__law_ratio.nd) rfl rfl (by decide) rfl rfl (r_acons (r_callB (call_abs) f_abs (by rfl) (T.free 40 rfl) (by decide +kernel) (r_acons (r_var (pv 0)) r_anil)) (r_acons (r_callB (call_abs) f_abs (by rfl) (T.free 40 rfl) (by decide +kernel) (r_acons (r_var (pv 1)) r_anil)) r_anil)) (by rfl))
  (r_cons (r_while n passes_k (r_tc (c_ne (hr.mono (by decide : 1 ≤ 1)).units) (r_var (pv 3)) r_int) (r_one (r_par rfl (by exact sc__law_ratio.nd) rfl rfl (by decide) rfl rfl (r_acons (r_var (pv 3)) (r_acons (r_mod (r_var (pv 2)) (r_var (pv 3))) r_anil)) (by rfl))))
  (r_cons (r_asg (r_ifx (r_tc c_gt (r_var (pv 1)) r_int) r_int (r_neg r_int)) (r_gn (pg_name (i := 4) (by exact sc__law_ratio.nd) rfl (by first | exact .inl rfl | exact .inr rfl))))
  (r_one (r_ret (r_tup (r_acons (r_div (r_mul (r_var (pv 4)) (r_var (pv 0))) (r_var (pv 2))) (r_acons (r_div (r_mul (r_var (pv 4)) (r_var (pv 1))) (r_var (pv 2))) r_anil))))))))
theorem ok__law_ratio (T : TX w K mg base) : FnB P w K mg base 2 "_law_ratio" ["top", "bottom"] (spOf (GG K) 2 m__law_ratio) := by
  obtain ⟨fd, F⟩ := T.def_ 21 (d := dd__law_ratio) rfl
  have hb : Binds K fd ["top", "bottom"] [] := F.bindsN fun _ _ _ _ _ _ us hl => match us, hl with | [_, _], _ => rfl
  exact ⟨fd, ok_fn0 (G := GG K) (d := dd__law_ratio) d__law_ratio F sc__law_ratio (fun n A outer s H E hr => der__law_ratio T n A outer s H E hr) mir__law_ratio, hb, F.kp, T.glo 21 rfl, fun_lk F⟩
theorem sc__law_plus : FnScope ["one", "other"] ["one", "other"] (defScope s__law_plus) := ⟨rfl, rfl, rfl, by decide +kernel, rfl, by decide +kernel, by decide +kernel⟩
def d__law_plus (n : Nat) : SS := (sRet (eCall m__law_ratio (aCons (eOp opAdd (eOp opMul (eOp opIx (eVar 0) (eC (.int 0))) (eOp opIx (eVar 1) (eC (.int 1)))) (eOp opMul (eOp opIx (eVar 1) (eC (.int 0))) (eOp opIx (eVar 0) (eC (.int 1))))) (aCons (eOp opMul (eOp opIx (eVar 0) (eC (.int 1))) (eOp opIx (eVar 1) (eC (.int 1)))) aNil))))
def b__law_plus : FC := fun ds st => fnOf (d__law_plus 400) 2 ds st
def m__law_plus : FC := frame1 b__law_plus
theorem mir__law_plus : ∀ ds st r st', ds.length = 2 → b__law_plus ds st = some (r, st') → ∃ n, fnOf (d__law_plus n) 2 ds st = some (r, st') := fun ds st r st' _ e => ⟨400, e⟩
theorem der__law_plus (T : TX w K mg base) (B__law_ratio : FnB P w K mg base 2 "_law_ratio" ["top", "bottom"] (spOf (GG K) 2 m__law_ratio)) (n : Nat) (A : Around) (outer : List Env) (s : Shared) (H : Hp) (E : XK) (hr : Room 2 (A.deeper (envOfC dd__law_plus.qual dd__law_plus.scope s.heap.objs.size (He.fAd K dd__law_plus.at_) (.ref (He.codeOf K dd__law_plus.at_))))) :
    PSs (cxOf (L2.CX P w) P w K mg base ["one", "other"] dd__law_plus.qual (defScope s__law_plus) (He.fAd K dd__law_plus.at_) (.ref (He.codeOf K dd__law_plus.at_)) A outer s H E) (defBody s__law_plus) (tS (GG K) E (d__law_plus n)) := by
  exact (r_one (r_ret (r_callF (x := "_law_ratio") B__law_ratio (hr.mono (by decide : 2 ≤ 2)) takes_k (by rfl) (r_acons (r_add rfl (r_mul (r_ix (r_var (pv 0)) r_int) (r_ix (r_var (pv 1)) r_int)) (r_mul (r_ix (r_var (pv 1)) r_int) (r_ix (r_var (pv 0)) r_int))) (r_acons (r_mul (r_ix (r_var (pv 0)) r_int) (r_ix (r_var (pv 1)) r_int)) r_anil)) (lenA_cons (lenA_cons lenA_nil)))))
theorem ok__law_plus (T : TX w K mg base) : FnB P w K mg base 3 "_law_plus" ["one", "other"] (spOf (GG K) 2 m__law_plus) := by
  obtain ⟨fd, F⟩ := T.def_ 22 (d := dd__law_plus) rfl
  have hb : Binds K fd ["one", "other"] [] := F.bindsN fun _ _ _ _ _ _ us hl => match us, hl with | [_, _], _ => rfl
  exact ⟨fd, ok_frame (ok_fn0 (G := GG K) (d := dd__law_plus) d__law_plus F sc__law_plus (fun n A outer s H E hr => der__law_plus T (ok__law_ratio T) n A outer s H E hr) mir__law_plus), hb, F.kp, T.glo 22 rfl, fun_lk F⟩
theorem sc__law_times : FnScope ["one", "other"] ["one", "other"] (defScope s__law_times) := ⟨rfl, rfl, rfl, by decide +kernel, rfl, by decide +kernel, by decide +kernel⟩
def d__law_times (n : Nat) : SS := (sRet (eCall m__law_ratio (aCons (eOp opMul (eOp opIx (eVar 0) (eC (.int 0))) (eOp opIx (eVar 1) (eC (.int 0)))) (aCons (eOp opMul (eOp opIx (eVar 0) (eC (.int 1))) (eOp opIx (eVar 1) (eC (.int 1)))) aNil))))
def b__law_times : FC := fun ds st => fnOf (d__law_times 400) 2 ds st
def m__law_times : FC := frame1 b__law_times
theorem mir__law_times : ∀ ds st r st', ds.length = 2 → b__law_times ds st = some (r, st') → ∃ n, fnOf (d__law_times n) 2 ds st = some (r, st') := fun ds st r st' _ e => ⟨400, e⟩
theorem der__law_times (T : TX w K mg base) (B__law_ratio : FnB P w K mg base 2 "_law_ratio" ["top", "bottom"] (spOf (GG K) 2 m__law_ratio)) (n : Nat) (A : Around) (outer : List Env) (s : Shared) (H : Hp) (E : XK) (hr : Room 2 (A.deeper (envOfC dd__law_times.qual dd__law_times.scope s.heap.objs.size (He.fAd K dd__law_times.at_) (.ref (He.codeOf K dd__law_times.at_))))) :
    PSs (cxOf (L2.CX P w) P w K mg base ["one", "other"] dd__law_times.qual (defScope s__law_times) (He.fAd K dd__law_times.at_) (.ref (He.codeOf K dd__law_times.at_)) A outer s H E) (defBody s__law_times) (tS (GG K) E (d__law_times n)) := by
  exact (r_one (r_ret (r_callF (x := "_law_ratio") B__law_ratio (hr.mono (by decide : 2 ≤ 2)) takes_k (by rfl) (r_acons (r_mul (r_ix (r_var (pv 0)) r_int) (r_ix (r_var (pv 1)) r_int)) (r_acons (r_mul (r_ix (r_var (pv 0)) r_int) (r_ix (r_var (pv 1)) r_int)) r_anil)) (lenA_cons (lenA_cons lenA_nil)))))
theorem ok__law_times (T : TX w K mg base) : FnB P w K mg base 3 "_law_times" ["one", "other"] (spOf (GG K) 2 m__law_times) := by
  obtain ⟨fd, F⟩ := T.def_ 23 (d := dd__law_times) rfl
  have hb : Binds K fd ["one", "other"] [] := F.bindsN fun _ _ _ _ _ _ us hl => match us, hl with | [_, _], _ => rfl
  exact ⟨fd, ok_frame (ok_fn0 (G := GG K) (d := dd__law_times) d__law_times F sc__law_times (fun n A outer s H E hr => der__law_times T (ok__law_ratio T) n A outer s H E hr) mir__law_times), hb, F.kp, T.glo 23 rfl, fun_lk F⟩
theorem sc__law_minus : FnScope ["one", "other"] ["one", "other"] (defScope s__law_minus) := ⟨rfl, rfl, rfl, by decide +kernel, rfl, by decide +kernel, by decide +kernel⟩
def d__law_minus (n : Nat) : SS := (sRet (eCall m__law_plus (aCons (eVar 0) (aCons (eTup (aCons (eNeg (eOp opIx (eVar 1) (eC (.int 0)))) (aCons (eOp opIx (eVar 1) (eC (.int 1))) aNil))) aNil))))
def b__law_minus : FC := fun ds st => fnOf (d__law_minus 400) 2 ds st
def m__law_minus : FC := frame1 b__law_minus
theorem mir__law_minus : ∀ ds st r st', ds.length = 2 → b__law_minus ds st = some (r, st') → ∃ n, fnOf (d__law_minus n) 2 ds st = some (r, st') := fun ds st r st' _ e => ⟨400, e⟩
theorem der__law_minus (T : TX w K mg base) (B__law_plus : FnB P w K mg base 3 "_law_plus" ["one", "other"] (spOf (GG K) 2 m__law_plus)) (n : Nat) (A : Around) (outer : List Env) (s : Shared) (H : Hp) (E : XK) (hr : Room 3 (A.deeper (envOfC dd__law_minus.qual dd__law_minus.scope s.heap.objs.size (He.fAd K dd__law_minus.at_) (.ref (He.codeOf K dd__law_minus.at_))))) :
    PSs (cxOf (L2.CX P w) P w K mg base ["one", "other"] dd__law_minus.qual (defScope s__law_minus) (He.fAd K dd__law_minus.at_) (.ref (He.codeOf K dd__law_minus.at_)) A outer s H E) (defBody s__law_minus) (tS (GG K) E (d__law_minus n)) := by
  exact (r_one (r_ret (r_callF (x := "_law_plus") B__law_plus (hr.mono (by decide : 3 ≤ 3)) takes_k (by rfl) (r_acons (r_var (pv 0)) (r_acons (r_tup (r_acons (r_neg (r_ix (r_var (pv 1)) r_int)) (r_acons (r_ix (r_var (pv 1)) r_int) r_anil))) r_anil)) (lenA_cons (lenA_cons lenA_nil)))))
theorem ok__law_minus (T : TX w K mg base) : FnB P w K mg base 4 "_law_minus" ["one", "other"] (spOf (GG K) 2 m__law_minus) := by
  obtain ⟨fd, F⟩ := T.def_ 24 (d := dd__law_minus) rfl
  have hb : Binds K fd ["one", "other"] [] := F.bindsN fun _ _ _ _ _ _ us hl => match us, hl with | [_, _], _ => rfl
  exact ⟨fd, ok_frame (ok_fn0 (G := GG K) (d := dd__law_minus) d__law_minus F sc__law_minus (fun n A outer s H E hr => der__law_minus T (ok__law_plus T) n A outer s H E hr) mir__law_minus), hb, F.kp, T.glo 24 rfl, fun_lk F⟩
theorem sc__law_less : FnScope ["one", "other"] ["one", "other"] (defScope s__law_less) := ⟨rfl, rfl, rfl, by decide +kernel, rfl, by decide +kernel, by decide +kernel⟩
def d__law_less (n : Nat) : SS := (sRet (eOp opLt (eOp opMul (eOp opIx (eVar 0) (eC (.int 0))) (eOp opIx (eVar 1) (eC (.int 1)))) (eOp opMul (eOp opIx (eVar 1) (eC (.int 0))) (eOp opIx (eVar 0) (eC (.int 1))))))
def b__law_less : FC := fun ds st => fnOf (d__law_less 400) 2 ds st
def m__law_less : FC := frame1 b__law_less
theorem mir__law_less : ∀ ds st r st', ds.length = 2 → b__law_less ds st = some (r, st') → ∃ n, fnOf (d__law_less n) 2 ds st = some (r, st') := fun ds st r st' _ e => ⟨400, e⟩
theorem der__law_less (T : TX w K mg base)  (n : Nat) (A : Around) (outer : List Env) (s : Shared) (H : Hp) (E : XK) (hr : Room 1 (A.deeper (envOfC dd__law_less.qual dd__law_less.scope s.heap.objs.size (He.fAd K dd__law_less.at_) (.ref (He.codeOf K dd__law_less.at_))))) :
    PSs (cxOf (L2.CX P w) P w K mg base ["one", "other"] dd__law_less.qual (defScope s__law_less) (He.fAd K dd__law_less.at_) (.ref (He.codeOf K dd__law_less.at_)) A outer s H E) (defBody s__law_less) (tS (GG K) E (d__law_less n)) := by
  exact (r_one (r_ret (r_c c_lt (r_mul (r_ix (r_var (pv 0)) r_int) (r_ix (r_var (pv 1)) r_int)) (r_mul (r_ix (r_var (pv 1)) r_int) (r_ix (r_var (pv 0)) r_int)))))
theorem ok__law_less (T : TX w K mg base) : FnB P w K mg base 2 "_law_less" ["one", "other"] (spOf (GG K) 2 m__law_less) := by
  obtain ⟨fd, F⟩ := T.def_ 25 (d := dd__law_less) rfl
  have hb : Binds K fd ["one", "other"] [] := F.bindsN fun _ _ _ _ _ _ us hl => match us, hl with | [_, _], _ => rfl
  exact ⟨fd, ok_frame (ok_fn0 (G := GG K) (d := dd__law_less) d__law_less F sc__law_less (fun n A outer s H E hr => der__law_less T n A outer s H E hr) mir__law_less), hb, F.kp, T.glo 25 rfl, fun_lk F⟩
theorem sc__law_grown : FnScope ["pence", "rate", "years", "found", "k"] ["pence", "rate", "years"] (defScope s__law_grown) := ⟨rfl, rfl, rfl, by decide +kernel, rfl, by decide +kernel, by decide +kernel⟩
def d__law_grown (n : Nat) : SS := (sSeq (sAsg (eTup (aCons (eVar 0) (aCons (eC (.int 1)) aNil))) (gN 3))
  (sSeq (sFor (wR1 (aCons (eVar 2) aNil)) (gN 4) (sAsg (eCall m__law_plus (aCons (eVar 3) (aCons (eCall m__law_times (aCons (eVar 3) (aCons (eVar 1) aNil))) aNil))) (gN 3)))
  (sRet (eVar 3))))
def b__law_grown : FC := fun ds st => fnOf (d__law_grown 400) 5 ds st
def m__law_grown : FC := frame1 b__law_grown
theorem mir__law_grown : ∀ ds st r st', ds.length = 3 → b__law_grown ds st = some (r, st') → ∃ n, fnOf (d__law_grown n) 5 ds st = some (r, st') := fun ds st r st' _ e => ⟨400, e⟩
theorem der__law_grown (T : TX w K mg base) (B__law_plus : FnB P w K mg base 3 "_law_plus" ["one", "other"] (spOf (GG K) 2 m__law_plus)) (B__law_times : FnB P w K mg base 3 "_law_times" ["one", "other"] (spOf (GG K) 2 m__law_times)) (n : Nat) (A : Around) (outer : List Env) (s : Shared) (H : Hp) (E : XK) (hr : Room 3 (A.deeper (envOfC dd__law_grown.qual dd__law_grown.scope s.heap.objs.size (He.fAd K dd__law_grown.at_) (.ref (He.codeOf K dd__law_grown.at_))))) :
    PSs (cxOf (L2.CX P w) P w K mg base ["pence", "rate", "years", "found", "k"] dd__law_grown.qual (defScope s__law_grown) (He.fAd K dd__law_grown.at_) (.ref (He.codeOf K dd__law_grown.at_)) A outer s H E) (defBody s__law_grown) (tS (GG K) E (d__law_grown n)) := by
  exact (r_cons (r_asg (r_tup (r_acons (r_var (pv 0)) (r_acons r_int r_anil))) (r_gn (pg_name (i := 3) (by exact sc__law_grown.nd) rfl (by first | exact .inl rfl | exact .inr rfl))))
  (r_cons (r_for passes_k rfl (w_r1 (by rfl) (T.free 47 rfl) (r_acons (r_var (pv 2)) r_anil)) (r_gn (pg_name (i := 4) (by exact sc__law_grown.nd) rfl (by first | exact .inl rfl | exact .inr rfl))) (r_one (r_asg (r_callF (x := "_law_plus") B__law_plus (hr.mono (by decide : 3 ≤ 3)) takes_k (by rfl) (r_acons (r_var (pv 3)) (r_acons (r_callF (x := "_law_times") B__law_times (hr.mono (by decide : 3 ≤ 3)) takes_k (by rfl) (r_acons (r_var (pv 3)) (r_acons (r_var (pv 1)) r_anil)) (lenA_cons (lenA_cons lenA_nil))) r_anil)) (lenA_cons (lenA_cons lenA_nil))) (r_gn (pg_name (i := 3) (by exact sc__law_grown.nd) rfl (by first | exact .inl rfl | exact .inr rfl))))))
  (r_one (r_ret (r_var (pv 3))))))
theorem ok__law_grown (T : TX w K mg base) : FnB P w K mg base 4 "_law_grown" ["pence", "rate", "years"] (spOf (GG K) 3 m__law_grown) := by
  obtain ⟨fd, F⟩ := T.def_ 26 (d := dd__law_grown) rfl
  have hb : Binds K fd ["pence", "rate", "years"] [] := F.bindsN fun _ _ _ _ _ _ us hl => match us, hl with | [_, _, _], _ => rfl
  exact ⟨fd, ok_frame (ok_fn0 (G := GG K) (d := dd__law_grown) d__law_grown F sc__law_grown (fun n A outer s H E hr => der__law_grown T (ok__law_plus T) (ok__law_times T) n A outer s H E hr) mir__law_grown), hb, F.kp, T.glo 26 rfl, fun_lk F⟩
theorem sc__law_worth : FnScope ["rows", "rate", "found", "year", "pence", "one"] ["rows", "rate"] (defScope s__law_worth) := ⟨rfl, rfl, rfl, by decide +kernel, rfl, by decide +kernel, by decide +kernel⟩
def d__law_worth (n : Nat) : SS := (sSeq (sAsg (eTup (aCons (eC (.int 0)) (aCons (eC (.int 1)) aNil))) (gN 2))
  (sSeq (sFor (wSeq (eVar 0)) (gT [(gN 3), (gN 4)]) (sSeq (sAsg (eCall m__law_grown (aCons (eC (.int 1)) (aCons (eVar 1) (aCons (eVar 3) aNil)))) (gN 5))
  (sAsg (eCall m__law_plus (aCons (eVar 2) (aCons (eCall m__law_ratio (aCons (eOp opMul (eVar 4) (eOp opIx (eVar 5) (eC (.int 1)))) (aCons (eOp opIx (eVar 5) (eC (.int 0))) aNil))) aNil))) (gN 2))))
  (sRet (eVar 2))))
def b__law_worth : FC := fun ds st => fnOf (d__law_worth 400) 6 ds st
def m__law_worth : FC := frame1 b__law_worth
theorem mir__law_worth : ∀ ds st r st', ds.length = 2 → b__law_worth ds st = some (r, st') → ∃ n, fnOf (d__law_worth n) 6 ds st = some (r, st') := fun ds st r st' _ e => ⟨400, e⟩
theorem der__law_worth (T : TX w K mg base) (B__law_grown : FnB P w K mg base 4 "_law_grown" ["pence", "rate", "years"] (spOf (GG K) 3 m__law_grown)) (B__law_plus : FnB P w K mg base 3 "_law_plus" ["one", "other"] (spOf (GG K) 2 m__law_plus)) (B__law_ratio : FnB P w K mg base 2 "_law_ratio" ["top", "bottom"] (spOf (GG K) 2 m__law_ratio)) (n : Nat) (A : Around) (outer : List Env) (s : Shared) (H : Hp) (E : XK) (hr : Room 4 (A.deeper (envOfC dd__law_worth.qual dd__law_worth.scope s.heap.objs.size (He.fAd K dd__law_worth.at_) (.ref (He.codeOf K dd__law_worth.at_))))) :
    PSs (cxOf (L2.CX P w) P w K mg base ["rows", "rate", "found", "year", "pence", "one"] dd__law_worth.qual (defScope s__law_worth) (He.fAd K dd__law_worth.at_) (.ref (He.codeOf K dd__law_worth.at_)) A outer s H E) (defBody s__law_worth) (tS (GG K) E (d__law_worth n)) := by
  exact (r_cons (r_asg (r_tup (r_acons r_int (r_acons r_int r_anil))) (r_gn (pg_name (i := 2) (by exact sc__law_worth.nd) rfl (by first | exact .inl rfl | exact .inr rfl))))
  (r_cons (r_for passes_k rfl (w_seq (r_var (pv 0))) (r_gtup rfl (r_gs (r_gn (pg_name (i := 3) (by exact sc__law_worth.nd) rfl (by first | exact .inl rfl | exact .inr rfl))) (r_gs (r_gn (pg_name (i := 4) (by exact sc__law_worth.nd) rfl (by first | exact .inl rfl | exact .inr rfl))) (r_gs0)))) (r_cons (r_asg (r_callF (x := "_law_grown") B__law_grown (hr.mono (by decide : 4 ≤ 4)) takes_k (by rfl) (r_acons r_int (r_acons (r_var (pv 1)) (r_acons (r_var (pv 3)) r_anil))) (lenA_cons (lenA_cons (lenA_cons lenA_nil)))) (r_gn (pg_name (i := 5) (by exact sc__law_worth.nd) rfl (by first | exact .inl rfl | exact .inr rfl))))
  (r_one (r_asg (r_callF (x := "_law_plus") B__law_plus (hr.mono (by decide : 3 ≤ 4)) takes_k (by rfl) (r_acons (r_var (pv 2)) (r_acons (r_callF (x := "_law_ratio") B__law_ratio (hr.mono (by decide : 2 ≤ 4)) takes_k (by rfl) (r_acons (r_mul (r_var (pv 4)) (r_ix (r_var (pv 5)) r_int)) (r_acons (r_ix (r_var (pv 5)) r_int) r_anil)) (lenA_cons (lenA_cons lenA_nil))) r_anil)) (lenA_cons (lenA_cons lenA_nil))) (r_gn (pg_name (i := 2) (by exact sc__law_worth.nd) rfl (by first | exact .inl rfl | exact .inr rfl)))))))
  (r_one (r_ret (r_var (pv 2))))))
theorem ok__law_worth (T : TX w K mg base) : FnB P w K mg base 5 "_law_worth" ["rows", "rate"] (spOf (GG K) 2 m__law_worth) := by
  obtain ⟨fd, F⟩ := T.def_ 27 (d := dd__law_worth) rfl
  have hb : Binds K fd ["rows", "rate"] [] := F.bindsN fun _ _ _ _ _ _ us hl => match us, hl with | [_, _], _ => rfl
  exact ⟨fd, ok_frame (ok_fn0 (G := GG K) (d := dd__law_worth) d__law_worth F sc__law_worth (fun n A outer s H E hr => der__law_worth T (ok__law_grown T) (ok__law_plus T) (ok__law_ratio T) n A outer s H E hr) mir__law_worth), hb, F.kp, T.glo 27 rfl, fun_lk F⟩
theorem sc__law_near : FnScope ["one", "low", "twice"] ["one"] (defScope s__law_near) := ⟨rfl, rfl, rfl, by decide +kernel, rfl, by decide +kernel, by decide +kernel⟩
def d__law_near (n : Nat) : SS := (sSeq (sAsg (eOp opDiv (eOp opIx (eVar 0) (eC (.int 0))) (eOp opIx (eVar 0) (eC (.int 1)))) (gN 1))
  (sSeq (sAsg (eOp opMul (eC (.int 2)) (eOp opSub (eOp opIx (eVar 0) (eC (.int 0))) (eOp opMul (eVar 1) (eOp opIx (eVar 0) (eC (.int 1)))))) (gN 2))
  (sRet (eOp opAdd (eVar 1) (eCall fcInt (aCons (eOr (eOp opGt (eVar 2) (eOp opIx (eVar 0) (eC (.int 1)))) (eAnd (eOp opEq (eVar 2) (eOp opIx (eVar 0) (eC (.int 1)))) (eOp opEq (eOp opMod (eVar 1) (eC (.int 2))) (eC (.int 1))))) aNil))))))
def b__law_near : FC := fun ds st => fnOf (d__law_near 400) 3 ds st
def m__law_near : FC := frame1 b__law_near
theorem mir__law_near : ∀ ds st r st', ds.length = 1 → b__law_near ds st = some (r, st') → ∃ n, fnOf (d__law_near n) 3 ds st = some (r, st') := fun ds st r st' _ e => ⟨400, e⟩
theorem der__law_near (T : TX w K mg base)  (n : Nat) (A : Around) (outer : List Env) (s : Shared) (H : Hp) (E : XK) (hr : Room 1 (A.deeper (envOfC dd__law_near.qual dd__law_near.scope s.heap.objs.size (He.fAd K dd__law_near.at_) (.ref (He.codeOf K dd__law_near.at_))))) :
    PSs (cxOf (L2.CX P w) P w K mg base ["one", "low", "twice"] dd__law_near.qual (defScope s__law_near) (He.fAd K dd__law_near.at_) (.ref (He.codeOf K dd__law_near.at_)) A outer s H E) (defBody s__law_near) (tS (GG K) E (d__law_near n)) := by
  exact (r_cons (r_asg (r_div (r_ix (r_var (pv 0)) r_int) (r_ix (r_var (pv 0)) r_int)) (r_gn (pg_name (i := 1) (by exact sc__law_near.nd) rfl (by first | exact .inl rfl | exact .inr rfl))))
  (r_cons (r_asg (r_mul r_int (r_sub (r_ix (r_var (pv 0)) r_int) (r_mul (r_var (pv 1)) (r_ix (r_var (pv 0)) r_int)))) (r_gn (pg_name (i := 2) (by exact sc__law_near.nd) rfl (by first | exact .inl rfl | exact .inr rfl))))
  (r_one (r_ret (r_add rfl (r_var (pv 1)) (r_callT (call_int1) f_int (by rfl) (T.free 43 rfl) (by decide +kernel) (r_acons (r_or (r_c c_gt (r_var (pv 2)) (r_ix (r_var (pv 0)) r_int)) (r_or1 (r_and (r_c (c_eq (hr.mono (by decide : 1 ≤ 1)).units) (r_var (pv 2)) (r_ix (r_var (pv 0)) r_int)) (r_and1 (r_c (c_eq (hr.mono (by decide : 1 ≤ 1)).units) (r_mod (r_var (pv 1)) r_int) r_int))))) r_anil)))))))
theorem ok__law_near (T : TX w K mg base) : FnB P w K mg base 2 "_law_near" ["one"] (spOf (GG K) 1 m__law_near) := by
  obtain ⟨fd, F⟩ := T.def_ 28 (d := dd__law_near) rfl
  have hb : Binds K fd ["one"] [] := F.bindsN fun _ _ _ _ _ _ us hl => match us, hl with | [_], _ => rfl
  exact ⟨fd, ok_frame (ok_fn0 (G := GG K) (d := dd__law_near) d__law_near F sc__law_near (fun n A outer s H E hr => der__law_near T n A outer s H E hr) mir__law_near), hb, F.kp, T.glo 28 rfl, fun_lk F⟩
theorem sc__law_plain : FnScope ["bad", "f"] [] (defScope s__law_plain) := ⟨rfl, rfl, rfl, by decide +kernel, rfl, by decide +kernel, by decide +kernel⟩
abbrev st__law_plain : Stmt := (defBody s__law_plain).getD 0 (.Pass ⟨0, 0, 0, 0⟩)
def lam0__law_plain : LamD := lamD st__law_plain 0 (eCall m_check_rate (aCons (eTup (aCons (eNeg (eC (.int 1))) (aCons (eC (.int 2)) aNil))) aNil))
def lam1__law_plain : LamD := lamD st__law_plain 1 (eCall m_check_rate (aCons (eTup (aCons (eC (.int 3)) (aCons (eC (.int 2)) aNil))) aNil))
def lam2__law_plain : LamD := lamD st__law_plain 2 (eCall m_grown (aCons (eTup (aCons (eC (.int 1)) (aCons (eC (.int 1)) aNil))) (aCons (eTup (aCons (eC (.int 1)) (aCons (eC (.int 2)) aNil))) (aCons (eNeg (eC (.int 1))) aNil))))
def lam3__law_plain : LamD := lamD st__law_plain 3 (eCall m_grown (aCons (eTup (aCons (eC (.int 1)) (aCons (eC (.int 1)) aNil))) (aCons (eTup (aCons (eC (.int 1)) (aCons (eC (.int 2)) aNil))) (aCons (eC (.int 101)) aNil))))
def lam4__law_plain : LamD := lamD st__law_plain 4 (eCall m_grown (aCons (eTup (aCons (eC (.int 1)) (aCons (eC (.int 1)) aNil))) (aCons (eTup (aCons (eNeg (eC (.int 1))) (aCons (eC (.int 2)) aNil))) (aCons (eC (.int 1)) aNil))))
def lam5__law_plain : LamD := lamD st__law_plain 5 (eCall m_worth_now (aCons (eCst (aCons (eTup (aCons (eNeg (eC (.int 1))) (aCons (eC (.int 1)) aNil))) aNil)) (aCons (eTup (aCons (eC (.int 1)) (aCons (eC (.int 2)) aNil))) aNil)))
def lam6__law_plain : LamD := lamD st__law_plain 6 (eCall m_worth_now (aCons (eCst (aCons (eTup (aCons (eC (.int 101)) (aCons (eC (.int 1)) aNil))) aNil)) (aCons (eTup (aCons (eC (.int 1)) (aCons (eC (.int 2)) aNil))) aNil)))
def lam7__law_plain : LamD := lamD st__law_plain 7 (eCall m_each_year (aCons (eC (.int 1)) (aCons (eTup (aCons (eC (.int 1)) (aCons (eC (.int 2)) aNil))) (aCons (eC (.int 0)) aNil))))
def lam8__law_plain : LamD := lamD st__law_plain 8 (eCall m_each_year (aCons (eC (.int 1)) (aCons (eTup (aCons (eC (.int 0)) (aCons (eC (.int 1)) aNil))) (aCons (eC (.int 101)) aNil))))
def lam9__law_plain : LamD := lamD st__law_plain 9 (eCall m_each_year (aCons (eC (.int 1)) (aCons (eTup (aCons (eC (.int 3)) (aCons (eC (.int 2)) aNil))) (aCons (eC (.int 1)) aNil))))
def lam10__law_plain : LamD := lamD st__law_plain 10 (eCall m_plan (aCons (eC (.int 0)) (aCons (eTup (aCons (eC (.int 1)) (aCons (eC (.int 2)) aNil))) (aCons (eC (.int 1)) aNil))))
def lam11__law_plain : LamD := lamD st__law_plain 11 (eCall m_plan (aCons (eC (.int 1)) (aCons (eTup (aCons (eC (.int 1)) (aCons (eC (.int 2)) aNil))) (aCons (eC (.int 0)) aNil))))
def lam12__law_plain : LamD := lamD st__law_plain 12 (eCall m_better (aCons (eCst (aCons (eTup (aCons (eC (.int 0)) (aCons (eC (.int 1)) aNil))) aNil)) (aCons (eCst (aCons (eTup (aCons (eC (.int 101)) (aCons (eC (.int 1)) aNil))) aNil)) (aCons (eTup (aCons (eC (.int 1)) (aCons (eC (.int 2)) aNil))) aNil))))
def lam13__law_plain : LamD := lamD st__law_plain 13 (eCall m_rate_of (aCons (eCst aNil) (aCons (eNeg (eC (.int 1))) aNil)))
def lam14__law_plain : LamD := lamD st__law_plain 14 (eCall m_rate_of (aCons (eCst aNil) (aCons (eC (.int 1001)) aNil)))
def lam15__law_plain : LamD := lamD st__law_plain 15 (eCall m_years_to (aCons (eC (.int 0)) (aCons (eC (.int 1)) (aCons (eTup (aCons (eC (.int 1)) (aCons (eC (.int 2)) aNil))) aNil))))
def lam16__law_plain : LamD := lamD st__law_plain 16 (eCall m_years_to (aCons (eC (.int 1)) (aCons (eC (.int 0)) (aCons (eTup (aCons (eC (.int 1)) (aCons (eC (.int 2)) aNil))) aNil))))
def lam17__law_plain : LamD := lamD st__law_plain 17 (eCall m_years_to (aCons (eC (.int 1)) (aCons (eC (.int 1)) (aCons (eTup (aCons (eNeg (eC (.int 1))) (aCons (eC (.int 2)) aNil))) aNil))))
def lam18__law_plain : LamD := lamD st__law_plain 18 (eCall m_even_out (aCons (eCst aNil) aNil))
def lam19__law_plain : LamD := lamD st__law_plain 19 (eCall m_even_out (aCons (eCst (aCons (eTup (aCons (eC (.int 1)) (aCons (eNeg (eC (.int 1))) aNil))) (aCons (eTup (aCons (eC (.int 1)) (aCons (eC (.int 2)) aNil))) aNil))) aNil))
def lams__law_plain : List LamD := [lam0__law_plain, lam1__law_plain, lam2__law_plain, lam3__law_plain, lam4__law_plain, lam5__law_plain, lam6__law_plain, lam7__law_plain, lam8__law_plain, lam9__law_plain, lam10__law_plain, lam11__law_plain, lam12__law_plain, lam13__law_plain, lam14__law_plain, lam15__law_plain, lam16__law_plain, lam17__law_plain, lam18__law_plain, lam19__law_plain]
def d__law_plain (n : Nat) : SS := (sBad 0 (sSeq (sIf (bOr (bB (eBadT (fun i => i == 2) "MoneyError" (lams__law_plain.map (·.fe)))) (bB (eOp opNe (eC (.int 100)) (eC (.int 100))))) (sRet (eC (.bl false))) sNil)
  (sSeq (sIf (bB (eOp opNe (eCall m_grown (aCons (eTup (aCons (eC (.int 100)) (aCons (eC (.int 1)) aNil))) (aCons (eTup (aCons (eC (.int 1)) (aCons (eC (.int 10)) aNil))) (aCons (eC (.int 2)) aNil)))) (eTup (aCons (eC (.int 121)) (aCons (eC (.int 1)) aNil))))) (sRet (eC (.bl false))) sNil)
  (sSeq (sIf (bB (eOp opNe (eCall m_plan (aCons (eC (.int 100)) (aCons (eTup (aCons (eC (.int 1)) (aCons (eC (.int 10)) aNil))) (aCons (eC (.int 3)) aNil)))) (eTup (aCons (eTup (aCons (eC (.int 1)) (aCons (eC (.int 10)) (aCons (eC (.int 30)) (aCons (eC (.int 70)) aNil))))) (aCons (eTup (aCons (eC (.int 2)) (aCons (eC (.int 7)) (aCons (eC (.int 33)) (aCons (eC (.int 37)) aNil))))) (aCons (eTup (aCons (eC (.int 3)) (aCons (eC (.int 4)) (aCons (eC (.int 37)) (aCons (eC (.int 0)) aNil))))) aNil)))))) (sRet (eC (.bl false))) sNil)
  (sRet (eAnd (eOp opEq (eCall m_years_to (aCons (eC (.int 100)) (aCons (eC (.int 200)) (aCons (eTup (aCons (eC (.int 1)) (aCons (eC (.int 10)) aNil))) aNil)))) (eC (.int 8))) (eAnd (eIsN (eCall m_years_to (aCons (eC (.int 1)) (aCons (eC (.int 2)) (aCons (eTup (aCons (eC (.int 0)) (aCons (eC (.int 1)) aNil))) aNil))))) (eAnd (eOp opEq (eCall m_even_out (aCons (eCst (aCons (eTup (aCons (eC (.int 1)) (aCons (eC (.int 10)) aNil))) (aCons (eTup (aCons (eC (.int 3)) (aCons (eC (.int 30)) aNil))) aNil))) aNil)) (eTup (aCons (eC (.int 5)) (aCons (eC (.int 2)) aNil)))) (eAnd (eOp opEq (eCall m_rate_of (aCons (eCst (aCons (eTup (aCons (eC (.int 0)) (aCons (eNeg (eC (.int 100))) aNil))) (aCons (eTup (aCons (eC (.int 1)) (aCons (eC (.int 110)) aNil))) aNil))) (aCons (eC (.int 200)) aNil))) (eC (.int 100))) (eOp opEq (eCall m_better (aCons (eCst (aCons (eTup (aCons (eC (.int 0)) (aCons (eC (.int 10)) aNil))) aNil)) (aCons (eCst (aCons (eTup (aCons (eC (.int 1)) (aCons (eC (.int 11)) aNil))) aNil)) (aCons (eTup (aCons (eC (.int 1)) (aCons (eC (.int 10)) aNil))) aNil)))) (eC (.int 0))))))))))))
def b__law_plain : FC := fun ds st => fnOf (d__law_plain 400) 2 ds st
def m__law_plain : FC := frame1 b__law_plain
theorem mir__law_plain : ∀ ds st r st', ds.length = 0 → b__law_plain ds st = some (r, st') → ∃ n, fnOf (d__law_plain n) 2 ds st = some (r, st') := fun ds st r st' _ e => ⟨400, e⟩
theorem der__law_plain (T : TX w K mg base) (B_better : FnB P w K mg base 7 "better" ["one", "other", "rate"] (spOf (GG K) 3 m_better)) (B_check_rate : FnB P w K mg base 3 "check_rate" ["rate"] (spOf (GG K) 1 m_check_rate)) (B_each_year : FnB P w K mg base 6 "each_year" ["pence", "rate", "years"] (spOf (GG K) 3 m_each_year)) (B_even_out : FnB P w K mg base 8 "even_out" ["rows"] (spOf (GG K) 1 m_even_out)) (B_grown : FnB P w K mg base 5 "grown" ["pence", "rate", "years"] (spOf (GG K) 3 m_grown)) (B_plan : FnB P w K mg base 7 "plan" ["pence", "rate", "years"] (spOf (GG K) 3 m_plan)) (B_rate_of : FnB P w K mg base 7 "rate_of" ["rows", "most"] (spOf (GG K) 2 m_rate_of)) (B_worth_now : FnB P w K mg base 6 "worth_now" ["rows", "rate"] (spOf (GG K) 2 m_worth_now)) (B_years_to : FnB P w K mg base 4 "years_to" ["pence", "goal", "rate"] (spOf (GG K) 3 m_years_to)) {fdT : FuncData} (FT : FunD K dd__law_told.name dd__law_told.qual dd__law_told.params dd__law_told.body dd__law_told.scope (dd__law_told.dvs K) (dd__law_told.kws K) (He.fAd K dd__law_told.at_) fdT) (n : Nat) (A : Around) (outer : List Env) (s : Shared) (H : Hp) (E : XK) (hr : Room 10 (A.deeper (envOfC dd__law_plain.qual dd__law_plain.scope s.heap.objs.size (He.fAd K dd__law_plain.at_) (.ref (He.codeOf K dd__law_plain.at_))))) :
    PSs (cxOf (L2.CX P w) P w K mg base ["bad", "f"] dd__law_plain.qual (defScope s__law_plain) (He.fAd K dd__law_plain.at_) (.ref (He.codeOf K dd__law_plain.at_)) A outer s H E) (defBody s__law_plain) (tS (GG K) E (d__law_plain n)) := by
  have D0 : LamOk (GG K) (cxOf (L2.CX P w) P w K mg base ["bad", "f"] dd__law_plain.qual (defScope s__law_plain) (He.fAd K dd__law_plain.at_) (.ref (He.codeOf K dd__law_plain.at_)) A outer s H E) 8 lam0__law_plain := ⟨LamX.lamS_by (sc := defScope s__law_plain) (by decide +kernel), rfl, fun _ _ _ _ _ => rfl, fun _ _ _ _ _ _ _ hr2 => (r_callF (x := "check_rate") B_check_rate (hr2.mono (by decide : 3 ≤ 8)) takes_lam (by rfl) (r_acons (r_tup (r_acons (r_neg r_int) (r_acons r_int r_anil))) r_anil) (lenA_cons lenA_nil))⟩
  have D1 : LamOk (GG K) (cxOf (L2.CX P w) P w K mg base ["bad", "f"] dd__law_plain.qual (defScope s__law_plain) (He.fAd K dd__law_plain.at_) (.ref (He.codeOf K dd__law_plain.at_)) A outer s H E) 8 lam1__law_plain := ⟨LamX.lamS_by (sc := defScope s__law_plain) (by decide +kernel), rfl, fun _ _ _ _ _ => rfl, fun _ _ _ _ _ _ _ hr2 => (r_callF (x := "check_rate") B_check_rate (hr2.mono (by decide : 3 ≤ 8)) takes_lam (by rfl) (r_acons (r_tup (r_acons r_int (r_acons r_int r_anil))) r_anil) (lenA_cons lenA_nil))⟩
  have D2 : LamOk (GG K) (cxOf (L2.CX P w) P w K mg base ["bad", "f"] dd__law_plain.qual (defScope s__law_plain) (He.fAd K dd__law_plain.at_) (.ref (He.codeOf K dd__law_plain.at_)) A outer s H E) 8 lam2__law_plain := ⟨LamX.lamS_by (sc := defScope s__law_plain) (by decide +kernel), rfl, fun _ _ _ _ _ => rfl, fun _ _ _ _ _ _ _ hr2 => (r_callF (x := "grown") B_grown (hr2.mono (by decide : 5 ≤ 8)) takes_lam (by rfl) (r_acons (r_tup (r_acons r_int (r_acons r_int r_anil))) (r_acons (r_tup (r_acons r_int (r_acons r_int r_anil))) (r_acons (r_neg r_int) r_anil))) (lenA_cons (lenA_cons (lenA_cons lenA_nil))))⟩
  have D3 : LamOk (GG K) (cxOf (L2.CX P w) P w K mg base ["bad", "f"] dd__law_plain.qual (defScope s__law_plain) (He.fAd K dd__law_plain.at_) (.ref (He.codeOf K dd__law_plain.at_)) A outer s H E) 8 lam3__law_plain := ⟨LamX.lamS_by (sc := defScope s__law_plain) (by decide +kernel), rfl, fun _ _ _ _ _ => rfl, fun _ _ _ _ _ _ _ hr2 => (r_callF (x := "grown") B_grown (hr2.mono (by decide : 5 ≤ 8)) takes_lam (by rfl) (r_acons (r_tup (r_acons r_int (r_acons r_int r_anil))) (r_acons (r_tup (r_acons r_int (r_acons r_int r_anil))) (r_acons r_int r_anil))) (lenA_cons (lenA_cons (lenA_cons lenA_nil))))⟩
  have D4 : LamOk (GG K) (cxOf (L2.CX P w) P w K mg base ["bad", "f"] dd__law_plain.qual (defScope s__law_plain) (He.fAd K dd__law_plain.at_) (.ref (He.codeOf K dd__law_plain.at_)) A outer s H E) 8 lam4__law_plain := ⟨LamX.lamS_by (sc := defScope s__law_plain) (by decide +kernel), rfl, fun _ _ _ _ _ => rfl, fun _ _ _ _ _ _ _ hr2 => (r_callF (x := "grown") B_grown (hr2.mono (by decide : 5 ≤ 8)) takes_lam (by rfl) (r_acons (r_tup (r_acons r_int (r_acons r_int r_anil))) (r_acons (r_tup (r_acons (r_neg r_int) (r_acons r_int r_anil))) (r_acons r_int r_anil))) (lenA_cons (lenA_cons (lenA_cons lenA_nil))))⟩
  have D5 : LamOk (GG K) (cxOf (L2.CX P w) P w K mg base ["bad", "f"] dd__law_plain.qual (defScope s__law_plain) (He.fAd K dd__law_plain.at_) (.ref (He.codeOf K dd__law_plain.at_)) A outer s H E) 8 lam5__law_plain := ⟨LamX.lamS_by (sc := defScope s__law_plain) (by decide +kernel), rfl, fun _ _ _ _ _ => rfl, fun _ _ _ _ _ _ _ hr2 => (r_callF (x := "worth_now") B_worth_now (hr2.mono (by decide : 6 ≤ 8)) takes_lam (by rfl) (r_acons (r_cst (r_acons (r_tup (r_acons (r_neg r_int) (r_acons r_int r_anil))) r_anil)) (r_acons (r_tup (r_acons r_int (r_acons r_int r_anil))) r_anil)) (lenA_cons (lenA_cons lenA_nil)))⟩
  have D6 : LamOk (GG K) (cxOf (L2.CX P w) P w K mg base ["bad", "f"] dd__law_plain.qual (defScope s__law_plain) (He.fAd K dd__law_plain.at_) (.ref (He.codeOf K dd__law_plain.at_)) A outer s H E) 8 lam6__law_plain := ⟨LamX.lamS_by (sc := defScope s__law_plain) (by decide +kernel), rfl, fun _ _ _ _ _ => rfl, fun _ _ _ _ _ _ _ hr2 => (r_callF (x := "worth_now") B_worth_now (hr2.mono (by decide : 6 ≤ 8)) takes_lam (by rfl) (r_acons (r_cst (r_acons (r_tup (r_acons r_int (r_acons r_int r_anil))) r_anil)) (r_acons (r_tup (r_acons r_int (r_acons r_int r_anil))) r_anil)) (lenA_cons (lenA_cons lenA_nil)))⟩
  have D7 : LamOk (GG K) (cxOf (L2.CX P w) P w K mg base ["bad", "f"] dd__law_plain.qual (defScope s__law_plain) (He.fAd K dd__law_plain.at_) (.ref (He.codeOf K dd__law_plain.at_)) A outer s H E) 8 lam7__law_plain := ⟨LamX.lamS_by (sc := defScope s__law_plain) (by decide +kernel), rfl, fun _ _ _ _ _ => rfl, fun _ _ _ _ _ _ _ hr2 => (r_callF (x := "each_year") B_each_year (hr2.mono (by decide : 6 ≤ 8)) takes_lam (by rfl) (r_acons r_int (r_acons (r_tup (r_acons r_int (r_acons r_int r_anil))) (r_acons r_int r_anil))) (lenA_cons (lenA_cons (lenA_cons lenA_nil))))⟩
  have D8 : LamOk (GG K) (cxOf (L2.CX P w) P w K mg base ["bad", "f"] dd__law_plain.qual (defScope s__law_plain) (He.fAd K dd__law_plain.at_) (.ref (He.codeOf K dd__law_plain.at_)) A outer s H E) 8 lam8__law_plain := ⟨LamX.lamS_by (sc := defScope s__law_plain) (by decide +kernel), rfl, fun _ _ _ _ _ => rfl, fun _ _ _ _ _ _ _ hr2 => (r_callF (x := "each_year") B_each_year (hr2.mono (by decide : 6 ≤ 8)) takes_lam (by rfl) (r_acons r_int (r_acons (r_tup (r_acons r_int (r_acons r_int r_anil))) (r_acons r_int r_anil))) (lenA_cons (lenA_cons (lenA_cons lenA_nil))))⟩
  have D9 : LamOk (GG K) (cxOf (L2.CX P w) P w K mg base ["bad", "f"] dd__law_plain.qual (defScope s__law_plain) (He.fAd K dd__law_plain.at_) (.ref (He.codeOf K dd__law_plain.at_)) A outer s H E) 8 lam9__law_plain := ⟨LamX.lamS_by (sc := defScope s__law_plain) (by decide +kernel), rfl, fun _ _ _ _ _ => rfl, fun _ _ _ _ _ _ _ hr2 => (r_callF (x := "each_year") B_each_year (hr2.mono (by decide : 6 ≤ 8)) takes_lam (by rfl) (r_acons r_int (r_acons (r_tup (r_acons r_int (r_acons r_int r_anil))) (r_acons r_int r_anil))) (lenA_cons (lenA_cons (lenA_cons lenA_nil))))⟩
  have D10 : LamOk (GG K) (cxOf (L2.CX P w) P w K mg base ["bad", "f"] dd__law_plain.qual (defScope s__law_plain) (He.fAd K dd__law_plain.at_) (.ref (He.codeOf K dd__law_plain.at_)) A outer s H E) 8 lam10__law_plain := ⟨LamX.lamS_by (sc := defScope s__law_plain) (by decide +kernel), rfl, fun _ _ _ _ _ => rfl, fun _ _ _ _ _ _ _ hr2 => (r_callF (x := "plan") B_plan (hr2.mono (by decide : 7 ≤ 8)) takes_lam (by rfl) (r_acons r_int (r_acons (r_tup (r_acons r_int (r_acons r_int r_anil))) (r_acons r_int r_anil))) (lenA_cons (lenA_cons (lenA_cons lenA_nil))))⟩
  have D11 : LamOk (GG K) (cxOf (L2.CX P w) P w K mg base ["bad", "f"] dd__law_plain.qual (defScope s__law_plain) (He.fAd K dd__law_plain.at_) (.ref (He.codeOf K dd__law_plain.at_)) A outer s H E) 8 lam11__law_plain := ⟨LamX.lamS_by (sc := defScope s__law_plain) (by decide +kernel), rfl, fun _ _ _ _ _ => rfl, fun _ _ _ _ _ _ _ hr2 => (r_callF (x := "plan") B_plan (hr2.mono (by decide : 7 ≤ 8)) takes_lam (by rfl) (r_acons r_int (r_acons (r_tup (r_acons r_int (r_acons r_int r_anil))) (r_acons r_int r_anil))) (lenA_cons (lenA_cons (lenA_cons lenA_nil))))⟩
  have D12 : LamOk (GG K) (cxOf (L2.CX P w) P w K mg base ["bad", "f"] dd__law_plain.qual (defScope s__law_plain) (He.fAd K dd__law_plain.at_) (.ref (He.codeOf K dd__law_plain.at_)) A outer s H E) 8 lam12__law_plain := ⟨LamX.lamS_by (sc := defScope s__law_plain) (by decide +kernel), rfl, fun _ _ _ _ _ => rfl, fun _ _ _ _ _ _ _ hr2 => (r_callF (x := "better") B_better (hr2.mono (by decide : 7 ≤ 8)) takes_lam (by rfl) (r_acons (r_cst (r_acons (r_tup (r_acons r_int (r_acons r_int r_anil))) r_anil)) (r_acons (r_cst (r_acons (r_tup (r_acons r_int (r_acons r_int r_anil))) r_anil)) (r_acons (r_tup (r_acons r_int (r_acons r_int r_anil))) r_anil))) (lenA_cons (lenA_cons (lenA_cons lenA_nil))))⟩
  have D13 : LamOk (GG K) (cxOf (L2.CX P w) P w K mg base ["bad", "f"] dd__law_plain.qual (defScope s__law_plain) (He.fAd K dd__law_plain.at_) (.ref (He.codeOf K dd__law_plain.at_)) A outer s H E) 8 lam13__law_plain := ⟨LamX.lamS_by (sc := defScope s__law_plain) (by decide +kernel), rfl, fun _ _ _ _ _ => rfl, fun _ _ _ _ _ _ _ hr2 => (r_callF (x := "rate_of") B_rate_of (hr2.mono (by decide : 7 ≤ 8)) takes_lam (by rfl) (r_acons (r_cst r_anil) (r_acons (r_neg r_int) r_anil)) (lenA_cons (lenA_cons lenA_nil)))⟩
  have D14 : LamOk (GG K) (cxOf (L2.CX P w) P w K mg base ["bad", "f"] dd__law_plain.qual (defScope s__law_plain) (He.fAd K dd__law_plain.at_) (.ref (He.codeOf K dd__law_plain.at_)) A outer s H E) 8 lam14__law_plain := ⟨LamX.lamS_by (sc := defScope s__law_plain) (by decide +kernel), rfl, fun _ _ _ _ _ => rfl, fun _ _ _ _ _ _ _ hr2 => (r_callF (x := "rate_of") B_rate_of (hr2.mono (by decide : 7 ≤ 8)) takes_lam (by rfl) (r_acons (r_cst r_anil) (r_acons r_int r_anil)) (lenA_cons (lenA_cons lenA_nil)))⟩
  have D15 : LamOk (GG K) (cxOf (L2.CX P w) P w K mg base ["bad", "f"] dd__law_plain.qual (defScope s__law_plain) (He.fAd K dd__law_plain.at_) (.ref (He.codeOf K dd__law_plain.at_)) A outer s H E) 8 lam15__law_plain := ⟨LamX.lamS_by (sc := defScope s__law_plain) (by decide +kernel), rfl, fun _ _ _ _ _ => rfl, fun _ _ _ _ _ _ _ hr2 => (r_callF (x := "years_to") B_years_to (hr2.mono (by decide : 4 ≤ 8)) takes_lam (by rfl) (r_acons r_int (r_acons r_int (r_acons (r_tup (r_acons r_int (r_acons r_int r_anil))) r_anil))) (lenA_cons (lenA_cons (lenA_cons lenA_nil))))⟩
  have D16 : LamOk (GG K) (cxOf (L2.CX P w) P w K mg base ["bad", "f"] dd__law_plain.qual (defScope s__law_plain) (He.fAd K dd__law_plain.at_) (.ref (He.codeOf K dd__law_plain.at_)) A outer s H E) 8 lam16__law_plain := ⟨LamX.lamS_by (sc := defScope s__law_plain) (by decide +kernel), rfl, fun _ _ _ _ _ => rfl, fun _ _ _ _ _ _ _ hr2 => (r_callF (x := "years_to") B_years_to (hr2.mono (by decide : 4 ≤ 8)) takes_lam (by rfl) (r_acons r_int (r_acons r_int (r_acons (r_tup (r_acons r_int (r_acons r_int r_anil))) r_anil))) (lenA_cons (lenA_cons (lenA_cons lenA_nil))))⟩
  have D17 : LamOk (GG K) (cxOf (L2.CX P w) P w K mg base ["bad", "f"] dd__law_plain.qual (defScope s__law_plain) (He.fAd K dd__law_plain.at_) (.ref (He.codeOf K dd__law_plain.at_)) A outer s H E) 8 lam17__law_plain := ⟨LamX.lamS_by (sc := defScope s__law_plain) (by decide +kernel), rfl, fun _ _ _ _ _ => rfl, fun _ _ _ _ _ _ _ hr2 => (r_callF (x := "years_to") B_years_to (hr2.mono (by decide : 4 ≤ 8)) takes_lam (by rfl) (r_acons r_int (r_acons r_int (r_acons (r_tup (r_acons (r_neg r_int) (r_acons r_int r_anil))) r_anil))) (lenA_cons (lenA_cons (lenA_cons lenA_nil))))⟩
  have D18 : LamOk (GG K) (cxOf (L2.CX P w) P w K mg base ["bad", "f"] dd__law_plain.qual (defScope s__law_plain) (He.fAd K dd__law_plain.at_) (.ref (He.codeOf K dd__law_plain.at_)) A outer s H E) 8 lam18__law_plain := ⟨LamX.lamS_by (sc := defScope s__law_plain) (by decide +kernel), rfl, fun _ _ _ _ _ => rfl, fun _ _ _ _ _ _ _ hr2 => (r_callF (x := "even_out") B_even_out (hr2.mono (by decide : 8 ≤ 8)) takes_lam (by rfl) (r_acons (r_cst r_anil) r_anil) (lenA_cons lenA_nil))⟩
  have D19 : LamOk (GG K) (cxOf (L2.CX P w) P w K mg base ["bad", "f"] dd__law_plain.qual (defScope s__law_plain) (He.fAd K dd__law_plain.at_) (.ref (He.codeOf K dd__law_plain.at_)) A outer s H E) 8 lam19__law_plain := ⟨LamX.lamS_by (sc := defScope s__law_plain) (by decide +kernel), rfl, fun _ _ _ _ _ => rfl, fun _ _ _ _ _ _ _ hr2 => (r_callF (x := "even_out") B_even_out (hr2.mono (by decide : 8 ≤ 8)) takes_lam (by rfl) (r_acons (r_cst (r_acons (r_tup (r_acons r_int (r_acons (r_neg r_int) r_anil))) (r_acons (r_tup (r_acons r_int (r_acons r_int r_anil))) r_anil))) r_anil) (lenA_cons lenA_nil))⟩
  have home : LamHome (GG K) (cxOf (L2.CX P w) P w K mg base ["bad", "f"] dd__law_plain.qual (defScope s__law_plain) (He.fAd K dd__law_plain.at_) (.ref (He.codeOf K dd__law_plain.at_)) A outer s H E) := ⟨⟨_, _, T.tabB 1 rfl, rfl, (T.lamq 1 rfl).1, (T.lamq 1 rfl).2⟩⟩
  have Dall : ∀ d ∈ lams__law_plain, LamOk (GG K) (cxOf (L2.CX P w) P w K mg base ["bad", "f"] dd__law_plain.qual (defScope s__law_plain) (He.fAd K dd__law_plain.at_) (.ref (He.codeOf K dd__law_plain.at_)) A outer s H E) 8 d := (List.forall_mem_cons.mpr ⟨D0, (List.forall_mem_cons.mpr ⟨D1, (List.forall_mem_cons.mpr ⟨D2, (List.forall_mem_cons.mpr ⟨D3, (List.forall_mem_cons.mpr ⟨D4, (List.forall_mem_cons.mpr ⟨D5, (List.forall_mem_cons.mpr ⟨D6, (List.forall_mem_cons.mpr ⟨D7, (List.forall_mem_cons.mpr ⟨D8, (List.forall_mem_cons.mpr ⟨D9, (List.forall_mem_cons.mpr ⟨D10, (List.forall_mem_cons.mpr ⟨D11, (List.forall_mem_cons.mpr ⟨D12, (List.forall_mem_cons.mpr ⟨D13, (List.forall_mem_cons.mpr ⟨D14, (List.forall_mem_cons.mpr ⟨D15, (List.forall_mem_cons.mpr ⟨D16, (List.forall_mem_cons.mpr ⟨D17, (List.forall_mem_cons.mpr ⟨D18, (List.forall_mem_cons.mpr ⟨D19, (fun _ h => absurd h (by simp))⟩)⟩)⟩)⟩)⟩)⟩)⟩)⟩)⟩)⟩)⟩)⟩)⟩)⟩)⟩)⟩)⟩)⟩)⟩)⟩)
  have TF : ToldFn (GG K) (cxOf (L2.CX P w) P w K mg base ["bad", "f"] dd__law_plain.qual (defScope s__law_plain) (He.fAd K dd__law_plain.at_) (.ref (He.codeOf K dd__law_plain.at_)) A outer s H E) "_law_told" "MoneyError" (fun i => i == 2) := toldFn_of FT (fun _ _ _ _ _ _ us hl => match us, hl with | [_], _ => rfl) sc__law_told rfl (.inl rfl) rfl (T.glo 37 rfl) (ca_MoneyError T) (T.glo 20 rfl)
  exact (r_bad (ds := lams__law_plain) (by exact sc__law_plain.nd) rfl rfl (pa_lam1 home D0 (pa_lam1 home D1 (pa_lam1 home D2 (pa_lam1 home D3 (pa_lam1 home D4 (pa_lam1 home D5 (pa_lam1 home D6 (pa_lam1 home D7 (pa_lam1 home D8 (pa_lam1 home D9 (pa_lam1 home D10 (pa_lam1 home D11 (pa_lam1 home D12 (pa_lam1 home D13 (pa_lam1 home D14 (pa_lam1 home D15 (pa_lam1 home D16 (pa_lam1 home D17 (pa_lam1 home D18 (pa_lam1 home D19 pa_lam0)))))))))))))))))))) (by decide) (pss_badif (ps_badif (pt_bador (pt_badc rfl (hr.mono (by decide : 10 ≤ 10)) (pe_badc (iv := 1) rfl (by decide +kernel) rfl (by exact sc__law_plain.nd) (hr.mono (by decide : 10 ≤ 10)) TF Dall rfl rfl (blkOk_by (N := ["bad", "f"]) (sc := defScope s__law_plain) (own := [("f", 1)]) (by decide +kernel)) (show 1 < 2 from by decide) (fun _ _ _ _ _ => rfl) (fun _ _ _ _ _ => pv 1) (fun _ _ _ _ _ => pg_name (i := 1) (by exact sc__law_plain.nd) rfl (by first | exact .inl rfl | exact .inr rfl)))) (r_wor1 (r_tc (c_ne (hr.mono (by decide : 1 ≤ 10)).units) (r_gI (T.int 50 rfl) (by rfl)) r_int))) (r_one (r_ret r_bl)) r_nil)
  (r_cons (r_if (r_tc (c_ne (hr.mono (by decide : 1 ≤ 10)).units) (r_callF (x := "grown") B_grown (hr.mono (by decide : 5 ≤ 10)) takes_k (by rfl) (r_acons (r_tup (r_acons r_int (r_acons r_int r_anil))) (r_acons (r_tup (r_acons r_int (r_acons r_int r_anil))) (r_acons r_int r_anil))) (lenA_cons (lenA_cons (lenA_cons lenA_nil)))) (r_tup (r_acons r_int (r_acons r_int r_anil)))) (r_one (r_ret r_bl)) r_nil)
  (r_cons (r_if (r_tc (c_ne (hr.mono (by decide : 1 ≤ 10)).units) (r_callF (x := "plan") B_plan (hr.mono (by decide : 7 ≤ 10)) takes_k (by rfl) (r_acons r_int (r_acons (r_tup (r_acons r_int (r_acons r_int r_anil))) (r_acons r_int r_anil))) (lenA_cons (lenA_cons (lenA_cons lenA_nil)))) (r_tup (r_acons (r_tup (r_acons r_int (r_acons r_int (r_acons r_int (r_acons r_int r_anil))))) (r_acons (r_tup (r_acons r_int (r_acons r_int (r_acons r_int (r_acons r_int r_anil))))) (r_acons (r_tup (r_acons r_int (r_acons r_int (r_acons r_int (r_acons r_int r_anil))))) r_anil))))) (r_one (r_ret r_bl)) r_nil)
  (r_one (r_ret (r_and (r_c (c_eq (hr.mono (by decide : 1 ≤ 10)).units) (r_callF (x := "years_to") B_years_to (hr.mono (by decide : 4 ≤ 10)) takes_k (by rfl) (r_acons r_int (r_acons r_int (r_acons (r_tup (r_acons r_int (r_acons r_int r_anil))) r_anil))) (lenA_cons (lenA_cons (lenA_cons lenA_nil)))) r_int) (r_and (r_isN (r_callF (x := "years_to") B_years_to (hr.mono (by decide : 4 ≤ 10)) takes_k (by rfl) (r_acons r_int (r_acons r_int (r_acons (r_tup (r_acons r_int (r_acons r_int r_anil))) r_anil))) (lenA_cons (lenA_cons (lenA_cons lenA_nil))))) (r_and (r_c (c_eq (hr.mono (by decide : 1 ≤ 10)).units) (r_callF (x := "even_out") B_even_out (hr.mono (by decide : 8 ≤ 10)) takes_k (by rfl) (r_acons (r_cst (r_acons (r_tup (r_acons r_int (r_acons r_int r_anil))) (r_acons (r_tup (r_acons r_int (r_acons r_int r_anil))) r_anil))) r_anil) (lenA_cons lenA_nil)) (r_tup (r_acons r_int (r_acons r_int r_anil)))) (r_and (r_c (c_eq (hr.mono (by decide : 1 ≤ 10)).units) (r_callF (x := "rate_of") B_rate_of (hr.mono (by decide : 7 ≤ 10)) takes_k (by rfl) (r_acons (r_cst (r_acons (r_tup (r_acons r_int (r_acons (r_neg r_int) r_anil))) (r_acons (r_tup (r_acons r_int (r_acons r_int r_anil))) r_anil))) (r_acons r_int r_anil)) (lenA_cons (lenA_cons lenA_nil))) r_int) (r_and1 (r_c (c_eq (hr.mono (by decide : 1 ≤ 10)).units) (r_callF (x := "better") B_better (hr.mono (by decide : 7 ≤ 10)) takes_k (by rfl) (r_acons (r_cst (r_acons (r_tup (r_acons r_int (r_acons r_int r_anil))) r_anil)) (r_acons (r_cst (r_acons (r_tup (r_acons r_int (r_acons r_int r_anil))) r_anil)) (r_acons (r_tup (r_acons r_int (r_acons r_int r_anil))) r_anil))) (lenA_cons (lenA_cons (lenA_cons lenA_nil)))) r_int))))))))))))
theorem ok__law_plain (T : TX w K mg base) : FnB P w K mg base 11 "_law_plain" [] (spOf (GG K) 0 m__law_plain) := by
  obtain ⟨fd, F⟩ := T.def_ 29 (d := dd__law_plain) rfl
  have hb : Binds K fd [] [] := F.bindsN fun _ _ _ _ _ _ us hl => match us, hl with | [], _ => rfl
  obtain ⟨fdT, FT⟩ := T.def_ 20 (d := dd__law_told) rfl
  exact ⟨fd, ok_frame (ok_fn0 (G := GG K) (d := dd__law_plain) d__law_plain F sc__law_plain (fun n A outer s H E hr => der__law_plain T (ok_better T) (ok_check_rate T) (ok_each_year T) (ok_even_out T) (ok_grown T) (ok_plan T) (ok_rate_of T) (ok_worth_now T) (ok_years_to T) FT n A outer s H E hr) mir__law_plain), hb, F.kp, T.glo 29 rfl, fun_lk F⟩
theorem sc_law : FnScope ["script", "dice", "pence", "rate", "years", "k", "one", "other", "first", "second", "paid", "left", "rows", "here", "whole", "row", "year", "interest", "back", "rest", "due", "most", "part", "ready", "goal", "far", "told"] ["script"] (defScope s_law) := ⟨rfl, rfl, rfl, by decide +kernel, rfl, by decide +kernel, by decide +kernel⟩
def d_law (n : Nat) : SS := (sSeq (sFor (wSeq (eCall m__law_rounds (aCons (eVar 0) (aCons (eC (.int 1)) aNil)))) (gN 1) (sSeq (sPar3 2 3 4 (aCons (eOp opAdd (eC (.int 1)) (eCall m__law_roll (aCons (eVar 1) (aCons (eC (.int 900)) aNil)))) (aCons (eCall m__law_ratio (aCons (eCall m__law_roll (aCons (eVar 1) (aCons (eC (.int 12)) aNil))) (aCons (eC (.int 50)) aNil))) (aCons (eCall m__law_roll (aCons (eVar 1) (aCons (eC (.int 9)) aNil))) aNil))))
  (sSeq (sIf (bOr (bB (eOp opNe (eCall m_grown (aCons (eTup (aCons (eVar 2) (aCons (eC (.int 1)) aNil))) (aCons (eVar 3) (aCons (eVar 4) aNil)))) (eCall m__law_grown (aCons (eVar 2) (aCons (eVar 3) (aCons (eVar 4) aNil)))))) (bB (eNotN (eCall m_check_rate (aCons (eVar 3) aNil))))) (sRet (eC (.bl false))) sNil)
  (sSeq (sAsg (eLc (wR1 (aCons (eCall m__law_roll (aCons (eVar 1) (aCons (eC (.int 4)) aNil))) aNil)) (nxG (gN 5)) (nxB bYes) (nxE (eTup (aCons (eCall m__law_roll (aCons (eVar 1) (aCons (eC (.int 6)) aNil))) (aCons (eOp opSub (eCall m__law_roll (aCons (eVar 1) (aCons (eC (.int 400)) aNil))) (eC (.int 200))) aNil)))) [5]) (gN 6))
  (sSeq (sAsg (eLc (wR1 (aCons (eCall m__law_roll (aCons (eVar 1) (aCons (eC (.int 4)) aNil))) aNil)) (nxG (gN 5)) (nxB bYes) (nxE (eTup (aCons (eCall m__law_roll (aCons (eVar 1) (aCons (eC (.int 6)) aNil))) (aCons (eOp opSub (eCall m__law_roll (aCons (eVar 1) (aCons (eC (.int 400)) aNil))) (eC (.int 200))) aNil)))) [5]) (gN 7))
  (sSeq (sPar 8 9 (aCons (eCall m__law_worth (aCons (eVar 6) (aCons (eVar 3) aNil))) (aCons (eCall m__law_worth (aCons (eVar 7) (aCons (eVar 3) aNil))) aNil)))
  (sSeq (sIf (bB (eOp opNe (eCall m_worth_now (aCons (eVar 6) (aCons (eVar 3) aNil))) (eVar 8))) (sRet (eC (.bl false))) sNil)
  (sSeq (sIf (bB (eOp opNe (eCall m_better (aCons (eVar 6) (aCons (eVar 7) (aCons (eVar 3) aNil)))) (eIf (bB (eOp opEq (eVar 8) (eVar 9))) (eC (.int 0)) (eIf (bB (eCall m__law_less (aCons (eVar 9) (aCons (eVar 8) aNil)))) (eC (.int 1)) (eC (.int 2)))))) (sRet (eC (.bl false))) sNil)
  (sSeq (sIf (bB (eOp opGt (eVar 4) (eC (.int 0)))) (sSeq (sPar 10 11 (aCons (eCall m_each_year (aCons (eVar 2) (aCons (eVar 3) (aCons (eVar 4) aNil)))) (aCons (eTup (aCons (eVar 2) (aCons (eC (.int 1)) aNil))) aNil)))
  (sSeq (sFor (wR1 (aCons (eVar 4) aNil)) (gN 5) (sAsg (eCall m__law_minus (aCons (eCall m__law_plus (aCons (eVar 11) (aCons (eCall m__law_times (aCons (eVar 11) (aCons (eVar 3) aNil))) aNil))) (aCons (eVar 10) aNil))) (gN 11)))
  (sSeq (sIf (bB (eOp opNe (eVar 11) (eTup (aCons (eC (.int 0)) (aCons (eC (.int 1)) aNil))))) (sRet (eC (.bl false))) sNil)
  (sSeq (sAsg (eTup (aCons (eCall m_plan (aCons (eVar 2) (aCons (eVar 3) (aCons (eVar 4) aNil)))) (aCons (eVar 2) aNil))) (gT [(gN 12), (gN 13)]))
  (sSeq (sAsg (eCall m__law_near (aCons (eVar 10) aNil)) (gN 14))
  (sSeq (sIf (bOr (bB (eOp opNe (eCall fcLen (aCons (eVar 12) aNil)) (eVar 4))) (bOr (bB (eOp opNe (eCall fcSum (aCons (eLc (wSeq (eVar 12)) (nxG (gN 15)) (nxB bYes) (nxE (eOp opIx (eVar 15) (eC (.int 2)))) [15]) aNil)) (eVar 2))) (bB (eOp opNe (eOp opIx (eOp opIx (eVar 12) (eNeg (eC (.int 1)))) (eC (.int 3))) (eC (.int 0)))))) (sRet (eC (.bl false))) sNil)
  (sFor (wEnum (aCons (eVar 12) aNil)) (gT [(gN 5), (gT [(gN 16), (gN 17), (gN 18), (gN 19)])]) (sSeq (sAsg (eIf (bB (eOp opEq (eVar 5) (eOp opSub (eVar 4) (eC (.int 1))))) (eVar 13) (eCall fcMin (aCons (eVar 13) (aCons (eCall fcMax (aCons (eC (.int 0)) (aCons (eOp opSub (eVar 14) (eCall m__law_near (aCons (eCall m__law_times (aCons (eTup (aCons (eVar 13) (aCons (eC (.int 1)) aNil))) (aCons (eVar 3) aNil))) aNil))) aNil))) aNil)))) (gN 20))
  (sSeq (sIf (bB (eOp opNe (eTup (aCons (eVar 16) (aCons (eVar 17) (aCons (eVar 18) (aCons (eVar 19) aNil))))) (eTup (aCons (eOp opAdd (eVar 5) (eC (.int 1))) (aCons (eCall m__law_near (aCons (eCall m__law_times (aCons (eTup (aCons (eVar 13) (aCons (eC (.int 1)) aNil))) (aCons (eVar 3) aNil))) aNil)) (aCons (eVar 20) (aCons (eOp opSub (eVar 13) (eVar 20)) aNil))))))) (sRet (eC (.bl false))) sNil)
  (sAsg (eVar 19) (gN 13))))))))))) sNil)
  (sSeq (sAsg (eCall m__law_roll (aCons (eVar 1) (aCons (eC (.int 40)) aNil))) (gN 21))
  (sSeq (sAsg (eLc (wR1 (aCons (eOp opAdd (eVar 21) (eC (.int 1))) aNil)) (nxG (gN 22)) (nxB (bB (eOp opLe (eOp opIx (eCall m__law_worth (aCons (eVar 6) (aCons (eTup (aCons (eVar 22) (aCons (eC (.int 1000)) aNil))) aNil))) (eC (.int 0))) (eC (.int 0))))) (nxE (eVar 22)) [22]) (gN 23))
  (sSeq (sIf (bB (eOp opNe (eCall m_rate_of (aCons (eVar 6) (aCons (eVar 21) aNil))) (eIf (bB (eOp opNe (eVar 23) (eCst aNil))) (eOp opIx (eVar 23) (eC (.int 0))) (eC .non)))) (sRet (eC (.bl false))) sNil)
  (sSeq (sPar 24 25 (aCons (eOp opAdd (eVar 2) (eCall m__law_roll (aCons (eVar 1) (aCons (eC (.int 300)) aNil)))) (aCons (eC .non) aNil)))
  (sSeq (sFor (wR1 (aCons (eC (.int 101)) aNil)) (gN 5) (sSeq (sAsg (eIf (bAnd (bB (eIsN (eVar 25))) (bAnd (bB (eOp opLt (eVar 5) (eC (.int 12)))) (bNot (bB (eCall m__law_less (aCons (eCall m__law_grown (aCons (eVar 2) (aCons (eVar 3) (aCons (eVar 5) aNil)))) (aCons (eTup (aCons (eVar 24) (aCons (eC (.int 1)) aNil))) aNil))))))) (eVar 5) (eVar 25)) (gN 25))
  (sIf (bOr (bB (eNotN (eVar 25))) (bB (eOp opGt (eVar 5) (eC (.int 11))))) sBk sNil)))
  (sSeq (sAsg (eCall m_years_to (aCons (eVar 2) (aCons (eVar 24) (aCons (eVar 3) aNil)))) (gN 26))
  (sSeq (sIf (bOr (bAnd (bB (eNotN (eVar 25))) (bB (eOp opNe (eVar 26) (eVar 25)))) (bAnd (bB (eIsN (eVar 25))) (bAnd (bB (eNotN (eVar 26))) (bB (eOp opLt (eVar 26) (eC (.int 12))))))) (sRet (eC (.bl false))) sNil)
  (sSeq (sAsg (eLc (wR1 (aCons (eCall m__law_roll (aCons (eVar 1) (aCons (eC (.int 4)) aNil))) aNil)) (nxG (gN 5)) (nxB bYes) (nxE (eTup (aCons (eCall m__law_roll (aCons (eVar 1) (aCons (eC (.int 9)) aNil))) (aCons (eCall m__law_roll (aCons (eVar 1) (aCons (eC (.int 30)) aNil))) aNil)))) [5]) (gN 12))
  (sSeq (sAsg (eCall fcSum (aCons (eLc (wSeq (eVar 12)) (nxG (gN 15)) (nxB bYes) (nxE (eOp opIx (eVar 15) (eC (.int 1)))) [15]) aNil)) (gN 14))
  (sIf (bB (eOp opNe (eTold (fun i => i == 2) "MoneyError" (eCall m_even_out (aCons (eVar 12) aNil))) (eIf (bB (eOp opGt (eVar 14) (eC (.int 0)))) (eCall m__law_ratio (aCons (eCall fcSum (aCons (eLc (wSeq (eVar 12)) (nxG (gT [(gN 16), (gN 6)])) (nxB bYes) (nxE (eOp opMul (eVar 16) (eVar 6))) [16, 6]) aNil)) (aCons (eVar 14) aNil))) (eC (.str "MoneyError"))))) (sRet (eC (.bl false))) sNil)))))))))))))))))))
  (sRet (fun _ st => m__law_plain [] st)))
def b_law : FC := fun ds st => fnOf (d_law 400) 27 ds st
def m_law : FC := b_law
theorem mir_law : ∀ ds st r st', ds.length = 1 → b_law ds st = some (r, st') → ∃ n, fnOf (d_law n) 27 ds st = some (r, st') := fun ds st r st' _ e => ⟨400, e⟩
theorem der_law (T : TX w K mg base) (B__law_grown : FnB P w K mg base 4 "_law_grown" ["pence", "rate", "years"] (spOf (GG K) 3 m__law_grown)) (B__law_less : FnB P w K mg base 2 "_law_less" ["one", "other"] (spOf (GG K) 2 m__law_less)) (B__law_minus : FnB P w K mg base 4 "_law_minus" ["one", "other"] (spOf (GG K) 2 m__law_minus)) (B__law_near : FnB P w K mg base 2 "_law_near" ["one"] (spOf (GG K) 1 m__law_near)) (B__law_plain : FnB P w K mg base 11 "_law_plain" [] (spOf (GG K) 0 m__law_plain)) (B__law_plus : FnB P w K mg base 3 "_law_plus" ["one", "other"] (spOf (GG K) 2 m__law_plus)) (B__law_ratio : FnB P w K mg base 2 "_law_ratio" ["top", "bottom"] (spOf (GG K) 2 m__law_ratio)) (B__law_roll : FnB P w K mg base 2 "_law_roll" ["dice", "many"] (spOf (GG K) 2 m__law_roll)) (B__law_rounds : FnB P w K mg base 3 "_law_rounds" ["script", "most"] (spOf (GG K) 2 m__law_rounds)) (B__law_times : FnB P w K mg base 3 "_law_times" ["one", "other"] (spOf (GG K) 2 m__law_times)) (B__law_worth : FnB P w K mg base 5 "_law_worth" ["rows", "rate"] (spOf (GG K) 2 m__law_worth)) (B_better : FnB P w K mg base 7 "better" ["one", "other", "rate"] (spOf (GG K) 3 m_better)) (B_check_rate : FnB P w K mg base 3 "check_rate" ["rate"] (spOf (GG K) 1 m_check_rate)) (B_each_year : FnB P w K mg base 6 "each_year" ["pence", "rate", "years"] (spOf (GG K) 3 m_each_year)) (B_even_out : FnB P w K mg base 8 "even_out" ["rows"] (spOf (GG K) 1 m_even_out)) (B_grown : FnB P w K mg base 5 "grown" ["pence", "rate", "years"] (spOf (GG K) 3 m_grown)) (B_plan : FnB P w K mg base 7 "plan" ["pence", "rate", "years"] (spOf (GG K) 3 m_plan)) (B_rate_of : FnB P w K mg base 7 "rate_of" ["rows", "most"] (spOf (GG K) 2 m_rate_of)) (B_worth_now : FnB P w K mg base 6 "worth_now" ["rows", "rate"] (spOf (GG K) 2 m_worth_now)) (B_years_to : FnB P w K mg base 4 "years_to" ["pence", "goal", "rate"] (spOf (GG K) 3 m_years_to)) {fdT : FuncData} (FT : FunD K dd__law_told.name dd__law_told.qual dd__law_told.params dd__law_told.body dd__law_told.scope (dd__law_told.dvs K) (dd__law_told.kws K) (He.fAd K dd__law_told.at_) fdT) (n : Nat) (A : Around) (outer : List Env) (s : Shared) (H : Hp) (E : XK) (hr : Room 11 (A.deeper (envOfC dd_law.qual dd_law.scope s.heap.objs.size (He.fAd K dd_law.at_) (.ref (He.codeOf K dd_law.at_))))) :
    PSs (cxOf (L2.CX P w) P w K mg base ["script", "dice", "pence", "rate", "years", "k", "one", "other", "first", "second", "paid", "left", "rows", "here", "whole", "row", "year", "interest", "back", "rest", "due", "most", "part", "ready", "goal", "far", "told"] dd_law.qual (defScope s_law) (He.fAd K dd_law.at_) (.ref (He.codeOf K dd_law.at_)) A outer s H E) (defBody s_law) (tS (GG K) E (d_law n)) := by
  exact (r_cons (r_for passes_k rfl (w_seq (r_callF (x := "_law_rounds") B__law_rounds (hr.mono (by decide : 3 ≤ 11)) takes_k (by rfl) (r_acons (r_var (pv 0)) (r_acons r_int r_anil)) (lenA_cons (lenA_cons lenA_nil)))) (r_gn (pg_name (i := 1) (by exact sc_law.nd) rfl (by first | exact .inl rfl | exact .inr rfl))) (r_cons (r_par3 rfl (by exact sc_law.nd) rfl rfl rfl (by decide) (by decide) (by decide) rfl rfl rfl (r_acons (r_add rfl r_int (r_callF (x := "_law_roll") B__law_roll (hr.mono (by decide : 2 ≤ 11)) takes_k (by rfl) (r_acons (r_var (pv 1)) (r_acons r_int r_anil)) (lenA_cons (lenA_cons lenA_nil)))) (r_acons (r_callF (x := "_law_ratio") B__law_ratio (hr.mono (by decide : 2 ≤ 11)) takes_k (by rfl) (r_acons (r_callF (x := "_law_roll") B__law_roll (hr.mono (by decide : 2 ≤ 11)) takes_k (by rfl) (r_acons (r_var (pv 1)) (r_acons r_int r_anil)) (lenA_cons (lenA_cons lenA_nil))) (r_acons r_int r_anil)) (lenA_cons (lenA_cons lenA_nil))) (r_acons (r_callF (x := "_law_roll") B__law_roll (hr.mono (by decide : 2 ≤ 11)) takes_k (by rfl) (r_acons (r_var (pv 1)) (r_acons r_int r_anil)) (lenA_cons (lenA_cons lenA_nil))) r_anil))) (by rfl))
  (r_cons (r_if (L2.PW.pt (r_wor (r_tc (c_ne (hr.mono (by decide : 1 ≤ 11)).units) (r_callF (x := "grown") B_grown (hr.mono (by decide : 5 ≤ 11)) takes_k (by rfl) (r_acons (r_tup (r_acons (r_var (pv 2)) (r_acons r_int r_anil))) (r_acons (r_var (pv 3)) (r_acons (r_var (pv 4)) r_anil))) (lenA_cons (lenA_cons (lenA_cons lenA_nil)))) (r_callF (x := "_law_grown") B__law_grown (hr.mono (by decide : 4 ≤ 11)) takes_k (by rfl) (r_acons (r_var (pv 2)) (r_acons (r_var (pv 3)) (r_acons (r_var (pv 4)) r_anil))) (lenA_cons (lenA_cons (lenA_cons lenA_nil))))) (r_wor1 (r_tnotN (r_callF (x := "check_rate") B_check_rate (hr.mono (by decide : 3 ≤ 11)) takes_k (by rfl) (r_acons (r_var (pv 3)) r_anil) (lenA_cons lenA_nil)))))) (r_one (r_ret r_bl)) r_nil)
  (r_cons (r_asg (r_lcF (own := [("k", 5)]) finC_ok rfl (by exact sc_law.nd) (w_r1 (by rfl) (T.free 47 rfl) (r_acons (r_callF (x := "_law_roll") B__law_roll (hr.mono (by decide : 2 ≤ 11)) takes_k (by rfl) (r_acons (r_var (pv 1)) (r_acons r_int r_anil)) (lenA_cons (lenA_cons lenA_nil))) r_anil)) (blkOk_by (N := ["script", "dice", "pence", "rate", "years", "k", "one", "other", "first", "second", "paid", "left", "rows", "here", "whole", "row", "year", "interest", "back", "rest", "due", "most", "part", "ready", "goal", "far", "told"]) (sc := defScope s_law) (own := [("k", 5)]) (by decide +kernel)) (fun _ _ _ _ _ => (r_gn (pg_name (i := 5) (by exact sc_law.nd) rfl (by first | exact .inl rfl | exact .inr rfl)) (fun σ v => wipe_set (by decide)))) (fun _ _ _ _ _ => r_pts0) (fun _ _ _ _ _ => (r_tup (r_acons (r_callF (x := "_law_roll") B__law_roll (hr.mono (by decide : 2 ≤ 11)) takes_en (by rfl) (r_acons (r_var (pv 1)) (r_acons r_int r_anil)) (lenA_cons (lenA_cons lenA_nil))) (r_acons (r_sub (r_callF (x := "_law_roll") B__law_roll (hr.mono (by decide : 2 ≤ 11)) takes_en (by rfl) (r_acons (r_var (pv 1)) (r_acons r_int r_anil)) (lenA_cons (lenA_cons lenA_nil))) r_int) r_anil))))) (r_gn (pg_name (i := 6) (by exact sc_law.nd) rfl (by first | exact .inl rfl | exact .inr rfl))))
  (r_cons (r_setLcF (own := [("k", 5)]) finC_ok (i := 7) rfl (by exact sc_law.nd) rfl rfl (by first | rfl | exact sw_true rfl rfl rfl rfl) (w_r1 (by rfl) (T.free 47 rfl) (r_acons (r_callF (x := "_law_roll") B__law_roll (hr.mono (by decide : 2 ≤ 11)) takes_k (by rfl) (r_acons (r_var (pv 1)) (r_acons r_int r_anil)) (lenA_cons (lenA_cons lenA_nil))) r_anil)) (blkOk_by (N := ["script", "dice", "pence", "rate", "years", "k", "one", "other", "first", "second", "paid", "left", "rows", "here", "whole", "row", "year", "interest", "back", "rest", "due", "most", "part", "ready", "goal", "far", "told"]) (sc := defScope s_law) (own := [("k", 5)]) (by decide +kernel)) (fun _ _ _ _ _ => (r_gn (pg_name (i := 5) (by exact sc_law.nd) rfl (by first | exact .inl rfl | exact .inr rfl)) (fun σ v => wipe_set (by decide)))) (fun _ _ _ _ _ => r_pts0) (fun _ _ _ _ _ => (r_tup (r_acons (r_callF (x := "_law_roll") B__law_roll (hr.mono (by decide : 2 ≤ 11)) takes_en (by rfl) (r_acons (r_var (pv 1)) (r_acons r_int r_anil)) (lenA_cons (lenA_cons lenA_nil))) (r_acons (r_sub (r_callF (x := "_law_roll") B__law_roll (hr.mono (by decide : 2 ≤ 11)) takes_en (by rfl) (r_acons (r_var (pv 1)) (r_acons r_int r_anil)) (lenA_cons (lenA_cons lenA_nil))) r_int) r_anil)))))
  (r_cons (r_par rfl (by exact sc_law.nd) rfl rfl (by decide) rfl rfl (r_acons (r_callF (x := "_law_worth") B__law_worth (hr.mono (by decide : 5 ≤ 11)) takes_k (by rfl) (r_acons (r_var (pv 6)) (r_acons (r_var (pv 3)) r_anil)) (lenA_cons (lenA_cons lenA_nil))) (r_acons (r_callF (x := "_law_worth") B__law_worth (hr.mono (by decide : 5 ≤ 11)) takes_k (by rfl) (r_acons (r_var (pv 7)) (r_acons (r_var (pv 3)) r_anil)) (lenA_cons (lenA_cons lenA_nil))) r_anil)) (by rfl))
  (r_cons (r_if (r_tc (c_ne (hr.mono (by decide : 1 ≤ 11)).units) (r_callF (x := "worth_now") B_worth_now (hr.mono (by decide : 6 ≤ 11)) takes_k (by rfl) (r_acons (r_var (pv 6)) (r_acons (r_var (pv 3)) r_anil)) (lenA_cons (lenA_cons lenA_nil))) (r_var (pv 8))) (r_one (r_ret r_bl)) r_nil)
  (r_cons (r_if (r_tc (c_ne (hr.mono (by decide : 1 ≤ 11)).units) (r_callF (x := "better") B_better (hr.mono (by decide : 7 ≤ 11)) takes_k (by rfl) (r_acons (r_var (pv 6)) (r_acons (r_var (pv 7)) (r_acons (r_var (pv 3)) r_anil))) (lenA_cons (lenA_cons (lenA_cons lenA_nil)))) (r_ifx (r_tc (c_eq (hr.mono (by decide : 1 ≤ 11)).units) (r_var (pv 8)) (r_var (pv 9))) r_int (r_ifx (r_test (r_callF (x := "_law_less") B__law_less (hr.mono (by decide : 2 ≤ 11)) takes_k (by rfl) (r_acons (r_var (pv 9)) (r_acons (r_var (pv 8)) r_anil)) (lenA_cons (lenA_cons lenA_nil)))) r_int r_int))) (r_one (r_ret r_bl)) r_nil)
  (r_cons (r_if (r_tc c_gt (r_var (pv 4)) r_int) (r_cons (r_par rfl (by exact sc_law.nd) rfl rfl (by decide) rfl rfl (r_acons (r_callF (x := "each_year") B_each_year (hr.mono (by decide : 6 ≤ 11)) takes_k (by rfl) (r_acons (r_var (pv 2)) (r_acons (r_var (pv 3)) (r_acons (r_var (pv 4)) r_anil))) (lenA_cons (lenA_cons (lenA_cons lenA_nil)))) (r_acons (r_tup (r_acons (r_var (pv 2)) (r_acons r_int r_anil))) r_anil)) (by rfl))
  (r_cons (r_for passes_k rfl (w_r1 (by rfl) (T.free 47 rfl) (r_acons (r_var (pv 4)) r_anil)) (r_gn (pg_name (i := 5) (by exact sc_law.nd) rfl (by first | exact .inl rfl | exact .inr rfl))) (r_one (r_asg (r_callF (x := "_law_minus") B__law_minus (hr.mono (by decide : 4 ≤ 11)) takes_k (by rfl) (r_acons (r_callF (x := "_law_plus") B__law_plus (hr.mono (by decide : 3 ≤ 11)) takes_k (by rfl) (r_acons (r_var (pv 11)) (r_acons (r_callF (x := "_law_times") B__law_times (hr.mono (by decide : 3 ≤ 11)) takes_k (by rfl) (r_acons (r_var (pv 11)) (r_acons (r_var (pv 3)) r_anil)) (lenA_cons (lenA_cons lenA_nil))) r_anil)) (lenA_cons (lenA_cons lenA_nil))) (r_acons (r_var (pv 10)) r_anil)) (lenA_cons (lenA_cons lenA_nil))) (r_gn (pg_name (i := 11) (by exact sc_law.nd) rfl (by first | exact .inl rfl | exact .inr rfl))))))
  (r_cons (r_if (r_tc (c_ne (hr.mono (by decide : 1 ≤ 11)).units) (r_var (pv 11)) (r_tup (r_acons r_int (r_acons r_int r_anil)))) (r_one (r_ret r_bl)) r_nil)
  (r_cons (r_asg (r_tup (r_acons (r_callF (x := "plan") B_plan (hr.mono (by decide : 7 ≤ 11)) takes_k (by rfl) (r_acons (r_var (pv 2)) (r_acons (r_var (pv 3)) (r_acons (r_var (pv 4)) r_anil))) (lenA_cons (lenA_cons (lenA_cons lenA_nil)))) (r_acons (r_var (pv 2)) r_anil))) (r_gtup rfl (r_gs (r_gn (pg_name (i := 12) (by exact sc_law.nd) rfl (by first | exact .inl rfl | exact .inr rfl))) (r_gs (r_gn (pg_name (i := 13) (by exact sc_law.nd) rfl (by first | exact .inl rfl | exact .inr rfl))) (r_gs0)))))
  (r_cons (r_asg (r_callF (x := "_law_near") B__law_near (hr.mono (by decide : 2 ≤ 11)) takes_k (by rfl) (r_acons (r_var (pv 10)) r_anil) (lenA_cons lenA_nil)) (r_gn (pg_name (i := 14) (by exact sc_law.nd) rfl (by first | exact .inl rfl | exact .inr rfl))))
  (r_cons (r_if (L2.PW.pt (r_wor (r_tc (c_ne (hr.mono (by decide : 1 ≤ 11)).units) (r_callB (c_len) f_len (by rfl) (T.free 44 rfl) (by decide +kernel) (r_acons (r_var (pv 12)) r_anil)) (r_var (pv 4))) (r_wor (r_tc (c_ne (hr.mono (by decide : 1 ≤ 11)).units) (r_callB (cr_sum rfl) f_sum (by rfl) (T.free 48 rfl) (by decide +kernel) (r_acons (r_lcF (own := [("row", 15)]) finC_ok rfl (by exact sc_law.nd) (w_seq (r_var (pv 12))) (blkOk_by (N := ["script", "dice", "pence", "rate", "years", "k", "one", "other", "first", "second", "paid", "left", "rows", "here", "whole", "row", "year", "interest", "back", "rest", "due", "most", "part", "ready", "goal", "far", "told"]) (sc := defScope s_law) (own := [("row", 15)]) (by decide +kernel)) (fun _ _ _ _ _ => (r_gn (pg_name (i := 15) (by exact sc_law.nd) rfl (by first | exact .inl rfl | exact .inr rfl)) (fun σ v => wipe_set (by decide)))) (fun _ _ _ _ _ => r_pts0) (fun _ _ _ _ _ => (r_ix (r_var (pv 15)) r_int))) r_anil)) (r_var (pv 2))) (r_wor1 (r_tc (c_ne (hr.mono (by decide : 1 ≤ 11)).units) (r_ix (r_ix (r_var (pv 12)) (r_neg r_int)) r_int) r_int))))) (r_one (r_ret r_bl)) r_nil)
  (r_one (r_for passes_k rfl (w_enum (by rfl) (T.free 42 rfl) (r_acons (r_var (pv 12)) r_anil)) (r_gtup rfl (r_gs (r_gn (pg_name (i := 5) (by exact sc_law.nd) rfl (by first | exact .inl rfl | exact .inr rfl))) (r_gs (r_gtup rfl (r_gs (r_gn (pg_name (i := 16) (by exact sc_law.nd) rfl (by first | exact .inl rfl | exact .inr rfl))) (r_gs (r_gn (pg_name (i := 17) (by exact sc_law.nd) rfl (by first | exact .inl rfl | exact .inr rfl))) (r_gs (r_gn (pg_name (i := 18) (by exact sc_law.nd) rfl (by first | exact .inl rfl | exact .inr rfl))) (r_gs (r_gn (pg_name (i := 19) (by exact sc_law.nd) rfl (by first | exact .inl rfl | exact .inr rfl))) (r_gs0)))))) (r_gs0)))) (r_cons (r_asg (r_ifx (r_tc (c_eq (hr.mono (by decide : 1 ≤ 11)).units) (r_var (pv 5)) (r_sub (r_var (pv 4)) r_int)) (r_var (pv 13)) (r_callB (call_min2 rfl) f_min (by rfl) (T.free 46 rfl) (by decide +kernel) (r_acons (r_var (pv 13)) (r_acons (r_callB (call_max2 rfl) f_max (by rfl) (T.free 45 rfl) (by decide +kernel) (r_acons r_int (r_acons (r_sub (r_var (pv 14)) (r_callF (x := "_law_near") B__law_near (hr.mono (by decide : 2 ≤ 11)) takes_k (by rfl) (r_acons (r_callF (x := "_law_times") B__law_times (hr.mono (by decide : 3 ≤ 11)) takes_k (by rfl) (r_acons (r_tup (r_acons (r_var (pv 13)) (r_acons r_int r_anil))) (r_acons (r_var (pv 3)) r_anil)) (lenA_cons (lenA_cons lenA_nil))) r_anil) (lenA_cons lenA_nil))) r_anil))) r_anil)))) (r_gn (pg_name (i := 20) (by exact sc_law.nd) rfl (by first | exact .inl rfl | exact .inr rfl))))
  (r_cons (r_if (r_tc (c_ne (hr.mono (by decide : 1 ≤ 11)).units) (r_tup (r_acons (r_var (pv 16)) (r_acons (r_var (pv 17)) (r_acons (r_var (pv 18)) (r_acons (r_var (pv 19)) r_anil))))) (r_tup (r_acons (r_add rfl (r_var (pv 5)) r_int) (r_acons (r_callF (x := "_law_near") B__law_near (hr.mono (by decide : 2 ≤ 11)) takes_k (by rfl) (r_acons (r_callF (x := "_law_times") B__law_times (hr.mono (by decide : 3 ≤ 11)) takes_k (by rfl) (r_acons (r_tup (r_acons (r_var (pv 13)) (r_acons r_int r_anil))) (r_acons (r_var (pv 3)) r_anil)) (lenA_cons (lenA_cons lenA_nil))) r_anil) (lenA_cons lenA_nil)) (r_acons (r_var (pv 20)) (r_acons (r_sub (r_var (pv 13)) (r_var (pv 20))) r_anil)))))) (r_one (r_ret r_bl)) r_nil)
  (r_one (r_asg (r_var (pv 19)) (r_gn (pg_name (i := 13) (by exact sc_law.nd) rfl (by first | exact .inl rfl | exact .inr rfl))))))))))))))) r_nil)
  (r_cons (r_asg (r_callF (x := "_law_roll") B__law_roll (hr.mono (by decide : 2 ≤ 11)) takes_k (by rfl) (r_acons (r_var (pv 1)) (r_acons r_int r_anil)) (lenA_cons (lenA_cons lenA_nil))) (r_gn (pg_name (i := 21) (by exact sc_law.nd) rfl (by first | exact .inl rfl | exact .inr rfl))))
  (r_cons (r_setLcF (own := [("part", 22)]) finC_ok (i := 23) rfl (by exact sc_law.nd) rfl rfl (by first | rfl | exact sw_true rfl rfl rfl rfl) (w_r1 (by rfl) (T.free 47 rfl) (r_acons (r_add rfl (r_var (pv 21)) r_int) r_anil)) (blkOk_by (N := ["script", "dice", "pence", "rate", "years", "k", "one", "other", "first", "second", "paid", "left", "rows", "here", "whole", "row", "year", "interest", "back", "rest", "due", "most", "part", "ready", "goal", "far", "told"]) (sc := defScope s_law) (own := [("part", 22)]) (by decide +kernel)) (fun _ _ _ _ _ => (r_gn (pg_name (i := 22) (by exact sc_law.nd) rfl (by first | exact .inl rfl | exact .inr rfl)) (fun σ v => wipe_set (by decide)))) (fun _ _ _ _ _ => (r_pts1 (r_tc c_le (r_ix (r_callF (x := "_law_worth") B__law_worth (hr.mono (by decide : 5 ≤ 11)) takes_en (by rfl) (r_acons (r_var (pv 6)) (r_acons (r_tup (r_acons (r_var (pv 22)) (r_acons r_int r_anil))) r_anil)) (lenA_cons (lenA_cons lenA_nil))) r_int) r_int))) (fun _ _ _ _ _ => (r_var (pv 22))))
  (r_cons (r_if (r_tc (c_ne (hr.mono (by decide : 1 ≤ 11)).units) (r_callF (x := "rate_of") B_rate_of (hr.mono (by decide : 7 ≤ 11)) takes_k (by rfl) (r_acons (r_var (pv 6)) (r_acons (r_var (pv 21)) r_anil)) (lenA_cons (lenA_cons lenA_nil))) (r_ifx (r_tc (c_ne (hr.mono (by decide : 1 ≤ 11)).units) (r_var (pv 23)) (r_cst r_anil)) (r_ix (r_var (pv 23)) r_int) r_non)) (r_one (r_ret r_bl)) r_nil)
  (r_cons (r_par rfl (by exact sc_law.nd) rfl rfl (by decide) rfl rfl (r_acons (r_add rfl (r_var (pv 2)) (r_callF (x := "_law_roll") B__law_roll (hr.mono (by decide : 2 ≤ 11)) takes_k (by rfl) (r_acons (r_var (pv 1)) (r_acons r_int r_anil)) (lenA_cons (lenA_cons lenA_nil)))) (r_acons r_non r_anil)) (by rfl))
  (r_cons (r_for passes_k rfl (w_r1 (by rfl) (T.free 47 rfl) (r_acons r_int r_anil)) (r_gn (pg_name (i := 5) (by exact sc_law.nd) rfl (by first | exact .inl rfl | exact .inr rfl))) (r_cons (r_asg (r_ifx (L2.PW.pt (r_wand (r_tisN (r_var (pv 25))) (r_wand (r_tc c_lt (r_var (pv 5)) r_int) (r_wand1 (r_tnot (r_test (r_callF (x := "_law_less") B__law_less (hr.mono (by decide : 2 ≤ 11)) takes_k (by rfl) (r_acons (r_callF (x := "_law_grown") B__law_grown (hr.mono (by decide : 4 ≤ 11)) takes_k (by rfl) (r_acons (r_var (pv 2)) (r_acons (r_var (pv 3)) (r_acons (r_var (pv 5)) r_anil))) (lenA_cons (lenA_cons (lenA_cons lenA_nil)))) (r_acons (r_tup (r_acons (r_var (pv 24)) (r_acons r_int r_anil))) r_anil)) (lenA_cons (lenA_cons lenA_nil))))))))) (r_var (pv 5)) (r_var (pv 25))) (r_gn (pg_name (i := 25) (by exact sc_law.nd) rfl (by first | exact .inl rfl | exact .inr rfl))))
  (r_one (r_if (L2.PW.pt (r_wor (r_tnotN (r_var (pv 25))) (r_wor1 (r_tc c_gt (r_var (pv 5)) r_int)))) (r_one r_break) r_nil))))
  (r_cons (r_asg (r_callF (x := "years_to") B_years_to (hr.mono (by decide : 4 ≤ 11)) takes_k (by rfl) (r_acons (r_var (pv 2)) (r_acons (r_var (pv 24)) (r_acons (r_var (pv 3)) r_anil))) (lenA_cons (lenA_cons (lenA_cons lenA_nil)))) (r_gn (pg_name (i := 26) (by exact sc_law.nd) rfl (by first | exact .inl rfl | exact .inr rfl))))
  (r_cons (r_if (L2.PW.pt (r_wor (L2.PW.pt (r_wand (r_tnotN (r_var (pv 25))) (r_wand1 (r_tc (c_ne (hr.mono (by decide : 1 ≤ 11)).units) (r_var (pv 26)) (r_var (pv 25)))))) (r_wor1 (L2.PW.pt (r_wand (r_tisN (r_var (pv 25))) (r_wand (r_tnotN (r_var (pv 26))) (r_wand1 (r_tc c_lt (r_var (pv 26)) r_int)))))))) (r_one (r_ret r_bl)) r_nil)
  (r_cons (r_asg (r_lcF (own := [("k", 5)]) finC_ok rfl (by exact sc_law.nd) (w_r1 (by rfl) (T.free 47 rfl) (r_acons (r_callF (x := "_law_roll") B__law_roll (hr.mono (by decide : 2 ≤ 11)) takes_k (by rfl) (r_acons (r_var (pv 1)) (r_acons r_int r_anil)) (lenA_cons (lenA_cons lenA_nil))) r_anil)) (blkOk_by (N := ["script", "dice", "pence", "rate", "years", "k", "one", "other", "first", "second", "paid", "left", "rows", "here", "whole", "row", "year", "interest", "back", "rest", "due", "most", "part", "ready", "goal", "far", "told"]) (sc := defScope s_law) (own := [("k", 5)]) (by decide +kernel)) (fun _ _ _ _ _ => (r_gn (pg_name (i := 5) (by exact sc_law.nd) rfl (by first | exact .inl rfl | exact .inr rfl)) (fun σ v => wipe_set (by decide)))) (fun _ _ _ _ _ => r_pts0) (fun _ _ _ _ _ => (r_tup (r_acons (r_callF (x := "_law_roll") B__law_roll (hr.mono (by decide : 2 ≤ 11)) takes_en (by rfl) (r_acons (r_var (pv 1)) (r_acons r_int r_anil)) (lenA_cons (lenA_cons lenA_nil))) (r_acons (r_callF (x := "_law_roll") B__law_roll (hr.mono (by decide : 2 ≤ 11)) takes_en (by rfl) (r_acons (r_var (pv 1)) (r_acons r_int r_anil)) (lenA_cons (lenA_cons lenA_nil))) r_anil))))) (r_gn (pg_name (i := 12) (by exact sc_law.nd) rfl (by first | exact .inl rfl | exact .inr rfl))))
  (r_cons (r_asg (r_callB (cr_sum rfl) f_sum (by rfl) (T.free 48 rfl) (by decide +kernel) (r_acons (r_lcF (own := [("row", 15)]) finC_ok rfl (by exact sc_law.nd) (w_seq (r_var (pv 12))) (blkOk_by (N := ["script", "dice", "pence", "rate", "years", "k", "one", "other", "first", "second", "paid", "left", "rows", "here", "whole", "row", "year", "interest", "back", "rest", "due", "most", "part", "ready", "goal", "far", "told"]) (sc := defScope s_law) (own := [("row", 15)]) (by decide +kernel)) (fun _ _ _ _ _ => (r_gn (pg_name (i := 15) (by exact sc_law.nd) rfl (by first | exact .inl rfl | exact .inr rfl)) (fun σ v => wipe_set (by decide)))) (fun _ _ _ _ _ => r_pts0) (fun _ _ _ _ _ => (r_ix (r_var (pv 15)) r_int))) r_anil)) (r_gn (pg_name (i := 14) (by exact sc_law.nd) rfl (by first | exact .inl rfl | exact .inr rfl))))
  (r_one (r_if (r_tc (c_ne (hr.mono (by decide : 1 ≤ 11)).units) (r_told (k := 8) (CS := He.ga K "MoneyError") FT (fun _ _ _ _ _ _ us hl => match us, hl with | [_], _ => rfl) sc__law_told rfl (.inl rfl) rfl (T.glo 37 rfl) (ca_MoneyError T) rfl (T.glo 20 rfl) (T.tabB 2 rfl) rfl (T.lamq 2 rfl).1 (T.lamq 2 rfl).2 (hr.mono (by decide : 10 ≤ 11)) (LamX.lamS_by (sc := defScope s_law) (by decide +kernel)) rfl (fun _ _ _ _ _ => rfl) (fun _ _ _ _ _ _ _ hr2 => (r_callF (x := "even_out") B_even_out (hr2.mono (by decide : 8 ≤ 8)) takes_lam (by rfl) (r_acons (r_var (pv 12)) r_anil) (lenA_cons lenA_nil)))) (r_ifx (r_tc c_gt (r_var (pv 14)) r_int) (r_callF (x := "_law_ratio") B__law_ratio (hr.mono (by decide : 2 ≤ 11)) takes_k (by rfl) (r_acons (r_callB (cr_sum rfl) f_sum (by rfl) (T.free 48 rfl) (by decide +kernel) (r_acons (r_lcF (own := [("year", 16), ("one", 6)]) finC_ok rfl (by exact sc_law.nd) (w_seq (r_var (pv 12))) (blkOk_by (N := ["script", "dice", "pence", "rate", "years", "k", "one", "other", "first", "second", "paid", "left", "rows", "here", "whole", "row", "year", "interest", "back", "rest", "due", "most", "part", "ready", "goal", "far", "told"]) (sc := defScope s_law) (own := [("year", 16), ("one", 6)]) (by decide +kernel)) (fun _ _ _ _ _ => (r_gtup rfl (r_gs (r_gn (pg_name (i := 16) (by exact sc_law.nd) rfl (by first | exact .inl rfl | exact .inr rfl)) (fun σ v => wipe_set (by decide))) (r_gs (r_gn (pg_name (i := 6) (by exact sc_law.nd) rfl (by first | exact .inl rfl | exact .inr rfl)) (fun σ v => wipe_set (by decide))) (r_gs0 (fun _ => rfl)))))) (fun _ _ _ _ _ => r_pts0) (fun _ _ _ _ _ => (r_mul (r_var (pv 16)) (r_var (pv 6))))) r_anil)) (r_acons (r_var (pv 14)) r_anil)) (lenA_cons (lenA_cons lenA_nil))) r_str)) (r_one (r_ret r_bl)) r_nil))))))))))))))))))))
  (r_one (r_ret (r_callF0 B__law_plain (hr.mono (by decide : 11 ≤ 11)) takes_k (by rfl)))))
theorem ok_law (T : TX w K mg base) : FnB P w K mg base 12 "law" ["script"] (spOf (GG K) 1 m_law) := by
  obtain ⟨fd, F⟩ := T.def_ 30 (d := dd_law) rfl
  have hb : Binds K fd ["script"] [] := F.bindsN fun _ _ _ _ _ _ us hl => match us, hl with | [_], _ => rfl
  obtain ⟨fdT, FT⟩ := T.def_ 20 (d := dd__law_told) rfl
  exact ⟨fd, ok_fn0 (G := GG K) (d := dd_law) d_law F sc_law (fun n A outer s H E hr => der_law T (ok__law_grown T) (ok__law_less T) (ok__law_minus T) (ok__law_near T) (ok__law_plain T) (ok__law_plus T) (ok__law_ratio T) (ok__law_roll T) (ok__law_rounds T) (ok__law_times T) (ok__law_worth T) (ok_better T) (ok_check_rate T) (ok_each_year T) (ok_even_out T) (ok_grown T) (ok_plan T) (ok_rate_of T) (ok_worth_now T) (ok_years_to T) FT n A outer s H E hr) mir_law, hb, F.kp, T.glo 30 rfl, fun_lk F⟩
end
end LW
namespace LW
open PySem PySem.Spec PyProof.Rows L2 R
abbrev RR : PySem.W.OpenRow := PySem.W.OpenLaw.row PySem.Challenge.rw_riskstack_k03_money_over_years
abbrev hk : PySem.W.Hook := He.hookX 6 faL fnL [] (tfnL.map (·.1)) (exOf tfnL)
def ob (s : PySem.W.SharedT) : He.AlX := He.obsX 6 faL fnL [] (tfnL.map (·.1)) (exOf tfnL) (HandSHeadRun.getT s)
theorem ob_eq (s : PySem.W.SharedT) : ob s = hk.obs s.abs := He.obsX_eq (HandSHeadRun.getT_eq s)
theorem run (w : World) : HandSHeadRun.RunEq RR (PySem.W.view RR.prog [38]) hk ob 2000 looseL w := by
  intro os
  kernel_rfl
end LW
namespace LW
open PySem L2 R
theorem o_plus : OpF 1 m_plus (· + ·) := opF_plus ratF_A
theorem o_minus : OpF 1 m_minus (· - ·) := opF_minus ratF_A
theorem o_times : OpF 0 m_times (· * ·) := opF_times ratF_A
theorem l_plus : OpF 1 m__law_plus (· + ·) := opF_plus ratF_B
theorem l_times : OpF 0 m__law_times (· * ·) := opF_times ratF_B
theorem l_minus : OpF 1 m__law_minus (· - ·) := opF_minusG l_plus
section
variable {P : Dv → Sto → Prop} {st : Sto} {d e : Dv} {x r : Rat} {a n : Nat}
theorem c_check (hd : RatV n d r) (h0 : 0 ≤ r) (h1 : r ≤ 1) (hn : n ≤ 3000) (h : P .non st) : Go (m_check_rate [d] st) P := by
  obtain ⟨p, rfl, hp, rfl⟩ := hd.ex
  refine go_fr (x := .non) rfl (go_fn0 ?_) rfl h
  show Go (sIf _ _ sNil [some (enP p)] []) _
  refine go_guard1 (go_orF (go_bB ?_))
  repeat (first | with_reducible refine go_op ?_ | with_reducible refine go_call ?_ | with_reducible refine go_cons ?_ | with_reducible refine go_nil ?_ | with_reducible refine go_var (by with_unfolding_all exact rfl) ?_ | with_reducible refine go_c ?_ | with_reducible refine go_int ?_ | with_reducible refine go_add ?_ | with_reducible refine go_sub ?_ | with_reducible refine go_q0 ?_ | with_reducible refine go_q1 ?_ | with_reducible refine go_p0 ?_ | with_reducible refine go_p1 ?_)
  refine go_lt ⟨_, rfl, decide_eq_false fun c => ?_, go_bB ?_⟩
  · have := (valP_neg hp).mp c; grind
  repeat (first | with_reducible refine go_op ?_ | with_reducible refine go_call ?_ | with_reducible refine go_cons ?_ | with_reducible refine go_nil ?_ | with_reducible refine go_var (by with_unfolding_all exact rfl) ?_ | with_reducible refine go_c ?_ | with_reducible refine go_int ?_ | with_reducible refine go_add ?_ | with_reducible refine go_sub ?_ | with_reducible refine go_q0 ?_ | with_reducible refine go_q1 ?_ | with_reducible refine go_p0 ?_ | with_reducible refine go_p1 ?_ | with_reducible refine go_tup2 ?_ | with_reducible refine go_tup3 ?_ | with_reducible refine go_tup4 ?_ | with_reducible refine go_gT4 ?_)
  refine go_less RatV.one hd (by omega) ⟨_, rfl, decide_eq_false fun c => ?_, rfl, rfl⟩
  grind
theorem c_grown (hd : RatV a d x) (he : RatV n e r) (h0 : 0 ≤ r) (h1 : r ≤ 1) (hn : n ≤ 14) (ha : a ≤ 500) {k : Int} (k0 : 0 ≤ k) (k1 : k ≤ 100) (h : P (enQ (x * (1 + r) ^ k.toNat)) st) : Go (m_grown [d, e, .int k] st) P := by
  obtain ⟨p, rfl, hp, rfl⟩ := hd.ex
  obtain ⟨q, rfl, hq, rfl⟩ := he.ex
  refine go_fr rfl (go_fn ?_) rfl h
  show Go (sSeq _ _ [some (enP p), some (enP q), some (.int k)] []) _
  repeat (first | with_reducible refine go_op ?_ | with_reducible refine go_call ?_ | with_reducible refine go_cons ?_ | with_reducible refine go_nil ?_ | with_reducible refine go_var (by with_unfolding_all exact rfl) ?_ | with_reducible refine go_c ?_ | with_reducible refine go_int ?_ | with_reducible refine go_add ?_ | with_reducible refine go_sub ?_ | with_reducible refine go_q0 ?_ | with_reducible refine go_q1 ?_ | with_reducible refine go_p0 ?_ | with_reducible refine go_p1 ?_ | with_reducible refine go_tup2 ?_ | with_reducible refine go_tup3 ?_ | with_reducible refine go_tup4 ?_ | with_reducible refine go_seq ?_ | with_reducible refine go_asg ?_ | with_reducible refine go_gn (Nat.le_of_ble_eq_true (by with_unfolding_all exact rfl)) ?_ | with_reducible refine go_gT2 ?_ | with_reducible refine go_gTP ?_ | with_reducible refine go_gT4 ?_ | with_reducible refine go_neg1 ?_ | with_reducible refine go_ret ?_ | with_reducible refine go_par2 ?_ | with_reducible refine go_par3x ?_ | with_reducible refine go_exp ?_)
  refine c_check he h0 h1 (by omega) ?_
  refine go_guard (go_chK (go_var (by with_unfolding_all exact rfl) ⟨rfl, rfl⟩) k0 k1 ⟨rfl, ?_⟩)
  repeat (first | with_reducible refine go_op ?_ | with_reducible refine go_call ?_ | with_reducible refine go_cons ?_ | with_reducible refine go_nil ?_ | with_reducible refine go_var (by with_unfolding_all exact rfl) ?_ | with_reducible refine go_c ?_ | with_reducible refine go_int ?_ | with_reducible refine go_add ?_ | with_reducible refine go_sub ?_ | with_reducible refine go_q0 ?_ | with_reducible refine go_q1 ?_ | with_reducible refine go_p0 ?_ | with_reducible refine go_p1 ?_ | with_reducible refine go_tup2 ?_ | with_reducible refine go_tup3 ?_ | with_reducible refine go_tup4 ?_ | with_reducible refine go_seq ?_ | with_reducible refine go_asg ?_ | with_reducible refine go_gn (Nat.le_of_ble_eq_true (by with_unfolding_all exact rfl)) ?_ | with_reducible refine go_gT2 ?_ | with_reducible refine go_gTP ?_ | with_reducible refine go_gT4 ?_ | with_reducible refine go_neg1 ?_ | with_reducible refine go_ret ?_ | with_reducible refine go_par2 ?_ | with_reducible refine go_par3x ?_ | with_reducible refine go_exp ?_)
  have b : (1 + n + 1) * k.toNat ≤ 16 * 100 := Nat.mul_le_mul (by omega) (by omega)
  refine o_plus.2 _ _ _ _ _ _ _ _ RatV.one he (by omega) ?_
  repeat (first | with_reducible refine go_op ?_ | with_reducible refine go_call ?_ | with_reducible refine go_cons ?_ | with_reducible refine go_nil ?_ | with_reducible refine go_var (by with_unfolding_all exact rfl) ?_ | with_reducible refine go_c ?_ | with_reducible refine go_int ?_ | with_reducible refine go_add ?_ | with_reducible refine go_sub ?_ | with_reducible refine go_q0 ?_ | with_reducible refine go_q1 ?_ | with_reducible refine go_p0 ?_ | with_reducible refine go_p1 ?_ | with_reducible refine go_tup2 ?_ | with_reducible refine go_tup3 ?_ | with_reducible refine go_tup4 ?_ | with_reducible refine go_seq ?_ | with_reducible refine go_asg ?_ | with_reducible refine go_gn (Nat.le_of_ble_eq_true (by with_unfolding_all exact rfl)) ?_ | with_reducible refine go_gT2 ?_ | with_reducible refine go_gTP ?_ | with_reducible refine go_gT4 ?_ | with_reducible refine go_neg1 ?_ | with_reducible refine go_ret ?_ | with_reducible refine go_par2 ?_ | with_reducible refine go_par3x ?_ | with_reducible refine go_exp ?_)
  refine go_power o_times k0 (by omega) (RatV.q ((SmQ.one (n := 1)).add he.sm)) ((SmQ.one (n := 1)).add he.sm) (by omega) ?_
  repeat (first | with_reducible refine go_op ?_ | with_reducible refine go_call ?_ | with_reducible refine go_cons ?_ | with_reducible refine go_nil ?_ | with_reducible refine go_var (by with_unfolding_all exact rfl) ?_ | with_reducible refine go_c ?_ | with_reducible refine go_int ?_ | with_reducible refine go_add ?_ | with_reducible refine go_sub ?_ | with_reducible refine go_q0 ?_ | with_reducible refine go_q1 ?_ | with_reducible refine go_p0 ?_ | with_reducible refine go_p1 ?_ | with_reducible refine go_tup2 ?_ | with_reducible refine go_tup3 ?_ | with_reducible refine go_tup4 ?_ | with_reducible refine go_seq ?_ | with_reducible refine go_asg ?_ | with_reducible refine go_gn (Nat.le_of_ble_eq_true (by with_unfolding_all exact rfl)) ?_ | with_reducible refine go_gT2 ?_ | with_reducible refine go_gTP ?_ | with_reducible refine go_gT4 ?_ | with_reducible refine go_neg1 ?_ | with_reducible refine go_ret ?_ | with_reducible refine go_par2 ?_ | with_reducible refine go_par3x ?_ | with_reducible refine go_exp ?_)
  refine o_times.2 _ _ _ _ _ _ _ _ hd (RatV.q (((SmQ.one (n := 1)).add he.sm).pow _)) (by omega) ?_
  exact ⟨_, rfl, rfl⟩
theorem grow_step {p : Rat} {i : Nat} : p * (1 + r) ^ i + p * (1 + r) ^ i * r = p * (1 + r) ^ (i + 1) := by
  rw [Rat.pow_succ]; grind
theorem c_lgrown (he : RatV n e r) (hn : n ≤ 14) {p k : Int} (hp : p.natAbs < 2 ^ 20) (k0 : 0 ≤ k) (k1 : k ≤ 100) (h : P (enQ ((p : Rat) * (1 + r) ^ k.toNat)) st) : Go (m__law_grown [.int p, e, .int k] st) P := by
  obtain ⟨q, rfl, hq, rfl⟩ := he.ex
  refine go_fr rfl (go_fn ?_) rfl h
  show Go (sSeq _ _ [some (.int p), some (enP q), some (.int k), none, none] []) _
  repeat (first | with_reducible refine go_op ?_ | with_reducible refine go_call ?_ | with_reducible refine go_cons ?_ | with_reducible refine go_nil ?_ | with_reducible refine go_var (by with_unfolding_all exact rfl) ?_ | with_reducible refine go_c ?_ | with_reducible refine go_int ?_ | with_reducible refine go_add ?_ | with_reducible refine go_sub ?_ | with_reducible refine go_q0 ?_ | with_reducible refine go_q1 ?_ | with_reducible refine go_p0 ?_ | with_reducible refine go_p1 ?_ | with_reducible refine go_tup2 ?_ | with_reducible refine go_tup3 ?_ | with_reducible refine go_tup4 ?_ | with_reducible refine go_seq ?_ | with_reducible refine go_asg ?_ | with_reducible refine go_gn (Nat.le_of_ble_eq_true (by with_unfolding_all exact rfl)) ?_ | with_reducible refine go_gT2 ?_ | with_reducible refine go_gTP ?_ | with_reducible refine go_gT4 ?_ | with_reducible refine go_neg1 ?_ | with_reducible refine go_ret ?_ | with_reducible refine go_par2 ?_ | with_reducible refine go_par3x ?_ | with_reducible refine go_exp ?_)
  refine go_for (go_wR1 ?_)
  repeat (first | with_reducible refine go_op ?_ | with_reducible refine go_call ?_ | with_reducible refine go_cons ?_ | with_reducible refine go_nil ?_ | with_reducible refine go_var (by with_unfolding_all exact rfl) ?_ | with_reducible refine go_c ?_ | with_reducible refine go_int ?_ | with_reducible refine go_add ?_ | with_reducible refine go_sub ?_ | with_reducible refine go_q0 ?_ | with_reducible refine go_q1 ?_ | with_reducible refine go_p0 ?_ | with_reducible refine go_p1 ?_ | with_reducible refine go_tup2 ?_ | with_reducible refine go_tup3 ?_ | with_reducible refine go_tup4 ?_ | with_reducible refine go_seq ?_ | with_reducible refine go_asg ?_ | with_reducible refine go_gn (Nat.le_of_ble_eq_true (by with_unfolding_all exact rfl)) ?_ | with_reducible refine go_gT2 ?_ | with_reducible refine go_gTP ?_ | with_reducible refine go_gT4 ?_ | with_reducible refine go_neg1 ?_ | with_reducible refine go_ret ?_ | with_reducible refine go_par2 ?_ | with_reducible refine go_par3x ?_ | with_reducible refine go_exp ?_)
  refine ⟨k, rfl, by omega, by omega, fun K hK => ⟨_, hK, fun i ls s => ∃ x, ls = [some (.int p), some (enP q), some (.int k), some (enQ ((p : Rat) * (1 + valP q) ^ i)), x], ⟨none, ?_⟩, ?_, ?_⟩⟩
  · rw [Rat.pow_zero, Rat.mul_one]; rfl
  · rintro i ls s hi ⟨x, rfl⟩
    have hi : i < k.toNat := by simpa [rngD_len] using hi
    have b : (1 + n + 1) * i ≤ 16 * 100 := Nat.mul_le_mul (by omega) (by omega)
    have sm : SmQ (20 + ((1 + n + 1) * i + 1)) ((p : Rat) * (1 + valP q) ^ i) := (smQ_int hp).mul (((SmQ.one (n := 1)).add he.sm).pow i)
    repeat (first | with_reducible refine go_op ?_ | with_reducible refine go_call ?_ | with_reducible refine go_cons ?_ | with_reducible refine go_nil ?_ | with_reducible refine go_var (by with_unfolding_all exact rfl) ?_ | with_reducible refine go_c ?_ | with_reducible refine go_int ?_ | with_reducible refine go_add ?_ | with_reducible refine go_sub ?_ | with_reducible refine go_q0 ?_ | with_reducible refine go_q1 ?_ | with_reducible refine go_p0 ?_ | with_reducible refine go_p1 ?_ | with_reducible refine go_tup2 ?_ | with_reducible refine go_tup3 ?_ | with_reducible refine go_tup4 ?_ | with_reducible refine go_seq ?_ | with_reducible refine go_asg ?_ | with_reducible refine go_gn (Nat.le_of_ble_eq_true (by with_unfolding_all exact rfl)) ?_ | with_reducible refine go_gT2 ?_ | with_reducible refine go_gTP ?_ | with_reducible refine go_gT4 ?_ | with_reducible refine go_neg1 ?_ | with_reducible refine go_ret ?_ | with_reducible refine go_par2 ?_ | with_reducible refine go_par3x ?_ | with_reducible refine go_exp ?_)
    refine l_times.2 _ _ _ _ _ _ _ _ (RatV.q sm) he (by omega) ?_
    repeat (first | with_reducible refine go_op ?_ | with_reducible refine go_call ?_ | with_reducible refine go_cons ?_ | with_reducible refine go_nil ?_ | with_reducible refine go_var (by with_unfolding_all exact rfl) ?_ | with_reducible refine go_c ?_ | with_reducible refine go_int ?_ | with_reducible refine go_add ?_ | with_reducible refine go_sub ?_ | with_reducible refine go_q0 ?_ | with_reducible refine go_q1 ?_ | with_reducible refine go_p0 ?_ | with_reducible refine go_p1 ?_ | with_reducible refine go_tup2 ?_ | with_reducible refine go_tup3 ?_ | with_reducible refine go_tup4 ?_ | with_reducible refine go_seq ?_ | with_reducible refine go_asg ?_ | with_reducible refine go_gn (Nat.le_of_ble_eq_true (by with_unfolding_all exact rfl)) ?_ | with_reducible refine go_gT2 ?_ | with_reducible refine go_gTP ?_ | with_reducible refine go_gT4 ?_ | with_reducible refine go_neg1 ?_ | with_reducible refine go_ret ?_ | with_reducible refine go_par2 ?_ | with_reducible refine go_par3x ?_ | with_reducible refine go_exp ?_)
    refine l_plus.2 _ _ _ _ _ _ _ _ (RatV.q sm) (RatV.q (sm.mul he.sm)) (by omega) ?_
    repeat (first | with_reducible refine go_op ?_ | with_reducible refine go_call ?_ | with_reducible refine go_cons ?_ | with_reducible refine go_nil ?_ | with_reducible refine go_var (by with_unfolding_all exact rfl) ?_ | with_reducible refine go_c ?_ | with_reducible refine go_int ?_ | with_reducible refine go_add ?_ | with_reducible refine go_sub ?_ | with_reducible refine go_q0 ?_ | with_reducible refine go_q1 ?_ | with_reducible refine go_p0 ?_ | with_reducible refine go_p1 ?_ | with_reducible refine go_tup2 ?_ | with_reducible refine go_tup3 ?_ | with_reducible refine go_tup4 ?_ | with_reducible refine go_seq ?_ | with_reducible refine go_asg ?_ | with_reducible refine go_gn (Nat.le_of_ble_eq_true (by with_unfolding_all exact rfl)) ?_ | with_reducible refine go_gT2 ?_ | with_reducible refine go_gTP ?_ | with_reducible refine go_gT4 ?_ | with_reducible refine go_neg1 ?_ | with_reducible refine go_ret ?_ | with_reducible refine go_par2 ?_ | with_reducible refine go_par3x ?_ | with_reducible refine go_exp ?_)
    refine ⟨some (.int (0 + (i : Int))), ?_⟩
    show _ = [some (.int p), some (enP q), some (.int k), some (enQ ((p : Rat) * (1 + valP q) ^ (i + 1))), _]
    rw [← grow_step]
    simp [rngD]
  · rintro ls s ⟨x, rfl⟩
    rw [rngD_len]
    repeat (first | with_reducible refine go_op ?_ | with_reducible refine go_call ?_ | with_reducible refine go_cons ?_ | with_reducible refine go_nil ?_ | with_reducible refine go_var (by with_unfolding_all exact rfl) ?_ | with_reducible refine go_c ?_ | with_reducible refine go_int ?_ | with_reducible refine go_add ?_ | with_reducible refine go_sub ?_ | with_reducible refine go_q0 ?_ | with_reducible refine go_q1 ?_ | with_reducible refine go_p0 ?_ | with_reducible refine go_p1 ?_ | with_reducible refine go_tup2 ?_ | with_reducible refine go_tup3 ?_ | with_reducible refine go_tup4 ?_ | with_reducible refine go_seq ?_ | with_reducible refine go_asg ?_ | with_reducible refine go_gn (Nat.le_of_ble_eq_true (by with_unfolding_all exact rfl)) ?_ | with_reducible refine go_gT2 ?_ | with_reducible refine go_gTP ?_ | with_reducible refine go_gT4 ?_ | with_reducible refine go_neg1 ?_ | with_reducible refine go_ret ?_ | with_reducible refine go_par2 ?_ | with_reducible refine go_par3x ?_ | with_reducible refine go_exp ?_)
    exact ⟨_, rfl, rfl⟩
/-! ### worth -/
def wR (r : Rat) (x : Int × Int) : Rat := (x.2 : Rat) / (1 + r) ^ x.1.toNat
def worthR (r : Rat) (rows : List (Int × Int)) : Rat := sumR (rows.map (wR r))
def RowOk (x : Int × Int) : Prop := 0 ≤ x.1 ∧ x.1 ≤ 8 ∧ x.2.natAbs < 2 ^ 20
theorem less_enP {n : Nat} : ∀ l : List (Int × Int), lessLB n (l.map enP) = true
  | [] => rfl
  | x :: l => by rw [List.map_cons, lessLB, less_enP l]; rfl
theorem one_ne (h0 : 0 ≤ r) (k : Nat) : (1 + r) ^ k ≠ 0 := by
  have : (0 : Rat) < (1 + r) ^ k := Rat.pow_pos (by grind)
  grind
theorem wR_sm (hr : SmQ n r) (hn : n ≤ 14) (h0 : 0 ≤ r) {x : Int × Int} (hx : RowOk x) : SmQ 160 (wR r x) := by
  have b : (1 + n + 1) * x.1.toNat ≤ 16 * 8 := Nat.mul_le_mul (by omega) (by have := hx.1; have := hx.2.1; omega)
  exact ((smQ_int hx.2.2).div (((SmQ.one (n := 1)).add hr).pow x.1.toNat) (one_ne h0 _)).mono (by omega)
theorem worth_sm (hr : SmQ n r) (hn : n ≤ 14) (h0 : 0 ≤ r) {rows : List (Int × Int)} (hx : ∀ x ∈ rows, RowOk x) (hl : rows.length ≤ 10) : SmQ 1700 (worthR r rows) := by
  have h := sumR_sm (l := rows.map (wR r)) (n := 160) (by
    intro y hy
    obtain ⟨x, h1, rfl⟩ := List.mem_map.mp hy
    exact wR_sm hr hn h0 (hx x h1))
  rw [List.length_map] at h
  exact h.mono (by omega)
theorem worth_step {rows : List (Int × Int)} {i : Nat} (h : i < rows.length) : worthR r (rows.take (i + 1)) = worthR r (rows.take i) + wR r rows[i] := by
  unfold worthR
  rw [List.take_add_one, List.getElem?_eq_getElem h, List.map_append, sumR_append]
  congr 1
  show sumR [wR r rows[i]] = _
  rw [sumR_cons, sumR_nil]; grind
theorem c_worth (he : RatV n e r) (h0 : 0 ≤ r) (h1 : r ≤ 1) (hn : n ≤ 14) {rows : List (Int × Int)} (hx : ∀ x ∈ rows, RowOk x) (hl : rows.length ≤ 10) (h : P (enQ (worthR r rows)) st) : Go (m_worth_now [.cst (rows.map enP), e] st) P := by
  obtain ⟨q, rfl, hq, rfl⟩ := he.ex
  refine go_fr (show lessLB 0 [_, _] = true by simp [lessLB, lessB, less_enP]; rfl) (go_fn ?_) rfl h
  show Go (sSeq _ _ [some (.cst (rows.map enP)), some (enP q), none, none, none] []) _
  repeat (first | with_reducible refine go_op ?_ | with_reducible refine go_call ?_ | with_reducible refine go_cons ?_ | with_reducible refine go_nil ?_ | with_reducible refine go_var (by with_unfolding_all exact rfl) ?_ | with_reducible refine go_c ?_ | with_reducible refine go_int ?_ | with_reducible refine go_add ?_ | with_reducible refine go_sub ?_ | with_reducible refine go_q0 ?_ | with_reducible refine go_q1 ?_ | with_reducible refine go_p0 ?_ | with_reducible refine go_p1 ?_ | with_reducible refine go_tup2 ?_ | with_reducible refine go_tup3 ?_ | with_reducible refine go_tup4 ?_ | with_reducible refine go_seq ?_ | with_reducible refine go_asg ?_ | with_reducible refine go_gn (Nat.le_of_ble_eq_true (by with_unfolding_all exact rfl)) ?_ | with_reducible refine go_gT2 ?_ | with_reducible refine go_gTP ?_ | with_reducible refine go_gT4 ?_ | with_reducible refine go_neg1 ?_ | with_reducible refine go_ret ?_ | with_reducible refine go_par2 ?_ | with_reducible refine go_par3x ?_ | with_reducible refine go_exp ?_)
  refine go_for (go_wSeqC ?_)
  repeat (first | with_reducible refine go_op ?_ | with_reducible refine go_call ?_ | with_reducible refine go_cons ?_ | with_reducible refine go_nil ?_ | with_reducible refine go_var (by with_unfolding_all exact rfl) ?_ | with_reducible refine go_c ?_ | with_reducible refine go_int ?_ | with_reducible refine go_add ?_ | with_reducible refine go_sub ?_ | with_reducible refine go_q0 ?_ | with_reducible refine go_q1 ?_ | with_reducible refine go_p0 ?_ | with_reducible refine go_p1 ?_ | with_reducible refine go_tup2 ?_ | with_reducible refine go_tup3 ?_ | with_reducible refine go_tup4 ?_ | with_reducible refine go_seq ?_ | with_reducible refine go_asg ?_ | with_reducible refine go_gn (Nat.le_of_ble_eq_true (by with_unfolding_all exact rfl)) ?_ | with_reducible refine go_gT2 ?_ | with_reducible refine go_gTP ?_ | with_reducible refine go_gT4 ?_ | with_reducible refine go_neg1 ?_ | with_reducible refine go_ret ?_ | with_reducible refine go_par2 ?_ | with_reducible refine go_par3x ?_ | with_reducible refine go_exp ?_)
  refine ⟨_, rfl, fun K hK => ⟨_, hK, fun i ls s => ∃ w x y, w = worthR (valP q) (rows.take i) ∧ ls = [some (.cst (rows.map enP)), some (enP q), some (enQ w), x, y], ⟨0, none, none, rfl, rfl⟩, ?_, ?_⟩⟩
  · rintro i ls s hi ⟨w, x, y, hw, rfl⟩
    have hi : i < rows.length := by simpa using hi
    rw [List.getElem_map]
    have rk := hx _ (List.getElem_mem hi)
    have ws := worth_sm he.sm hn h0 (rows := rows.take i) (fun x h => hx x (List.mem_of_mem_take h)) (by rw [List.length_take]; omega)
    have w1 := worth_step (r := valP q) hi
    rw [← hw] at w1 ws
    clear hw
    generalize rows[i] = xi at *
    repeat (first | with_reducible refine go_op ?_ | with_reducible refine go_call ?_ | with_reducible refine go_cons ?_ | with_reducible refine go_nil ?_ | with_reducible refine go_var (by with_unfolding_all exact rfl) ?_ | with_reducible refine go_c ?_ | with_reducible refine go_int ?_ | with_reducible refine go_add ?_ | with_reducible refine go_sub ?_ | with_reducible refine go_q0 ?_ | with_reducible refine go_q1 ?_ | with_reducible refine go_p0 ?_ | with_reducible refine go_p1 ?_ | with_reducible refine go_tup2 ?_ | with_reducible refine go_tup3 ?_ | with_reducible refine go_tup4 ?_ | with_reducible refine go_seq ?_ | with_reducible refine go_asg ?_ | with_reducible refine go_gn (Nat.le_of_ble_eq_true (by with_unfolding_all exact rfl)) ?_ | with_reducible refine go_gT2 ?_ | with_reducible refine go_gTP ?_ | with_reducible refine go_gT4 ?_ | with_reducible refine go_neg1 ?_ | with_reducible refine go_ret ?_ | with_reducible refine go_par2 ?_ | with_reducible refine go_par3x ?_ | with_reducible refine go_exp ?_)
    refine c_grown RatV.one he h0 h1 hn (by omega) rk.1 (by have := rk.2.1; omega) ?_
    repeat (first | with_reducible refine go_op ?_ | with_reducible refine go_call ?_ | with_reducible refine go_cons ?_ | with_reducible refine go_nil ?_ | with_reducible refine go_var (by with_unfolding_all exact rfl) ?_ | with_reducible refine go_c ?_ | with_reducible refine go_int ?_ | with_reducible refine go_add ?_ | with_reducible refine go_sub ?_ | with_reducible refine go_q0 ?_ | with_reducible refine go_q1 ?_ | with_reducible refine go_p0 ?_ | with_reducible refine go_p1 ?_ | with_reducible refine go_tup2 ?_ | with_reducible refine go_tup3 ?_ | with_reducible refine go_tup4 ?_ | with_reducible refine go_seq ?_ | with_reducible refine go_asg ?_ | with_reducible refine go_gn (Nat.le_of_ble_eq_true (by with_unfolding_all exact rfl)) ?_ | with_reducible refine go_gT2 ?_ | with_reducible refine go_gTP ?_ | with_reducible refine go_gT4 ?_ | with_reducible refine go_neg1 ?_ | with_reducible refine go_ret ?_ | with_reducible refine go_par2 ?_ | with_reducible refine go_par3x ?_ | with_reducible refine go_exp ?_)
    have b : (1 + n + 1) * xi.1.toNat ≤ 16 * 8 := Nat.mul_le_mul (by omega) (by have := rk.1; have := rk.2.1; omega)
    have gs : SmQ (1 + ((1 + n + 1) * xi.1.toNat + 1)) (1 * (1 + valP q) ^ xi.1.toNat) := (SmQ.one (n := 1)).mul (((SmQ.one (n := 1)).add he.sm).pow _)
    refine go_over ratF_A (RatV.i rk.2.2) (RatV.q gs) (by rw [Rat.one_mul]; exact one_ne h0 _) (by omega) ?_
    repeat (first | with_reducible refine go_op ?_ | with_reducible refine go_call ?_ | with_reducible refine go_cons ?_ | with_reducible refine go_nil ?_ | with_reducible refine go_var (by with_unfolding_all exact rfl) ?_ | with_reducible refine go_c ?_ | with_reducible refine go_int ?_ | with_reducible refine go_add ?_ | with_reducible refine go_sub ?_ | with_reducible refine go_q0 ?_ | with_reducible refine go_q1 ?_ | with_reducible refine go_p0 ?_ | with_reducible refine go_p1 ?_ | with_reducible refine go_tup2 ?_ | with_reducible refine go_tup3 ?_ | with_reducible refine go_tup4 ?_ | with_reducible refine go_seq ?_ | with_reducible refine go_asg ?_ | with_reducible refine go_gn (Nat.le_of_ble_eq_true (by with_unfolding_all exact rfl)) ?_ | with_reducible refine go_gT2 ?_ | with_reducible refine go_gTP ?_ | with_reducible refine go_gT4 ?_ | with_reducible refine go_neg1 ?_ | with_reducible refine go_ret ?_ | with_reducible refine go_par2 ?_ | with_reducible refine go_par3x ?_ | with_reducible refine go_exp ?_)
    rw [Rat.one_mul]
    refine o_plus.2 _ _ _ _ _ _ _ _ (RatV.q ws) (RatV.q (wR_sm he.sm hn h0 rk)) (by omega) ?_
    repeat (first | with_reducible refine go_op ?_ | with_reducible refine go_call ?_ | with_reducible refine go_cons ?_ | with_reducible refine go_nil ?_ | with_reducible refine go_var (by with_unfolding_all exact rfl) ?_ | with_reducible refine go_c ?_ | with_reducible refine go_int ?_ | with_reducible refine go_add ?_ | with_reducible refine go_sub ?_ | with_reducible refine go_q0 ?_ | with_reducible refine go_q1 ?_ | with_reducible refine go_p0 ?_ | with_reducible refine go_p1 ?_ | with_reducible refine go_tup2 ?_ | with_reducible refine go_tup3 ?_ | with_reducible refine go_tup4 ?_ | with_reducible refine go_seq ?_ | with_reducible refine go_asg ?_ | with_reducible refine go_gn (Nat.le_of_ble_eq_true (by with_unfolding_all exact rfl)) ?_ | with_reducible refine go_gT2 ?_ | with_reducible refine go_gTP ?_ | with_reducible refine go_gT4 ?_ | with_reducible refine go_neg1 ?_ | with_reducible refine go_ret ?_ | with_reducible refine go_par2 ?_ | with_reducible refine go_par3x ?_ | with_reducible refine go_exp ?_)
    exact ⟨_, _, _, w1.symm, rfl⟩
  · rintro ls s ⟨w, x, y, hw, rfl⟩
    rw [List.length_map, List.take_length] at hw
    subst hw
    repeat (first | with_reducible refine go_op ?_ | with_reducible refine go_call ?_ | with_reducible refine go_cons ?_ | with_reducible refine go_nil ?_ | with_reducible refine go_var (by with_unfolding_all exact rfl) ?_ | with_reducible refine go_c ?_ | with_reducible refine go_int ?_ | with_reducible refine go_add ?_ | with_reducible refine go_sub ?_ | with_reducible refine go_q0 ?_ | with_reducible refine go_q1 ?_ | with_reducible refine go_p0 ?_ | with_reducible refine go_p1 ?_ | with_reducible refine go_tup2 ?_ | with_reducible refine go_tup3 ?_ | with_reducible refine go_tup4 ?_ | with_reducible refine go_seq ?_ | with_reducible refine go_asg ?_ | with_reducible refine go_gn (Nat.le_of_ble_eq_true (by with_unfolding_all exact rfl)) ?_ | with_reducible refine go_gT2 ?_ | with_reducible refine go_gTP ?_ | with_reducible refine go_gT4 ?_ | with_reducible refine go_neg1 ?_ | with_reducible refine go_ret ?_ | with_reducible refine go_par2 ?_ | with_reducible refine go_par3x ?_ | with_reducible refine go_exp ?_)
    exact ⟨_, rfl, rfl⟩
theorem div_q {i : Int} (h : r ≠ 0) : ((i * (r.den : Int) : Int) : Rat) / (r.num : Rat) = i / r := by
  have h1 : (r.num : Rat) / ((r.den : Int) : Rat) = r := valP_q
  have h2 : ((r.den : Int) : Rat) ≠ 0 := cast_ne (by have := r.den_pos; omega)
  have h3 : (r.num : Rat) ≠ 0 := cast_ne (by simpa using h)
  rw [Rat.intCast_mul]
  generalize (r.num : Rat) = u at *
  generalize ((r.den : Int) : Rat) = v at *
  subst h1
  grind
theorem c_lworth (he : RatV n e r) (h0 : 0 ≤ r) (hn : n ≤ 14) {rows : List (Int × Int)} (hx : ∀ x ∈ rows, RowOk x) (hl : rows.length ≤ 10) (h : P (enQ (worthR r rows)) st) : Go (m__law_worth [.cst (rows.map enP), e] st) P := by
  obtain ⟨q, rfl, hq, rfl⟩ := he.ex
  refine go_fr (show lessLB 0 [_, _] = true by simp [lessLB, lessB, less_enP]; rfl) (go_fn ?_) rfl h
  show Go (sSeq _ _ [some (.cst (rows.map enP)), some (enP q), none, none, none, none] []) _
  repeat (first | with_reducible refine go_op ?_ | with_reducible refine go_call ?_ | with_reducible refine go_cons ?_ | with_reducible refine go_nil ?_ | with_reducible refine go_var (by with_unfolding_all exact rfl) ?_ | with_reducible refine go_c ?_ | with_reducible refine go_int ?_ | with_reducible refine go_add ?_ | with_reducible refine go_sub ?_ | with_reducible refine go_q0 ?_ | with_reducible refine go_q1 ?_ | with_reducible refine go_p0 ?_ | with_reducible refine go_p1 ?_ | with_reducible refine go_tup2 ?_ | with_reducible refine go_tup3 ?_ | with_reducible refine go_tup4 ?_ | with_reducible refine go_seq ?_ | with_reducible refine go_asg ?_ | with_reducible refine go_gn (Nat.le_of_ble_eq_true (by with_unfolding_all exact rfl)) ?_ | with_reducible refine go_gT2 ?_ | with_reducible refine go_gTP ?_ | with_reducible refine go_gT4 ?_ | with_reducible refine go_neg1 ?_ | with_reducible refine go_ret ?_ | with_reducible refine go_par2 ?_ | with_reducible refine go_par3x ?_ | with_reducible refine go_exp ?_)
  refine go_for (go_wSeqC ?_)
  repeat (first | with_reducible refine go_op ?_ | with_reducible refine go_call ?_ | with_reducible refine go_cons ?_ | with_reducible refine go_nil ?_ | with_reducible refine go_var (by with_unfolding_all exact rfl) ?_ | with_reducible refine go_c ?_ | with_reducible refine go_int ?_ | with_reducible refine go_add ?_ | with_reducible refine go_sub ?_ | with_reducible refine go_q0 ?_ | with_reducible refine go_q1 ?_ | with_reducible refine go_p0 ?_ | with_reducible refine go_p1 ?_ | with_reducible refine go_tup2 ?_ | with_reducible refine go_tup3 ?_ | with_reducible refine go_tup4 ?_ | with_reducible refine go_seq ?_ | with_reducible refine go_asg ?_ | with_reducible refine go_gn (Nat.le_of_ble_eq_true (by with_unfolding_all exact rfl)) ?_ | with_reducible refine go_gT2 ?_ | with_reducible refine go_gTP ?_ | with_reducible refine go_gT4 ?_ | with_reducible refine go_neg1 ?_ | with_reducible refine go_ret ?_ | with_reducible refine go_par2 ?_ | with_reducible refine go_par3x ?_ | with_reducible refine go_exp ?_)
  refine ⟨_, rfl, fun K hK => ⟨_, hK, fun i ls s => ∃ w x y z, w = worthR (valP q) (rows.take i) ∧ ls = [some (.cst (rows.map enP)), some (enP q), some (enQ w), x, y, z], ⟨0, none, none, none, rfl, rfl⟩, ?_, ?_⟩⟩
  · rintro i ls s hi ⟨w, x, y, z, hw, rfl⟩
    have hi : i < rows.length := by simpa using hi
    rw [List.getElem_map]
    have rk := hx _ (List.getElem_mem hi)
    have ws := worth_sm he.sm hn h0 (rows := rows.take i) (fun x h => hx x (List.mem_of_mem_take h)) (by rw [List.length_take]; omega)
    have w1 := worth_step (r := valP q) hi
    rw [← hw] at w1 ws
    clear hw
    generalize rows[i] = xi at *
    repeat (first | with_reducible refine go_op ?_ | with_reducible refine go_call ?_ | with_reducible refine go_cons ?_ | with_reducible refine go_nil ?_ | with_reducible refine go_var (by with_unfolding_all exact rfl) ?_ | with_reducible refine go_c ?_ | with_reducible refine go_int ?_ | with_reducible refine go_add ?_ | with_reducible refine go_sub ?_ | with_reducible refine go_q0 ?_ | with_reducible refine go_q1 ?_ | with_reducible refine go_p0 ?_ | with_reducible refine go_p1 ?_ | with_reducible refine go_tup2 ?_ | with_reducible refine go_tup3 ?_ | with_reducible refine go_tup4 ?_ | with_reducible refine go_seq ?_ | with_reducible refine go_asg ?_ | with_reducible refine go_gn (Nat.le_of_ble_eq_true (by with_unfolding_all exact rfl)) ?_ | with_reducible refine go_gT2 ?_ | with_reducible refine go_gTP ?_ | with_reducible refine go_gT4 ?_ | with_reducible refine go_neg1 ?_ | with_reducible refine go_ret ?_ | with_reducible refine go_par2 ?_ | with_reducible refine go_par3x ?_ | with_reducible refine go_exp ?_)
    refine c_lgrown he hn (by decide) rk.1 (by have := rk.2.1; omega) ?_
    have b : (1 + n + 1) * xi.1.toNat ≤ 16 * 8 := Nat.mul_le_mul (by omega) (by have := rk.1; have := rk.2.1; omega)
    have gs : SmQ (1 + ((1 + n + 1) * xi.1.toNat + 1)) (((1 : Int) : Rat) * (1 + valP q) ^ xi.1.toNat) := (SmQ.one (n := 1)).mul (((SmQ.one (n := 1)).add he.sm).pow _)
    have gn : ((1 : Int) : Rat) * (1 + valP q) ^ xi.1.toNat ≠ 0 := by rw [Rat.intCast_one, Rat.one_mul]; exact one_ne h0 _
    have gw : wR (valP q) xi = (xi.2 : Rat) / (((1 : Int) : Rat) * (1 + valP q) ^ xi.1.toNat) := by rw [Rat.intCast_one, Rat.one_mul]; rfl
    have wsm := wR_sm he.sm hn h0 rk
    rw [gw] at wsm w1
    generalize ((1 : Int) : Rat) * (1 + valP q) ^ xi.1.toNat = g at *
    repeat (first | with_reducible refine go_op ?_ | with_reducible refine go_call ?_ | with_reducible refine go_cons ?_ | with_reducible refine go_nil ?_ | with_reducible refine go_var (by with_unfolding_all exact rfl) ?_ | with_reducible refine go_c ?_ | with_reducible refine go_int ?_ | with_reducible refine go_add ?_ | with_reducible refine go_sub ?_ | with_reducible refine go_q0 ?_ | with_reducible refine go_q1 ?_ | with_reducible refine go_p0 ?_ | with_reducible refine go_p1 ?_ | with_reducible refine go_tup2 ?_ | with_reducible refine go_tup3 ?_ | with_reducible refine go_tup4 ?_ | with_reducible refine go_seq ?_ | with_reducible refine go_asg ?_ | with_reducible refine go_gn (Nat.le_of_ble_eq_true (by with_unfolding_all exact rfl)) ?_ | with_reducible refine go_gT2 ?_ | with_reducible refine go_gTP ?_ | with_reducible refine go_gT4 ?_ | with_reducible refine go_neg1 ?_ | with_reducible refine go_ret ?_ | with_reducible refine go_par2 ?_ | with_reducible refine go_par3x ?_ | with_reducible refine go_exp ?_)
    have gd : ((g.den : Nat) : Int).natAbs < 2 ^ (1 + ((1 + n + 1) * xi.1.toNat + 1)) := by simpa using gs.2
    refine go_mul (mulx_w 20 _ rk.2.2 gd (by omega)) ?_
    repeat (first | with_reducible refine go_op ?_ | with_reducible refine go_call ?_ | with_reducible refine go_cons ?_ | with_reducible refine go_nil ?_ | with_reducible refine go_var (by with_unfolding_all exact rfl) ?_ | with_reducible refine go_c ?_ | with_reducible refine go_int ?_ | with_reducible refine go_add ?_ | with_reducible refine go_sub ?_ | with_reducible refine go_q0 ?_ | with_reducible refine go_q1 ?_ | with_reducible refine go_p0 ?_ | with_reducible refine go_p1 ?_ | with_reducible refine go_tup2 ?_ | with_reducible refine go_tup3 ?_ | with_reducible refine go_tup4 ?_ | with_reducible refine go_seq ?_ | with_reducible refine go_asg ?_ | with_reducible refine go_gn (Nat.le_of_ble_eq_true (by with_unfolding_all exact rfl)) ?_ | with_reducible refine go_gT2 ?_ | with_reducible refine go_gTP ?_ | with_reducible refine go_gT4 ?_ | with_reducible refine go_neg1 ?_ | with_reducible refine go_ret ?_ | with_reducible refine go_par2 ?_ | with_reducible refine go_par3x ?_ | with_reducible refine go_exp ?_)
    refine go_rat ratF_B (20 + (1 + ((1 + n + 1) * xi.1.toNat + 1))) (mul_bits rk.2.2 gd) (Nat.lt_of_lt_of_le gs.1 (pow_le2 (by omega))) (by simpa using gn) (by omega) ?_
    rw [div_q gn]
    repeat (first | with_reducible refine go_op ?_ | with_reducible refine go_call ?_ | with_reducible refine go_cons ?_ | with_reducible refine go_nil ?_ | with_reducible refine go_var (by with_unfolding_all exact rfl) ?_ | with_reducible refine go_c ?_ | with_reducible refine go_int ?_ | with_reducible refine go_add ?_ | with_reducible refine go_sub ?_ | with_reducible refine go_q0 ?_ | with_reducible refine go_q1 ?_ | with_reducible refine go_p0 ?_ | with_reducible refine go_p1 ?_ | with_reducible refine go_tup2 ?_ | with_reducible refine go_tup3 ?_ | with_reducible refine go_tup4 ?_ | with_reducible refine go_seq ?_ | with_reducible refine go_asg ?_ | with_reducible refine go_gn (Nat.le_of_ble_eq_true (by with_unfolding_all exact rfl)) ?_ | with_reducible refine go_gT2 ?_ | with_reducible refine go_gTP ?_ | with_reducible refine go_gT4 ?_ | with_reducible refine go_neg1 ?_ | with_reducible refine go_ret ?_ | with_reducible refine go_par2 ?_ | with_reducible refine go_par3x ?_ | with_reducible refine go_exp ?_)
    refine l_plus.2 _ _ _ _ _ _ _ _ (RatV.q ws) (RatV.q wsm) (by omega) ?_
    repeat (first | with_reducible refine go_op ?_ | with_reducible refine go_call ?_ | with_reducible refine go_cons ?_ | with_reducible refine go_nil ?_ | with_reducible refine go_var (by with_unfolding_all exact rfl) ?_ | with_reducible refine go_c ?_ | with_reducible refine go_int ?_ | with_reducible refine go_add ?_ | with_reducible refine go_sub ?_ | with_reducible refine go_q0 ?_ | with_reducible refine go_q1 ?_ | with_reducible refine go_p0 ?_ | with_reducible refine go_p1 ?_ | with_reducible refine go_tup2 ?_ | with_reducible refine go_tup3 ?_ | with_reducible refine go_tup4 ?_ | with_reducible refine go_seq ?_ | with_reducible refine go_asg ?_ | with_reducible refine go_gn (Nat.le_of_ble_eq_true (by with_unfolding_all exact rfl)) ?_ | with_reducible refine go_gT2 ?_ | with_reducible refine go_gTP ?_ | with_reducible refine go_gT4 ?_ | with_reducible refine go_neg1 ?_ | with_reducible refine go_ret ?_ | with_reducible refine go_par2 ?_ | with_reducible refine go_par3x ?_ | with_reducible refine go_exp ?_)
    exact ⟨_, _, _, _, w1.symm, rfl⟩
  · rintro ls s ⟨w, x, y, z, hw, rfl⟩
    rw [List.length_map, List.take_length] at hw
    subst hw
    repeat (first | with_reducible refine go_op ?_ | with_reducible refine go_call ?_ | with_reducible refine go_cons ?_ | with_reducible refine go_nil ?_ | with_reducible refine go_var (by with_unfolding_all exact rfl) ?_ | with_reducible refine go_c ?_ | with_reducible refine go_int ?_ | with_reducible refine go_add ?_ | with_reducible refine go_sub ?_ | with_reducible refine go_q0 ?_ | with_reducible refine go_q1 ?_ | with_reducible refine go_p0 ?_ | with_reducible refine go_p1 ?_ | with_reducible refine go_tup2 ?_ | with_reducible refine go_tup3 ?_ | with_reducible refine go_tup4 ?_ | with_reducible refine go_seq ?_ | with_reducible refine go_asg ?_ | with_reducible refine go_gn (Nat.le_of_ble_eq_true (by with_unfolding_all exact rfl)) ?_ | with_reducible refine go_gT2 ?_ | with_reducible refine go_gTP ?_ | with_reducible refine go_gT4 ?_ | with_reducible refine go_neg1 ?_ | with_reducible refine go_ret ?_ | with_reducible refine go_par2 ?_ | with_reducible refine go_par3x ?_ | with_reducible refine go_exp ?_)
    exact ⟨_, rfl, rfl⟩

/-! ### what is paid each year -/
def payR (p : Int) (r : Rat) (k : Int) : Rat := if r = 0 then (p : Rat) / (k : Rat) else (p : Rat) * r * (1 + r) ^ k.toNat / ((1 + r) ^ k.toNat - 1)
theorem one_lt (h0 : 0 < r) : ∀ k : Nat, 1 < (1 + r) ^ (k + 1)
  | 0 => by rw [Nat.zero_add, Rat.pow_succ, Rat.pow_zero]; grind
  | k + 1 => by
    have := one_lt h0 k
    rw [Rat.pow_succ]
    generalize (1 + r) ^ (k + 1) = g at *
    have h2 : 0 < g * r := Rat.mul_pos (by grind) h0
    grind
theorem den_ne (h0 : 0 ≤ r) (hr : r ≠ 0) {k : Int} (hk : 1 ≤ k) : (1 + r) ^ k.toNat - 1 ≠ 0 := by
  obtain ⟨j, hj⟩ : ∃ j, k.toNat = j + 1 := ⟨k.toNat - 1, by omega⟩
  rw [hj]
  have := one_lt (r := r) (by grind) j
  grind
theorem pay_sm (hr : SmQ n r) (hn : n ≤ 14) (h0 : 0 ≤ r) {p k : Int} (hp : p.natAbs < 2 ^ 20) (k1 : 1 ≤ k) (k8 : k ≤ 8) : SmQ 400 (payR p r k) := by
  have b : (1 + n + 1) * k.toNat ≤ 16 * 8 := Nat.mul_le_mul (by omega) (by omega)
  unfold payR
  split
  · exact (smQ_div (n := 20) hp (by omega) (by omega)).mono (by omega)
  · rename_i c
    have g := ((SmQ.one (n := 1)).add hr).pow k.toNat
    exact ((((smQ_int hp).mul hr).mul g).div (g.sub (SmQ.one (n := 1))) (den_ne h0 c k1)).mono (by omega)
theorem c_each (he : RatV n e r) (hn : n ≤ 14) (h0 : 0 ≤ r) (h1 : r ≤ 1) {p k : Int} (hp : p.natAbs < 2 ^ 20) (k1 : 1 ≤ k) (k8 : k ≤ 8) (h : P (enQ (payR p r k)) st) : Go (m_each_year [.int p, e, .int k] st) P := by
  obtain ⟨q, rfl, hq, rfl⟩ := he.ex
  refine go_fr rfl (go_fn ?_) rfl h
  show Go (sSeq _ _ [some (.int p), some (enP q), some (.int k), none] []) _
  refine go_guard (go_chK (go_var (by with_unfolding_all exact rfl) ⟨rfl, rfl⟩) k1 (by omega) ⟨rfl, ?_⟩)
  repeat (first | with_reducible refine go_op ?_ | with_reducible refine go_call ?_ | with_reducible refine go_cons ?_ | with_reducible refine go_nil ?_ | with_reducible refine go_var (by with_unfolding_all exact rfl) ?_ | with_reducible refine go_c ?_ | with_reducible refine go_int ?_ | with_reducible refine go_add ?_ | with_reducible refine go_sub ?_ | with_reducible refine go_q0 ?_ | with_reducible refine go_q1 ?_ | with_reducible refine go_p0 ?_ | with_reducible refine go_p1 ?_ | with_reducible refine go_tup2 ?_ | with_reducible refine go_tup3 ?_ | with_reducible refine go_tup4 ?_ | with_reducible refine go_seq ?_ | with_reducible refine go_asg ?_ | with_reducible refine go_gn (Nat.le_of_ble_eq_true (by with_unfolding_all exact rfl)) ?_ | with_reducible refine go_gT2 ?_ | with_reducible refine go_gTP ?_ | with_reducible refine go_gT4 ?_ | with_reducible refine go_neg1 ?_ | with_reducible refine go_ret ?_ | with_reducible refine go_par2 ?_ | with_reducible refine go_par3x ?_ | with_reducible refine go_exp ?_)
  refine c_check he h0 h1 (by omega) ?_
  refine go_seq (go_sif (go_bB ?_))
  repeat (first | with_reducible refine go_op ?_ | with_reducible refine go_call ?_ | with_reducible refine go_cons ?_ | with_reducible refine go_nil ?_ | with_reducible refine go_var (by with_unfolding_all exact rfl) ?_ | with_reducible refine go_c ?_ | with_reducible refine go_int ?_ | with_reducible refine go_add ?_ | with_reducible refine go_sub ?_ | with_reducible refine go_q0 ?_ | with_reducible refine go_q1 ?_ | with_reducible refine go_p0 ?_ | with_reducible refine go_p1 ?_ | with_reducible refine go_tup2 ?_ | with_reducible refine go_tup3 ?_ | with_reducible refine go_tup4 ?_ | with_reducible refine go_seq ?_ | with_reducible refine go_asg ?_ | with_reducible refine go_gn (Nat.le_of_ble_eq_true (by with_unfolding_all exact rfl)) ?_ | with_reducible refine go_gT2 ?_ | with_reducible refine go_gTP ?_ | with_reducible refine go_gT4 ?_ | with_reducible refine go_neg1 ?_ | with_reducible refine go_ret ?_ | with_reducible refine go_par2 ?_ | with_reducible refine go_par3x ?_ | with_reducible refine go_exp ?_)
  have z : q.1 = 0 ↔ valP q = 0 := ⟨fun c => Decidable.byContradiction fun n => valP_ne hq n c, fun c => Decidable.byContradiction fun n => by
    have a := cast_ne n
    have b := cast_ne (show q.2 ≠ 0 by have := hq.2.1; omega)
    have c : (q.1 : Rat) / (q.2 : Rat) = 0 := c
    grind⟩
  refine go_eqI ⟨_, rfl, go_ifP (fun c => ?_) fun c => ?_⟩
  · have c := z.mp c
    repeat (first | with_reducible refine go_op ?_ | with_reducible refine go_call ?_ | with_reducible refine go_cons ?_ | with_reducible refine go_nil ?_ | with_reducible refine go_var (by with_unfolding_all exact rfl) ?_ | with_reducible refine go_c ?_ | with_reducible refine go_int ?_ | with_reducible refine go_add ?_ | with_reducible refine go_sub ?_ | with_reducible refine go_q0 ?_ | with_reducible refine go_q1 ?_ | with_reducible refine go_p0 ?_ | with_reducible refine go_p1 ?_ | with_reducible refine go_tup2 ?_ | with_reducible refine go_tup3 ?_ | with_reducible refine go_tup4 ?_ | with_reducible refine go_seq ?_ | with_reducible refine go_asg ?_ | with_reducible refine go_gn (Nat.le_of_ble_eq_true (by with_unfolding_all exact rfl)) ?_ | with_reducible refine go_gT2 ?_ | with_reducible refine go_gTP ?_ | with_reducible refine go_gT4 ?_ | with_reducible refine go_neg1 ?_ | with_reducible refine go_ret ?_ | with_reducible refine go_par2 ?_ | with_reducible refine go_par3x ?_ | with_reducible refine go_exp ?_)
    refine go_rat ratF_A 20 hp (by omega) (by omega) (by omega) ⟨_, rfl, ?_⟩
    unfold payR
    rw [if_pos c]
  · have c : valP q ≠ 0 := fun a => c (z.mpr a)
    refine go_snil ?_
    repeat (first | with_reducible refine go_op ?_ | with_reducible refine go_call ?_ | with_reducible refine go_cons ?_ | with_reducible refine go_nil ?_ | with_reducible refine go_var (by with_unfolding_all exact rfl) ?_ | with_reducible refine go_c ?_ | with_reducible refine go_int ?_ | with_reducible refine go_add ?_ | with_reducible refine go_sub ?_ | with_reducible refine go_q0 ?_ | with_reducible refine go_q1 ?_ | with_reducible refine go_p0 ?_ | with_reducible refine go_p1 ?_ | with_reducible refine go_tup2 ?_ | with_reducible refine go_tup3 ?_ | with_reducible refine go_tup4 ?_ | with_reducible refine go_seq ?_ | with_reducible refine go_asg ?_ | with_reducible refine go_gn (Nat.le_of_ble_eq_true (by with_unfolding_all exact rfl)) ?_ | with_reducible refine go_gT2 ?_ | with_reducible refine go_gTP ?_ | with_reducible refine go_gT4 ?_ | with_reducible refine go_neg1 ?_ | with_reducible refine go_ret ?_ | with_reducible refine go_par2 ?_ | with_reducible refine go_par3x ?_ | with_reducible refine go_exp ?_)
    refine c_grown RatV.one he h0 h1 hn (by omega) (by omega) (by omega) ?_
    rw [Rat.one_mul]
    repeat (first | with_reducible refine go_op ?_ | with_reducible refine go_call ?_ | with_reducible refine go_cons ?_ | with_reducible refine go_nil ?_ | with_reducible refine go_var (by with_unfolding_all exact rfl) ?_ | with_reducible refine go_c ?_ | with_reducible refine go_int ?_ | with_reducible refine go_add ?_ | with_reducible refine go_sub ?_ | with_reducible refine go_q0 ?_ | with_reducible refine go_q1 ?_ | with_reducible refine go_p0 ?_ | with_reducible refine go_p1 ?_ | with_reducible refine go_tup2 ?_ | with_reducible refine go_tup3 ?_ | with_reducible refine go_tup4 ?_ | with_reducible refine go_seq ?_ | with_reducible refine go_asg ?_ | with_reducible refine go_gn (Nat.le_of_ble_eq_true (by with_unfolding_all exact rfl)) ?_ | with_reducible refine go_gT2 ?_ | with_reducible refine go_gTP ?_ | with_reducible refine go_gT4 ?_ | with_reducible refine go_neg1 ?_ | with_reducible refine go_ret ?_ | with_reducible refine go_par2 ?_ | with_reducible refine go_par3x ?_ | with_reducible refine go_exp ?_)
    have b : (1 + n + 1) * k.toNat ≤ 16 * 8 := Nat.mul_le_mul (by omega) (by omega)
    have g := ((SmQ.one (n := 1)).add he.sm).pow k.toNat
    refine o_times.2 _ _ _ _ 20 n _ _ (RatV.i hp) he (by omega) ?_
    repeat (first | with_reducible refine go_op ?_ | with_reducible refine go_call ?_ | with_reducible refine go_cons ?_ | with_reducible refine go_nil ?_ | with_reducible refine go_var (by with_unfolding_all exact rfl) ?_ | with_reducible refine go_c ?_ | with_reducible refine go_int ?_ | with_reducible refine go_add ?_ | with_reducible refine go_sub ?_ | with_reducible refine go_q0 ?_ | with_reducible refine go_q1 ?_ | with_reducible refine go_p0 ?_ | with_reducible refine go_p1 ?_ | with_reducible refine go_tup2 ?_ | with_reducible refine go_tup3 ?_ | with_reducible refine go_tup4 ?_ | with_reducible refine go_seq ?_ | with_reducible refine go_asg ?_ | with_reducible refine go_gn (Nat.le_of_ble_eq_true (by with_unfolding_all exact rfl)) ?_ | with_reducible refine go_gT2 ?_ | with_reducible refine go_gTP ?_ | with_reducible refine go_gT4 ?_ | with_reducible refine go_neg1 ?_ | with_reducible refine go_ret ?_ | with_reducible refine go_par2 ?_ | with_reducible refine go_par3x ?_ | with_reducible refine go_exp ?_)
    refine o_times.2 _ _ _ _ _ _ _ _ (RatV.q ((smQ_int hp).mul he.sm)) (RatV.q g) (by omega) ?_
    repeat (first | with_reducible refine go_op ?_ | with_reducible refine go_call ?_ | with_reducible refine go_cons ?_ | with_reducible refine go_nil ?_ | with_reducible refine go_var (by with_unfolding_all exact rfl) ?_ | with_reducible refine go_c ?_ | with_reducible refine go_int ?_ | with_reducible refine go_add ?_ | with_reducible refine go_sub ?_ | with_reducible refine go_q0 ?_ | with_reducible refine go_q1 ?_ | with_reducible refine go_p0 ?_ | with_reducible refine go_p1 ?_ | with_reducible refine go_tup2 ?_ | with_reducible refine go_tup3 ?_ | with_reducible refine go_tup4 ?_ | with_reducible refine go_seq ?_ | with_reducible refine go_asg ?_ | with_reducible refine go_gn (Nat.le_of_ble_eq_true (by with_unfolding_all exact rfl)) ?_ | with_reducible refine go_gT2 ?_ | with_reducible refine go_gTP ?_ | with_reducible refine go_gT4 ?_ | with_reducible refine go_neg1 ?_ | with_reducible refine go_ret ?_ | with_reducible refine go_par2 ?_ | with_reducible refine go_par3x ?_ | with_reducible refine go_exp ?_)
    refine o_minus.2 _ _ _ _ _ _ _ _ (RatV.q g) RatV.one (by omega) ?_
    repeat (first | with_reducible refine go_op ?_ | with_reducible refine go_call ?_ | with_reducible refine go_cons ?_ | with_reducible refine go_nil ?_ | with_reducible refine go_var (by with_unfolding_all exact rfl) ?_ | with_reducible refine go_c ?_ | with_reducible refine go_int ?_ | with_reducible refine go_add ?_ | with_reducible refine go_sub ?_ | with_reducible refine go_q0 ?_ | with_reducible refine go_q1 ?_ | with_reducible refine go_p0 ?_ | with_reducible refine go_p1 ?_ | with_reducible refine go_tup2 ?_ | with_reducible refine go_tup3 ?_ | with_reducible refine go_tup4 ?_ | with_reducible refine go_seq ?_ | with_reducible refine go_asg ?_ | with_reducible refine go_gn (Nat.le_of_ble_eq_true (by with_unfolding_all exact rfl)) ?_ | with_reducible refine go_gT2 ?_ | with_reducible refine go_gTP ?_ | with_reducible refine go_gT4 ?_ | with_reducible refine go_neg1 ?_ | with_reducible refine go_ret ?_ | with_reducible refine go_par2 ?_ | with_reducible refine go_par3x ?_ | with_reducible refine go_exp ?_)
    refine go_over ratF_A (RatV.q (((smQ_int hp).mul he.sm).mul g)) (RatV.q (g.sub (SmQ.one (n := 1)))) (den_ne h0 c k1) (by omega) ⟨_, rfl, ?_⟩
    unfold payR
    rw [if_neg c]
/-! ### paid back just so -/
def annR (r : Rat) : Nat → Rat
  | 0 => 0
  | i + 1 => annR r i + annR r i * r + 1
def leftR (p : Int) (r paid : Rat) (i : Nat) : Rat := (p : Rat) * (1 + r) ^ i - paid * annR r i
theorem left_step {p : Int} {paid : Rat} {i : Nat} : leftR p r paid i + leftR p r paid i * r - paid = leftR p r paid (i + 1) := by
  unfold leftR
  rw [annR, Rat.pow_succ]
  generalize (1 + r) ^ i = g
  generalize annR r i = a
  grind
theorem ann_mul : ∀ i, r * annR r i = (1 + r) ^ i - 1
  | 0 => by rw [annR, Rat.pow_zero]; grind
  | i + 1 => by
    have := ann_mul i
    rw [annR, Rat.pow_succ]
    generalize (1 + r) ^ i = g at *
    generalize annR r i = a at *
    grind
theorem ann_zero : ∀ i : Nat, annR 0 i = (i : Rat)
  | 0 => rfl
  | i + 1 => by rw [annR, ann_zero i]; simp; grind
theorem one_pow : ∀ k : Nat, (1 : Rat) ^ k = 1
  | 0 => Rat.pow_zero _
  | k + 1 => by rw [Rat.pow_succ, one_pow k, Rat.mul_one]
theorem left_end (h0 : 0 ≤ r) {p k : Int} (k1 : 1 ≤ k) : leftR p r (payR p r k) k.toNat = 0 := by
  unfold leftR payR
  split
  · rename_i c
    subst c
    have kc : (k : Rat) ≠ 0 := cast_ne (by omega)
    rw [ann_zero, show (1 + 0 : Rat) = 1 by grind, one_pow]
    have : ((k.toNat : Nat) : Rat) = (k : Rat) := by
      rw [← Rat.intCast_natCast, Int.toNat_of_nonneg (by omega)]
    rw [this]
    grind
  · rename_i c
    have d := den_ne h0 c k1
    have a := ann_mul (r := r) k.toNat
    generalize (1 + r) ^ k.toNat = g at *
    generalize annR r k.toNat = x at *
    have : x = (g - 1) / r := by grind
    subst this
    grind
theorem ann_sm (hr : SmQ n r) : ∀ i, SmQ ((2 * n + 5) * i + 1) (annR r i)
  | 0 => SmQ.zero
  | i + 1 => by
    have e : annR r (i + 1) = annR r i * (1 + r) + 1 := by rw [annR]; grind
    rw [e]
    exact (((ann_sm hr i).mul ((SmQ.one (n := 1)).add hr)).add (SmQ.one (n := 1))).mono (by rw [Nat.mul_add]; omega)
theorem left_sm (hr : SmQ n r) (hn : n ≤ 14) {p : Int} {paid : Rat} (hp : p.natAbs < 2 ^ 20) (h : SmQ 400 paid) {i : Nat} (hi : i ≤ 8) : SmQ 1500 (leftR p r paid i) := by
  have b : (1 + n + 1) * i ≤ 16 * 8 := Nat.mul_le_mul (by omega) (by omega)
  have b2 : (2 * n + 5) * i ≤ 33 * 8 := Nat.mul_le_mul (by omega) (by omega)
  exact (((smQ_int hp).mul (((SmQ.one (n := 1)).add hr).pow i)).sub (h.mul (ann_sm hr i))).mono (by omega)
/-! ### near -/
theorem c_near (hr : SmQ n r) (hn : n ≤ 7000) (h : P (.int (nearR r)) st) : Go (m_near [enQ r] st) P := go_near hr hn h
theorem c_lnear (hp : SmQ n r) (hn : n ≤ 7000) (h : P (.int (nearR r)) st) : Go (m__law_near [enQ r] st) P := by
  refine go_fr rfl (go_fn ?_) rfl h
  show Go (sSeq _ _ [some (enQ r), none, none] []) _
  have lowb : (r.num / r.den).natAbs < 2 ^ n := Nat.lt_of_le_of_lt (Int.natAbs_ediv_le_natAbs _ _) hp.1
  have hp2 : ((r.den : Nat) : Int).natAbs < 2 ^ n := by simpa using hp.2
  have mb : (r.num / r.den * r.den).natAbs < 2 ^ (n + n) := mul_bits lowb hp2
  repeat (first | with_reducible refine go_op ?_ | with_reducible refine go_call ?_ | with_reducible refine go_cons ?_ | with_reducible refine go_nil ?_ | with_reducible refine go_var (by with_unfolding_all exact rfl) ?_ | with_reducible refine go_c ?_ | with_reducible refine go_int ?_ | with_reducible refine go_add ?_ | with_reducible refine go_sub ?_ | with_reducible refine go_q0 ?_ | with_reducible refine go_q1 ?_ | with_reducible refine go_p0 ?_ | with_reducible refine go_p1 ?_ | with_reducible refine go_tup2 ?_ | with_reducible refine go_tup3 ?_ | with_reducible refine go_tup4 ?_ | with_reducible refine go_seq ?_ | with_reducible refine go_asg ?_ | with_reducible refine go_gn (Nat.le_of_ble_eq_true (by with_unfolding_all exact rfl)) ?_ | with_reducible refine go_gT2 ?_ | with_reducible refine go_gTP ?_ | with_reducible refine go_gT4 ?_ | with_reducible refine go_neg1 ?_ | with_reducible refine go_ret ?_ | with_reducible refine go_par2 ?_ | with_reducible refine go_par3x ?_ | with_reducible refine go_exp ?_)
  refine go_div (hp.dvc hn _) ?_
  repeat (first | with_reducible refine go_op ?_ | with_reducible refine go_call ?_ | with_reducible refine go_cons ?_ | with_reducible refine go_nil ?_ | with_reducible refine go_var (by with_unfolding_all exact rfl) ?_ | with_reducible refine go_c ?_ | with_reducible refine go_int ?_ | with_reducible refine go_add ?_ | with_reducible refine go_sub ?_ | with_reducible refine go_q0 ?_ | with_reducible refine go_q1 ?_ | with_reducible refine go_p0 ?_ | with_reducible refine go_p1 ?_ | with_reducible refine go_tup2 ?_ | with_reducible refine go_tup3 ?_ | with_reducible refine go_tup4 ?_ | with_reducible refine go_seq ?_ | with_reducible refine go_asg ?_ | with_reducible refine go_gn (Nat.le_of_ble_eq_true (by with_unfolding_all exact rfl)) ?_ | with_reducible refine go_gT2 ?_ | with_reducible refine go_gTP ?_ | with_reducible refine go_gT4 ?_ | with_reducible refine go_neg1 ?_ | with_reducible refine go_ret ?_ | with_reducible refine go_par2 ?_ | with_reducible refine go_par3x ?_ | with_reducible refine go_exp ?_)
  refine go_mul (mulx_w n n lowb hp2 (by omega)) ?_
  repeat (first | with_reducible refine go_op ?_ | with_reducible refine go_call ?_ | with_reducible refine go_cons ?_ | with_reducible refine go_nil ?_ | with_reducible refine go_var (by with_unfolding_all exact rfl) ?_ | with_reducible refine go_c ?_ | with_reducible refine go_int ?_ | with_reducible refine go_add ?_ | with_reducible refine go_sub ?_ | with_reducible refine go_q0 ?_ | with_reducible refine go_q1 ?_ | with_reducible refine go_p0 ?_ | with_reducible refine go_p1 ?_ | with_reducible refine go_tup2 ?_ | with_reducible refine go_tup3 ?_ | with_reducible refine go_tup4 ?_ | with_reducible refine go_seq ?_ | with_reducible refine go_asg ?_ | with_reducible refine go_gn (Nat.le_of_ble_eq_true (by with_unfolding_all exact rfl)) ?_ | with_reducible refine go_gT2 ?_ | with_reducible refine go_gTP ?_ | with_reducible refine go_gT4 ?_ | with_reducible refine go_neg1 ?_ | with_reducible refine go_ret ?_ | with_reducible refine go_par2 ?_ | with_reducible refine go_par3x ?_ | with_reducible refine go_exp ?_)
  have pb : r.num.natAbs < 2 ^ (n + n) := Nat.lt_of_lt_of_le hp.1 (pow_le2 (by omega))
  refine go_mul (mulx_w 2 (n + n + 1) (by decide) (sub_bits pb mb) (by omega)) ?_
  repeat (first | with_reducible refine go_op ?_ | with_reducible refine go_call ?_ | with_reducible refine go_cons ?_ | with_reducible refine go_nil ?_ | with_reducible refine go_var (by with_unfolding_all exact rfl) ?_ | with_reducible refine go_c ?_ | with_reducible refine go_int ?_ | with_reducible refine go_add ?_ | with_reducible refine go_sub ?_ | with_reducible refine go_q0 ?_ | with_reducible refine go_q1 ?_ | with_reducible refine go_p0 ?_ | with_reducible refine go_p1 ?_ | with_reducible refine go_tup2 ?_ | with_reducible refine go_tup3 ?_ | with_reducible refine go_tup4 ?_ | with_reducible refine go_seq ?_ | with_reducible refine go_asg ?_ | with_reducible refine go_gn (Nat.le_of_ble_eq_true (by with_unfolding_all exact rfl)) ?_ | with_reducible refine go_gT2 ?_ | with_reducible refine go_gTP ?_ | with_reducible refine go_gT4 ?_ | with_reducible refine go_neg1 ?_ | with_reducible refine go_ret ?_ | with_reducible refine go_par2 ?_ | with_reducible refine go_par3x ?_ | with_reducible refine go_exp ?_)
  refine go_eOrV (a := decide ((r.den : Int) < 2 * (r.num - r.num / r.den * r.den))) (b := decide (2 * (r.num - r.num / r.den * r.den) = r.den) && decide (r.num / r.den % 2 = 1)) (go_bB ?_) (fun _ => go_eAndV (a := decide (2 * (r.num - r.num / r.den * r.den) = r.den)) (b := decide (r.num / r.den % 2 = 1)) (go_bB ?_) (fun _ => ?_) ⟨rfl, rfl⟩) ?_
  · repeat (first | with_reducible refine go_op ?_ | with_reducible refine go_call ?_ | with_reducible refine go_cons ?_ | with_reducible refine go_nil ?_ | with_reducible refine go_var (by with_unfolding_all exact rfl) ?_ | with_reducible refine go_c ?_ | with_reducible refine go_int ?_ | with_reducible refine go_add ?_ | with_reducible refine go_sub ?_ | with_reducible refine go_q0 ?_ | with_reducible refine go_q1 ?_ | with_reducible refine go_p0 ?_ | with_reducible refine go_p1 ?_ | with_reducible refine go_tup2 ?_ | with_reducible refine go_tup3 ?_ | with_reducible refine go_tup4 ?_ | with_reducible refine go_seq ?_ | with_reducible refine go_asg ?_ | with_reducible refine go_gn (Nat.le_of_ble_eq_true (by with_unfolding_all exact rfl)) ?_ | with_reducible refine go_gT2 ?_ | with_reducible refine go_gTP ?_ | with_reducible refine go_gT4 ?_ | with_reducible refine go_neg1 ?_ | with_reducible refine go_ret ?_ | with_reducible refine go_par2 ?_ | with_reducible refine go_par3x ?_ | with_reducible refine go_exp ?_)
    exact go_gt ⟨_, rfl, rfl, rfl⟩
  · repeat (first | with_reducible refine go_op ?_ | with_reducible refine go_call ?_ | with_reducible refine go_cons ?_ | with_reducible refine go_nil ?_ | with_reducible refine go_var (by with_unfolding_all exact rfl) ?_ | with_reducible refine go_c ?_ | with_reducible refine go_int ?_ | with_reducible refine go_add ?_ | with_reducible refine go_sub ?_ | with_reducible refine go_q0 ?_ | with_reducible refine go_q1 ?_ | with_reducible refine go_p0 ?_ | with_reducible refine go_p1 ?_ | with_reducible refine go_tup2 ?_ | with_reducible refine go_tup3 ?_ | with_reducible refine go_tup4 ?_ | with_reducible refine go_seq ?_ | with_reducible refine go_asg ?_ | with_reducible refine go_gn (Nat.le_of_ble_eq_true (by with_unfolding_all exact rfl)) ?_ | with_reducible refine go_gT2 ?_ | with_reducible refine go_gTP ?_ | with_reducible refine go_gT4 ?_ | with_reducible refine go_neg1 ?_ | with_reducible refine go_ret ?_ | with_reducible refine go_par2 ?_ | with_reducible refine go_par3x ?_ | with_reducible refine go_exp ?_)
    exact go_eqI ⟨_, rfl, rfl, rfl⟩
  · repeat (first | with_reducible refine go_op ?_ | with_reducible refine go_call ?_ | with_reducible refine go_cons ?_ | with_reducible refine go_nil ?_ | with_reducible refine go_var (by with_unfolding_all exact rfl) ?_ | with_reducible refine go_c ?_ | with_reducible refine go_int ?_ | with_reducible refine go_add ?_ | with_reducible refine go_sub ?_ | with_reducible refine go_q0 ?_ | with_reducible refine go_q1 ?_ | with_reducible refine go_p0 ?_ | with_reducible refine go_p1 ?_ | with_reducible refine go_tup2 ?_ | with_reducible refine go_tup3 ?_ | with_reducible refine go_tup4 ?_ | with_reducible refine go_seq ?_ | with_reducible refine go_asg ?_ | with_reducible refine go_gn (Nat.le_of_ble_eq_true (by with_unfolding_all exact rfl)) ?_ | with_reducible refine go_gT2 ?_ | with_reducible refine go_gTP ?_ | with_reducible refine go_gT4 ?_ | with_reducible refine go_neg1 ?_ | with_reducible refine go_ret ?_ | with_reducible refine go_par2 ?_ | with_reducible refine go_par3x ?_ | with_reducible refine go_exp ?_)
    refine go_mod (by decide) ?_
    repeat (first | with_reducible refine go_op ?_ | with_reducible refine go_call ?_ | with_reducible refine go_cons ?_ | with_reducible refine go_nil ?_ | with_reducible refine go_var (by with_unfolding_all exact rfl) ?_ | with_reducible refine go_c ?_ | with_reducible refine go_int ?_ | with_reducible refine go_add ?_ | with_reducible refine go_sub ?_ | with_reducible refine go_q0 ?_ | with_reducible refine go_q1 ?_ | with_reducible refine go_p0 ?_ | with_reducible refine go_p1 ?_ | with_reducible refine go_tup2 ?_ | with_reducible refine go_tup3 ?_ | with_reducible refine go_tup4 ?_ | with_reducible refine go_seq ?_ | with_reducible refine go_asg ?_ | with_reducible refine go_gn (Nat.le_of_ble_eq_true (by with_unfolding_all exact rfl)) ?_ | with_reducible refine go_gT2 ?_ | with_reducible refine go_gTP ?_ | with_reducible refine go_gT4 ?_ | with_reducible refine go_neg1 ?_ | with_reducible refine go_ret ?_ | with_reducible refine go_par2 ?_ | with_reducible refine go_par3x ?_ | with_reducible refine go_exp ?_)
    exact go_eqI ⟨rfl, rfl⟩
  · repeat (first | with_reducible refine go_op ?_ | with_reducible refine go_call ?_ | with_reducible refine go_cons ?_ | with_reducible refine go_nil ?_ | with_reducible refine go_var (by with_unfolding_all exact rfl) ?_ | with_reducible refine go_c ?_ | with_reducible refine go_int ?_ | with_reducible refine go_add ?_ | with_reducible refine go_sub ?_ | with_reducible refine go_q0 ?_ | with_reducible refine go_q1 ?_ | with_reducible refine go_p0 ?_ | with_reducible refine go_p1 ?_ | with_reducible refine go_tup2 ?_ | with_reducible refine go_tup3 ?_ | with_reducible refine go_tup4 ?_ | with_reducible refine go_seq ?_ | with_reducible refine go_asg ?_ | with_reducible refine go_gn (Nat.le_of_ble_eq_true (by with_unfolding_all exact rfl)) ?_ | with_reducible refine go_gT2 ?_ | with_reducible refine go_gTP ?_ | with_reducible refine go_gT4 ?_ | with_reducible refine go_neg1 ?_ | with_reducible refine go_ret ?_ | with_reducible refine go_par2 ?_ | with_reducible refine go_par3x ?_ | with_reducible refine go_exp ?_)
    refine go_intB ?_
    repeat (first | with_reducible refine go_op ?_ | with_reducible refine go_call ?_ | with_reducible refine go_cons ?_ | with_reducible refine go_nil ?_ | with_reducible refine go_var (by with_unfolding_all exact rfl) ?_ | with_reducible refine go_c ?_ | with_reducible refine go_int ?_ | with_reducible refine go_add ?_ | with_reducible refine go_sub ?_ | with_reducible refine go_q0 ?_ | with_reducible refine go_q1 ?_ | with_reducible refine go_p0 ?_ | with_reducible refine go_p1 ?_ | with_reducible refine go_tup2 ?_ | with_reducible refine go_tup3 ?_ | with_reducible refine go_tup4 ?_ | with_reducible refine go_seq ?_ | with_reducible refine go_asg ?_ | with_reducible refine go_gn (Nat.le_of_ble_eq_true (by with_unfolding_all exact rfl)) ?_ | with_reducible refine go_gT2 ?_ | with_reducible refine go_gTP ?_ | with_reducible refine go_gT4 ?_ | with_reducible refine go_neg1 ?_ | with_reducible refine go_ret ?_ | with_reducible refine go_par2 ?_ | with_reducible refine go_par3x ?_ | with_reducible refine go_exp ?_)
    refine ⟨_, rfl, ?_⟩
    unfold nearR
    generalize r.num - r.num / r.den * r.den = u
    generalize r.num / r.den = l
    generalize ((r.den : Nat) : Int) = w
    congr 1
    by_cases c1 : 2 * u = w
    · rw [if_pos c1]
      subst c1
      simp only [Int.lt_irrefl, decide_false, Bool.false_or, decide_true, Bool.true_and, decide_eq_true_eq]
      split <;> split <;> omega
    · rw [if_neg c1]
      simp only [c1, decide_false, Bool.false_and, Bool.or_false, decide_eq_true_eq]
      split <;> split <;> omega

/-! ### the plan -/
def dueI (w : Int) (r : Rat) (k i : Nat) (h : Int) : Int := if i + 1 = k then h else min h (max 0 (w - nearR ((h : Rat) * r)))
def hereI (w : Int) (r : Rat) (k : Nat) (p : Int) : Nat → Int
  | 0 => p
  | i + 1 => hereI w r k p i - dueI w r k i (hereI w r k p i)
theorem here_bd {w p : Int} {k : Nat} (hp : 0 ≤ p) : ∀ i, 0 ≤ hereI w r k p i ∧ hereI w r k p i ≤ p
  | 0 => ⟨hp, Int.le_refl _⟩
  | i + 1 => by
    have := here_bd (w := w) (k := k) hp i
    rw [hereI]
    generalize hereI w r k p i = h at *
    unfold dueI
    split
    · omega
    · generalize w - _ = u
      omega
theorem here_end {w p : Int} {k : Nat} (hk : 0 < k) : hereI w r k p k = 0 := by
  obtain ⟨j, rfl⟩ : ∃ j, k = j + 1 := ⟨k - 1, by omega⟩
  rw [hereI]
  unfold dueI
  rw [if_pos rfl]
  omega
def planRow (w : Int) (r : Rat) (k : Nat) (p : Int) (i : Nat) : Dv := .tup [.int ((i : Int) + 1), .int (nearR ((hereI w r k p i : Rat) * r)), .int (dueI w r k i (hereI w r k p i)), .int (hereI w r k p (i + 1))]
def planT (w : Int) (r : Rat) (k : Nat) (p : Int) : Dv := .tup ((List.range k).map (planRow w r k p))
theorem sum_due {w p : Int} {k : Nat} : ∀ m, ((List.range m).map fun i => dueI w r k i (hereI w r k p i)).sum = p - hereI w r k p m
  | 0 => by show (0 : Int) = p - p; omega
  | m + 1 => by
    rw [List.range_succ, List.map_append, List.sum_append, sum_due m, hereI]
    simp
    omega
theorem less_rows {k m : Nat} {w p : Int} : lessLB m ((List.range k).map (planRow w r k p)) = true := by
  generalize List.range k = l
  induction l with
  | nil => rfl
  | cons x l ih => rw [List.map_cons, lessLB, ih]; rfl
theorem int_sm {h p : Int} (h0 : 0 ≤ h) (h1 : h ≤ p) (hp : p.natAbs < 2 ^ 20) : h.natAbs < 2 ^ 20 := by omega
theorem c_plan (he : RatV n e r) (hn : n ≤ 14) (h0 : 0 ≤ r) (h1 : r ≤ 1) {p k : Int} (hp : p.natAbs < 2 ^ 20) (p1 : 1 ≤ p) (k1 : 1 ≤ k) (k8 : k ≤ 8) (h : P (planT (nearR (payR p r k)) r k.toNat p) st) : Go (m_plan [.int p, e, .int k] st) P := by
  obtain ⟨q, rfl, hq, rfl⟩ := he.ex
  refine go_fr (x := planT (nearR (payR p (valP q) k)) (valP q) k.toNat p) rfl (go_fn ?_) (show lessLB 0 ((List.range k.toNat).map (planRow _ _ _ _)) = true from less_rows) h
  show Go (sSeq _ _ [some (.int p), some (enP q), some (.int k), none, none, none, none, none, none] []) _
  refine go_guard (go_bB ?_)
  repeat (first | with_reducible refine go_op ?_ | with_reducible refine go_call ?_ | with_reducible refine go_cons ?_ | with_reducible refine go_nil ?_ | with_reducible refine go_var (by with_unfolding_all exact rfl) ?_ | with_reducible refine go_c ?_ | with_reducible refine go_int ?_ | with_reducible refine go_add ?_ | with_reducible refine go_sub ?_ | with_reducible refine go_q0 ?_ | with_reducible refine go_q1 ?_ | with_reducible refine go_p0 ?_ | with_reducible refine go_p1 ?_ | with_reducible refine go_tup2 ?_ | with_reducible refine go_tup3 ?_ | with_reducible refine go_tup4 ?_ | with_reducible refine go_seq ?_ | with_reducible refine go_asg ?_ | with_reducible refine go_gn (Nat.le_of_ble_eq_true (by with_unfolding_all exact rfl)) ?_ | with_reducible refine go_gT2 ?_ | with_reducible refine go_gTP ?_ | with_reducible refine go_gT4 ?_ | with_reducible refine go_neg1 ?_ | with_reducible refine go_ret ?_ | with_reducible refine go_par2 ?_ | with_reducible refine go_par3x ?_ | with_reducible refine go_exp ?_)
  refine go_lt ⟨_, rfl, decide_eq_false (by omega), ?_⟩
  repeat (first | with_reducible refine go_op ?_ | with_reducible refine go_call ?_ | with_reducible refine go_cons ?_ | with_reducible refine go_nil ?_ | with_reducible refine go_var (by with_unfolding_all exact rfl) ?_ | with_reducible refine go_c ?_ | with_reducible refine go_int ?_ | with_reducible refine go_add ?_ | with_reducible refine go_sub ?_ | with_reducible refine go_q0 ?_ | with_reducible refine go_q1 ?_ | with_reducible refine go_p0 ?_ | with_reducible refine go_p1 ?_ | with_reducible refine go_tup2 ?_ | with_reducible refine go_tup3 ?_ | with_reducible refine go_tup4 ?_ | with_reducible refine go_seq ?_ | with_reducible refine go_asg ?_ | with_reducible refine go_gn (Nat.le_of_ble_eq_true (by with_unfolding_all exact rfl)) ?_ | with_reducible refine go_gT2 ?_ | with_reducible refine go_gTP ?_ | with_reducible refine go_gT4 ?_ | with_reducible refine go_neg1 ?_ | with_reducible refine go_ret ?_ | with_reducible refine go_par2 ?_ | with_reducible refine go_par3x ?_ | with_reducible refine go_exp ?_)
  refine c_each he hn h0 h1 hp k1 k8 ?_
  repeat (first | with_reducible refine go_op ?_ | with_reducible refine go_call ?_ | with_reducible refine go_cons ?_ | with_reducible refine go_nil ?_ | with_reducible refine go_var (by with_unfolding_all exact rfl) ?_ | with_reducible refine go_c ?_ | with_reducible refine go_int ?_ | with_reducible refine go_add ?_ | with_reducible refine go_sub ?_ | with_reducible refine go_q0 ?_ | with_reducible refine go_q1 ?_ | with_reducible refine go_p0 ?_ | with_reducible refine go_p1 ?_ | with_reducible refine go_tup2 ?_ | with_reducible refine go_tup3 ?_ | with_reducible refine go_tup4 ?_ | with_reducible refine go_seq ?_ | with_reducible refine go_asg ?_ | with_reducible refine go_gn (Nat.le_of_ble_eq_true (by with_unfolding_all exact rfl)) ?_ | with_reducible refine go_gT2 ?_ | with_reducible refine go_gTP ?_ | with_reducible refine go_gT4 ?_ | with_reducible refine go_neg1 ?_ | with_reducible refine go_ret ?_ | with_reducible refine go_par2 ?_ | with_reducible refine go_par3x ?_ | with_reducible refine go_exp ?_)
  refine c_near (pay_sm he.sm hn h0 hp k1 k8) (by omega) ?_
  repeat (first | with_reducible refine go_op ?_ | with_reducible refine go_call ?_ | with_reducible refine go_cons ?_ | with_reducible refine go_nil ?_ | with_reducible refine go_var (by with_unfolding_all exact rfl) ?_ | with_reducible refine go_c ?_ | with_reducible refine go_int ?_ | with_reducible refine go_add ?_ | with_reducible refine go_sub ?_ | with_reducible refine go_q0 ?_ | with_reducible refine go_q1 ?_ | with_reducible refine go_p0 ?_ | with_reducible refine go_p1 ?_ | with_reducible refine go_tup2 ?_ | with_reducible refine go_tup3 ?_ | with_reducible refine go_tup4 ?_ | with_reducible refine go_seq ?_ | with_reducible refine go_asg ?_ | with_reducible refine go_gn (Nat.le_of_ble_eq_true (by with_unfolding_all exact rfl)) ?_ | with_reducible refine go_gT2 ?_ | with_reducible refine go_gTP ?_ | with_reducible refine go_gT4 ?_ | with_reducible refine go_neg1 ?_ | with_reducible refine go_ret ?_ | with_reducible refine go_par2 ?_ | with_reducible refine go_par3x ?_ | with_reducible refine go_exp ?_)
  generalize nearR (payR p (valP q) k) = w
  refine go_lst (go_nil ⟨by show 0 ≤ sizeLine; decide, by show 3 < 9; decide, by show 4 < 9; decide, by show 5 < 9; decide, ?_⟩)
  refine go_seq (go_for (go_wR2 ?_))
  repeat (first | with_reducible refine go_op ?_ | with_reducible refine go_call ?_ | with_reducible refine go_cons ?_ | with_reducible refine go_nil ?_ | with_reducible refine go_var (by with_unfolding_all exact rfl) ?_ | with_reducible refine go_c ?_ | with_reducible refine go_int ?_ | with_reducible refine go_add ?_ | with_reducible refine go_sub ?_ | with_reducible refine go_q0 ?_ | with_reducible refine go_q1 ?_ | with_reducible refine go_p0 ?_ | with_reducible refine go_p1 ?_ | with_reducible refine go_tup2 ?_ | with_reducible refine go_tup3 ?_ | with_reducible refine go_tup4 ?_ | with_reducible refine go_seq ?_ | with_reducible refine go_asg ?_ | with_reducible refine go_gn (Nat.le_of_ble_eq_true (by with_unfolding_all exact rfl)) ?_ | with_reducible refine go_gT2 ?_ | with_reducible refine go_gTP ?_ | with_reducible refine go_gT4 ?_ | with_reducible refine go_neg1 ?_ | with_reducible refine go_ret ?_ | with_reducible refine go_par2 ?_ | with_reducible refine go_par3x ?_ | with_reducible refine go_exp ?_)
  refine ⟨1, k + 1, rfl, by omega, by omega, by omega, by omega, fun K hK => ⟨_, hK, fun i ls s => ∃ a b c, ls = [some (.int p), some (enP q), some (.int k), some (.int w), some (.int (hereI w (valP q) k.toNat p i)), some (.ref 0), a, b, c] ∧ s = [.lst ((List.range i).map (planRow w (valP q) k.toNat p))], ⟨none, none, none, rfl, rfl⟩, ?_, ?_⟩⟩
  · rintro i ls s hi ⟨a, b, c, rfl, rfl⟩
    have hi : i < k.toNat := by rw [rngD_len] at hi; omega
    have hd : ∀ h, (rngD 1 (k + 1 - 1).toNat)[i]'h = .int (1 + (i : Int)) := fun h => by simp [rngD]
    rw [hd]
    obtain ⟨hb0, hb1⟩ := here_bd (r := valP q) (w := w) (k := k.toNat) (p := p) (by omega) i
    have hh : hereI w (valP q) k.toNat p (i + 1) = hereI w (valP q) k.toNat p i - dueI w (valP q) k.toNat i (hereI w (valP q) k.toNat p i) := rfl
    have hr : (List.range (i + 1)).map (planRow w (valP q) k.toNat p) = (List.range i).map (planRow w (valP q) k.toNat p) ++ [.tup [.int ((i : Int) + 1), .int (nearR ((hereI w (valP q) k.toNat p i : Rat) * valP q)), .int (dueI w (valP q) k.toNat i (hereI w (valP q) k.toNat p i)), .int (hereI w (valP q) k.toNat p i - dueI w (valP q) k.toNat i (hereI w (valP q) k.toNat p i))]] := by rw [List.range_succ, List.map_append]; rfl
    have hs := int_sm hb0 hb1 hp
    generalize hg : hereI w (valP q) k.toNat p i = g at *
    have ll : ((List.range i).map (planRow w (valP q) k.toNat p)).length < sizeLine := by rw [List.length_map, List.length_range]; exact Nat.lt_of_lt_of_le (show i < 8 by omega) (by decide)
    repeat (first | with_reducible refine go_op ?_ | with_reducible refine go_call ?_ | with_reducible refine go_cons ?_ | with_reducible refine go_nil ?_ | with_reducible refine go_var (by with_unfolding_all exact rfl) ?_ | with_reducible refine go_c ?_ | with_reducible refine go_int ?_ | with_reducible refine go_add ?_ | with_reducible refine go_sub ?_ | with_reducible refine go_q0 ?_ | with_reducible refine go_q1 ?_ | with_reducible refine go_p0 ?_ | with_reducible refine go_p1 ?_ | with_reducible refine go_tup2 ?_ | with_reducible refine go_tup3 ?_ | with_reducible refine go_tup4 ?_ | with_reducible refine go_seq ?_ | with_reducible refine go_asg ?_ | with_reducible refine go_gn (Nat.le_of_ble_eq_true (by with_unfolding_all exact rfl)) ?_ | with_reducible refine go_gT2 ?_ | with_reducible refine go_gTP ?_ | with_reducible refine go_gT4 ?_ | with_reducible refine go_neg1 ?_ | with_reducible refine go_ret ?_ | with_reducible refine go_par2 ?_ | with_reducible refine go_par3x ?_ | with_reducible refine go_exp ?_)
    refine o_times.2 _ _ _ _ 20 n _ _ (RatV.i hs) he (by omega) ?_
    repeat (first | with_reducible refine go_op ?_ | with_reducible refine go_call ?_ | with_reducible refine go_cons ?_ | with_reducible refine go_nil ?_ | with_reducible refine go_var (by with_unfolding_all exact rfl) ?_ | with_reducible refine go_c ?_ | with_reducible refine go_int ?_ | with_reducible refine go_add ?_ | with_reducible refine go_sub ?_ | with_reducible refine go_q0 ?_ | with_reducible refine go_q1 ?_ | with_reducible refine go_p0 ?_ | with_reducible refine go_p1 ?_ | with_reducible refine go_tup2 ?_ | with_reducible refine go_tup3 ?_ | with_reducible refine go_tup4 ?_ | with_reducible refine go_seq ?_ | with_reducible refine go_asg ?_ | with_reducible refine go_gn (Nat.le_of_ble_eq_true (by with_unfolding_all exact rfl)) ?_ | with_reducible refine go_gT2 ?_ | with_reducible refine go_gTP ?_ | with_reducible refine go_gT4 ?_ | with_reducible refine go_neg1 ?_ | with_reducible refine go_ret ?_ | with_reducible refine go_par2 ?_ | with_reducible refine go_par3x ?_ | with_reducible refine go_exp ?_)
    refine c_near ((smQ_int hs).mul he.sm) (by omega) ?_
    repeat (first | with_reducible refine go_op ?_ | with_reducible refine go_call ?_ | with_reducible refine go_cons ?_ | with_reducible refine go_nil ?_ | with_reducible refine go_var (by with_unfolding_all exact rfl) ?_ | with_reducible refine go_c ?_ | with_reducible refine go_int ?_ | with_reducible refine go_add ?_ | with_reducible refine go_sub ?_ | with_reducible refine go_q0 ?_ | with_reducible refine go_q1 ?_ | with_reducible refine go_p0 ?_ | with_reducible refine go_p1 ?_ | with_reducible refine go_tup2 ?_ | with_reducible refine go_tup3 ?_ | with_reducible refine go_tup4 ?_ | with_reducible refine go_seq ?_ | with_reducible refine go_asg ?_ | with_reducible refine go_gn (Nat.le_of_ble_eq_true (by with_unfolding_all exact rfl)) ?_ | with_reducible refine go_gT2 ?_ | with_reducible refine go_gTP ?_ | with_reducible refine go_gT4 ?_ | with_reducible refine go_neg1 ?_ | with_reducible refine go_ret ?_ | with_reducible refine go_par2 ?_ | with_reducible refine go_par3x ?_ | with_reducible refine go_exp ?_)
    have fin : ∀ d, d = dueI w (valP q) k.toNat i g → Go ((sSeq (sAugI (fun i j => i - j) 4 (eVar 8)) (sExp (eApp (eVar 5) (eTup (aCons (eVar 6) (aCons (eVar 7) (aCons (eVar 8) (aCons (eVar 4) aNil))))))))
        [some (.int p), some (enP q), some (.int k), some (.int w), some (.int g), some (.ref 0), some (.int (1 + (i : Int))), some (.int (nearR ((g : Rat) * valP q))), some (.int d)] [.lst ((List.range i).map (planRow w (valP q) k.toNat p))]) fun r st2 => r.1 = .nx ∧ ∃ a b c, r.2 = [some (.int p), some (enP q), some (.int k), some (.int w), some (.int (hereI w (valP q) k.toNat p (i + 1))), some (.ref 0), a, b, c] ∧ st2 = [.lst ((List.range (i + 1)).map (planRow w (valP q) k.toNat p))] := fun d hd => by
      refine go_seq (go_augI rfl ?_)
      repeat (first | with_reducible refine go_op ?_ | with_reducible refine go_call ?_ | with_reducible refine go_cons ?_ | with_reducible refine go_nil ?_ | with_reducible refine go_var (by with_unfolding_all exact rfl) ?_ | with_reducible refine go_c ?_ | with_reducible refine go_int ?_ | with_reducible refine go_add ?_ | with_reducible refine go_sub ?_ | with_reducible refine go_q0 ?_ | with_reducible refine go_q1 ?_ | with_reducible refine go_p0 ?_ | with_reducible refine go_p1 ?_ | with_reducible refine go_tup2 ?_ | with_reducible refine go_tup3 ?_ | with_reducible refine go_tup4 ?_ | with_reducible refine go_seq ?_ | with_reducible refine go_asg ?_ | with_reducible refine go_gn (Nat.le_of_ble_eq_true (by with_unfolding_all exact rfl)) ?_ | with_reducible refine go_gT2 ?_ | with_reducible refine go_gTP ?_ | with_reducible refine go_gT4 ?_ | with_reducible refine go_neg1 ?_ | with_reducible refine go_ret ?_ | with_reducible refine go_par2 ?_ | with_reducible refine go_par3x ?_ | with_reducible refine go_exp ?_)
      refine ⟨_, rfl, by show 4 < 9; decide, ?_⟩
      repeat (first | with_reducible refine go_op ?_ | with_reducible refine go_call ?_ | with_reducible refine go_cons ?_ | with_reducible refine go_nil ?_ | with_reducible refine go_var (by with_unfolding_all exact rfl) ?_ | with_reducible refine go_c ?_ | with_reducible refine go_int ?_ | with_reducible refine go_add ?_ | with_reducible refine go_sub ?_ | with_reducible refine go_q0 ?_ | with_reducible refine go_q1 ?_ | with_reducible refine go_p0 ?_ | with_reducible refine go_p1 ?_ | with_reducible refine go_tup2 ?_ | with_reducible refine go_tup3 ?_ | with_reducible refine go_tup4 ?_ | with_reducible refine go_seq ?_ | with_reducible refine go_asg ?_ | with_reducible refine go_gn (Nat.le_of_ble_eq_true (by with_unfolding_all exact rfl)) ?_ | with_reducible refine go_gT2 ?_ | with_reducible refine go_gTP ?_ | with_reducible refine go_gT4 ?_ | with_reducible refine go_neg1 ?_ | with_reducible refine go_ret ?_ | with_reducible refine go_par2 ?_ | with_reducible refine go_par3x ?_ | with_reducible refine go_exp ?_)
      refine go_app ?_
      repeat (first | with_reducible refine go_op ?_ | with_reducible refine go_call ?_ | with_reducible refine go_cons ?_ | with_reducible refine go_nil ?_ | with_reducible refine go_var (by with_unfolding_all exact rfl) ?_ | with_reducible refine go_c ?_ | with_reducible refine go_int ?_ | with_reducible refine go_add ?_ | with_reducible refine go_sub ?_ | with_reducible refine go_q0 ?_ | with_reducible refine go_q1 ?_ | with_reducible refine go_p0 ?_ | with_reducible refine go_p1 ?_ | with_reducible refine go_tup2 ?_ | with_reducible refine go_tup3 ?_ | with_reducible refine go_tup4 ?_ | with_reducible refine go_seq ?_ | with_reducible refine go_asg ?_ | with_reducible refine go_gn (Nat.le_of_ble_eq_true (by with_unfolding_all exact rfl)) ?_ | with_reducible refine go_gT2 ?_ | with_reducible refine go_gTP ?_ | with_reducible refine go_gT4 ?_ | with_reducible refine go_neg1 ?_ | with_reducible refine go_ret ?_ | with_reducible refine go_par2 ?_ | with_reducible refine go_par3x ?_ | with_reducible refine go_exp ?_)
      refine ⟨0, _, rfl, rfl, ?_⟩
      repeat (first | with_reducible refine go_op ?_ | with_reducible refine go_call ?_ | with_reducible refine go_cons ?_ | with_reducible refine go_nil ?_ | with_reducible refine go_var (by with_unfolding_all exact rfl) ?_ | with_reducible refine go_c ?_ | with_reducible refine go_int ?_ | with_reducible refine go_add ?_ | with_reducible refine go_sub ?_ | with_reducible refine go_q0 ?_ | with_reducible refine go_q1 ?_ | with_reducible refine go_p0 ?_ | with_reducible refine go_p1 ?_ | with_reducible refine go_tup2 ?_ | with_reducible refine go_tup3 ?_ | with_reducible refine go_tup4 ?_ | with_reducible refine go_seq ?_ | with_reducible refine go_asg ?_ | with_reducible refine go_gn (Nat.le_of_ble_eq_true (by with_unfolding_all exact rfl)) ?_ | with_reducible refine go_gT2 ?_ | with_reducible refine go_gTP ?_ | with_reducible refine go_gT4 ?_ | with_reducible refine go_neg1 ?_ | with_reducible refine go_ret ?_ | with_reducible refine go_par2 ?_ | with_reducible refine go_par3x ?_ | with_reducible refine go_exp ?_)
      refine ⟨_, rfl, ll, rfl, some (.int (1 + (i : Int))), some (.int (nearR ((g : Rat) * valP q))), some (.int d), ?_, ?_⟩
      · rw [hh, ← hd]; rfl
      · rw [hr, ← hd, Int.add_comm (i : Int) 1]; rfl
    refine go_if (go_bB ?_)
    repeat (first | with_reducible refine go_op ?_ | with_reducible refine go_call ?_ | with_reducible refine go_cons ?_ | with_reducible refine go_nil ?_ | with_reducible refine go_var (by with_unfolding_all exact rfl) ?_ | with_reducible refine go_c ?_ | with_reducible refine go_int ?_ | with_reducible refine go_add ?_ | with_reducible refine go_sub ?_ | with_reducible refine go_q0 ?_ | with_reducible refine go_q1 ?_ | with_reducible refine go_p0 ?_ | with_reducible refine go_p1 ?_ | with_reducible refine go_tup2 ?_ | with_reducible refine go_tup3 ?_ | with_reducible refine go_tup4 ?_ | with_reducible refine go_seq ?_ | with_reducible refine go_asg ?_ | with_reducible refine go_gn (Nat.le_of_ble_eq_true (by with_unfolding_all exact rfl)) ?_ | with_reducible refine go_gT2 ?_ | with_reducible refine go_gTP ?_ | with_reducible refine go_gT4 ?_ | with_reducible refine go_neg1 ?_ | with_reducible refine go_ret ?_ | with_reducible refine go_par2 ?_ | with_reducible refine go_par3x ?_ | with_reducible refine go_exp ?_)
    refine go_eqI ⟨_, rfl, go_ifP (fun c => ?_) fun c => ?_⟩
    · refine go_var (by with_unfolding_all exact rfl) (go_gn (by show 8 < 9; decide) ?_)
      exact go_fin (fin _ (by unfold dueI; rw [if_pos (by omega)])) fun _ _ q => q
    · repeat (first | with_reducible refine go_op ?_ | with_reducible refine go_call ?_ | with_reducible refine go_cons ?_ | with_reducible refine go_nil ?_ | with_reducible refine go_var (by with_unfolding_all exact rfl) ?_ | with_reducible refine go_c ?_ | with_reducible refine go_int ?_ | with_reducible refine go_add ?_ | with_reducible refine go_sub ?_ | with_reducible refine go_q0 ?_ | with_reducible refine go_q1 ?_ | with_reducible refine go_p0 ?_ | with_reducible refine go_p1 ?_ | with_reducible refine go_tup2 ?_ | with_reducible refine go_tup3 ?_ | with_reducible refine go_tup4 ?_ | with_reducible refine go_seq ?_ | with_reducible refine go_asg ?_ | with_reducible refine go_gn (Nat.le_of_ble_eq_true (by with_unfolding_all exact rfl)) ?_ | with_reducible refine go_gT2 ?_ | with_reducible refine go_gTP ?_ | with_reducible refine go_gT4 ?_ | with_reducible refine go_neg1 ?_ | with_reducible refine go_ret ?_ | with_reducible refine go_par2 ?_ | with_reducible refine go_par3x ?_ | with_reducible refine go_exp ?_)
      refine go_max ?_
      repeat (first | with_reducible refine go_op ?_ | with_reducible refine go_call ?_ | with_reducible refine go_cons ?_ | with_reducible refine go_nil ?_ | with_reducible refine go_var (by with_unfolding_all exact rfl) ?_ | with_reducible refine go_c ?_ | with_reducible refine go_int ?_ | with_reducible refine go_add ?_ | with_reducible refine go_sub ?_ | with_reducible refine go_q0 ?_ | with_reducible refine go_q1 ?_ | with_reducible refine go_p0 ?_ | with_reducible refine go_p1 ?_ | with_reducible refine go_tup2 ?_ | with_reducible refine go_tup3 ?_ | with_reducible refine go_tup4 ?_ | with_reducible refine go_seq ?_ | with_reducible refine go_asg ?_ | with_reducible refine go_gn (Nat.le_of_ble_eq_true (by with_unfolding_all exact rfl)) ?_ | with_reducible refine go_gT2 ?_ | with_reducible refine go_gTP ?_ | with_reducible refine go_gT4 ?_ | with_reducible refine go_neg1 ?_ | with_reducible refine go_ret ?_ | with_reducible refine go_par2 ?_ | with_reducible refine go_par3x ?_ | with_reducible refine go_exp ?_)
      refine go_min ?_
      refine go_gn (by show 8 < 9; decide) ?_
      exact go_fin (fin _ (by unfold dueI; rw [if_neg (by omega)])) fun _ _ q => q
  · rintro ls s ⟨a, b, c, rfl, rfl⟩
    rw [rngD_len, show (k + 1 - 1).toNat = k.toNat by omega]
    repeat (first | with_reducible refine go_op ?_ | with_reducible refine go_call ?_ | with_reducible refine go_cons ?_ | with_reducible refine go_nil ?_ | with_reducible refine go_var (by with_unfolding_all exact rfl) ?_ | with_reducible refine go_c ?_ | with_reducible refine go_int ?_ | with_reducible refine go_add ?_ | with_reducible refine go_sub ?_ | with_reducible refine go_q0 ?_ | with_reducible refine go_q1 ?_ | with_reducible refine go_p0 ?_ | with_reducible refine go_p1 ?_ | with_reducible refine go_tup2 ?_ | with_reducible refine go_tup3 ?_ | with_reducible refine go_tup4 ?_ | with_reducible refine go_seq ?_ | with_reducible refine go_asg ?_ | with_reducible refine go_gn (Nat.le_of_ble_eq_true (by with_unfolding_all exact rfl)) ?_ | with_reducible refine go_gT2 ?_ | with_reducible refine go_gTP ?_ | with_reducible refine go_gT4 ?_ | with_reducible refine go_neg1 ?_ | with_reducible refine go_ret ?_ | with_reducible refine go_par2 ?_ | with_reducible refine go_par3x ?_ | with_reducible refine go_exp ?_)
    refine go_tupL rfl ⟨_, rfl, rfl⟩

/-! ### better, the rate, the years, the mean year -/
def betI (x y : Rat) : Int := if x = y then 0 else if y < x then 1 else 2
theorem lessQ {p q : Rat} {n m : Nat} (hp : SmQ n p) (hq : SmQ m q) (hn : n + m ≤ 7000) (h : P (.bl (decide (p < q))) st) : Go (m_is_less [enQ p, enQ q] st) P := go_less (RatV.q hp) (RatV.q hq) hn h
theorem c_better (he : RatV n e r) (h0 : 0 ≤ r) (h1 : r ≤ 1) (hn : n ≤ 14) {A B : List (Int × Int)} (hA : ∀ x ∈ A, RowOk x) (lA : A.length ≤ 10) (hB : ∀ x ∈ B, RowOk x) (lB : B.length ≤ 10) (h : P (.int (betI (worthR r A) (worthR r B))) st) : Go (m_better [.cst (A.map enP), .cst (B.map enP), e] st) P := by
  obtain ⟨q, rfl, hq, rfl⟩ := he.ex
  refine go_fr (show lessLB 0 [_, _, _] = true by simp [lessLB, lessB, less_enP]; rfl) (go_fn ?_) rfl h
  show Go (sSeq _ _ [some (.cst (A.map enP)), some (.cst (B.map enP)), some (enP q), none, none] []) _
  repeat (first | with_reducible refine go_op ?_ | with_reducible refine go_call ?_ | with_reducible refine go_cons ?_ | with_reducible refine go_nil ?_ | with_reducible refine go_var (by with_unfolding_all exact rfl) ?_ | with_reducible refine go_c ?_ | with_reducible refine go_int ?_ | with_reducible refine go_add ?_ | with_reducible refine go_sub ?_ | with_reducible refine go_q0 ?_ | with_reducible refine go_q1 ?_ | with_reducible refine go_p0 ?_ | with_reducible refine go_p1 ?_ | with_reducible refine go_tup2 ?_ | with_reducible refine go_tup3 ?_ | with_reducible refine go_tup4 ?_ | with_reducible refine go_seq ?_ | with_reducible refine go_asg ?_ | with_reducible refine go_gn (Nat.le_of_ble_eq_true (by with_unfolding_all exact rfl)) ?_ | with_reducible refine go_gT2 ?_ | with_reducible refine go_gTP ?_ | with_reducible refine go_gT4 ?_ | with_reducible refine go_neg1 ?_ | with_reducible refine go_ret ?_ | with_reducible refine go_par2 ?_ | with_reducible refine go_par3x ?_ | with_reducible refine go_exp ?_)
  refine c_worth he h0 h1 hn hA lA ?_
  repeat (first | with_reducible refine go_op ?_ | with_reducible refine go_call ?_ | with_reducible refine go_cons ?_ | with_reducible refine go_nil ?_ | with_reducible refine go_var (by with_unfolding_all exact rfl) ?_ | with_reducible refine go_c ?_ | with_reducible refine go_int ?_ | with_reducible refine go_add ?_ | with_reducible refine go_sub ?_ | with_reducible refine go_q0 ?_ | with_reducible refine go_q1 ?_ | with_reducible refine go_p0 ?_ | with_reducible refine go_p1 ?_ | with_reducible refine go_tup2 ?_ | with_reducible refine go_tup3 ?_ | with_reducible refine go_tup4 ?_ | with_reducible refine go_seq ?_ | with_reducible refine go_asg ?_ | with_reducible refine go_gn (Nat.le_of_ble_eq_true (by with_unfolding_all exact rfl)) ?_ | with_reducible refine go_gT2 ?_ | with_reducible refine go_gTP ?_ | with_reducible refine go_gT4 ?_ | with_reducible refine go_neg1 ?_ | with_reducible refine go_ret ?_ | with_reducible refine go_par2 ?_ | with_reducible refine go_par3x ?_ | with_reducible refine go_exp ?_)
  refine c_worth he h0 h1 hn hB lB ?_
  have sA := worth_sm he.sm hn h0 hA lA
  have sB := worth_sm he.sm hn h0 hB lB
  unfold betI
  generalize worthR (valP q) A = a at *
  generalize worthR (valP q) B = b at *
  refine ⟨by show 3 < 5; decide, by show 4 < 5; decide, go_ret (go_if (go_bB ?_))⟩
  repeat (first | with_reducible refine go_op ?_ | with_reducible refine go_call ?_ | with_reducible refine go_cons ?_ | with_reducible refine go_nil ?_ | with_reducible refine go_var (by with_unfolding_all exact rfl) ?_ | with_reducible refine go_c ?_ | with_reducible refine go_int ?_ | with_reducible refine go_add ?_ | with_reducible refine go_sub ?_ | with_reducible refine go_q0 ?_ | with_reducible refine go_q1 ?_ | with_reducible refine go_p0 ?_ | with_reducible refine go_p1 ?_ | with_reducible refine go_tup2 ?_ | with_reducible refine go_tup3 ?_ | with_reducible refine go_tup4 ?_ | with_reducible refine go_seq ?_ | with_reducible refine go_asg ?_ | with_reducible refine go_gn (Nat.le_of_ble_eq_true (by with_unfolding_all exact rfl)) ?_ | with_reducible refine go_gT2 ?_ | with_reducible refine go_gTP ?_ | with_reducible refine go_gT4 ?_ | with_reducible refine go_neg1 ?_ | with_reducible refine go_ret ?_ | with_reducible refine go_par2 ?_ | with_reducible refine go_par3x ?_ | with_reducible refine go_exp ?_)
  refine go_eqQ ⟨_, rfl, go_ifP (fun c => ?_) fun c => ?_⟩
  · repeat (first | with_reducible refine go_op ?_ | with_reducible refine go_call ?_ | with_reducible refine go_cons ?_ | with_reducible refine go_nil ?_ | with_reducible refine go_var (by with_unfolding_all exact rfl) ?_ | with_reducible refine go_c ?_ | with_reducible refine go_int ?_ | with_reducible refine go_add ?_ | with_reducible refine go_sub ?_ | with_reducible refine go_q0 ?_ | with_reducible refine go_q1 ?_ | with_reducible refine go_p0 ?_ | with_reducible refine go_p1 ?_ | with_reducible refine go_tup2 ?_ | with_reducible refine go_tup3 ?_ | with_reducible refine go_tup4 ?_ | with_reducible refine go_seq ?_ | with_reducible refine go_asg ?_ | with_reducible refine go_gn (Nat.le_of_ble_eq_true (by with_unfolding_all exact rfl)) ?_ | with_reducible refine go_gT2 ?_ | with_reducible refine go_gTP ?_ | with_reducible refine go_gT4 ?_ | with_reducible refine go_neg1 ?_ | with_reducible refine go_ret ?_ | with_reducible refine go_par2 ?_ | with_reducible refine go_par3x ?_ | with_reducible refine go_exp ?_)
    rw [if_pos c]
    exact ⟨_, rfl, rfl⟩
  · rw [if_neg c]
    refine go_if (go_bB ?_)
    repeat (first | with_reducible refine go_op ?_ | with_reducible refine go_call ?_ | with_reducible refine go_cons ?_ | with_reducible refine go_nil ?_ | with_reducible refine go_var (by with_unfolding_all exact rfl) ?_ | with_reducible refine go_c ?_ | with_reducible refine go_int ?_ | with_reducible refine go_add ?_ | with_reducible refine go_sub ?_ | with_reducible refine go_q0 ?_ | with_reducible refine go_q1 ?_ | with_reducible refine go_p0 ?_ | with_reducible refine go_p1 ?_ | with_reducible refine go_tup2 ?_ | with_reducible refine go_tup3 ?_ | with_reducible refine go_tup4 ?_ | with_reducible refine go_seq ?_ | with_reducible refine go_asg ?_ | with_reducible refine go_gn (Nat.le_of_ble_eq_true (by with_unfolding_all exact rfl)) ?_ | with_reducible refine go_gT2 ?_ | with_reducible refine go_gTP ?_ | with_reducible refine go_gT4 ?_ | with_reducible refine go_neg1 ?_ | with_reducible refine go_ret ?_ | with_reducible refine go_par2 ?_ | with_reducible refine go_par3x ?_ | with_reducible refine go_exp ?_)
    refine lessQ sB sA (by omega) ⟨_, rfl, go_ifP (fun c => ?_) fun c => ?_⟩
    · rw [if_pos c]
      repeat (first | with_reducible refine go_op ?_ | with_reducible refine go_call ?_ | with_reducible refine go_cons ?_ | with_reducible refine go_nil ?_ | with_reducible refine go_var (by with_unfolding_all exact rfl) ?_ | with_reducible refine go_c ?_ | with_reducible refine go_int ?_ | with_reducible refine go_add ?_ | with_reducible refine go_sub ?_ | with_reducible refine go_q0 ?_ | with_reducible refine go_q1 ?_ | with_reducible refine go_p0 ?_ | with_reducible refine go_p1 ?_ | with_reducible refine go_tup2 ?_ | with_reducible refine go_tup3 ?_ | with_reducible refine go_tup4 ?_ | with_reducible refine go_seq ?_ | with_reducible refine go_asg ?_ | with_reducible refine go_gn (Nat.le_of_ble_eq_true (by with_unfolding_all exact rfl)) ?_ | with_reducible refine go_gT2 ?_ | with_reducible refine go_gTP ?_ | with_reducible refine go_gT4 ?_ | with_reducible refine go_neg1 ?_ | with_reducible refine go_ret ?_ | with_reducible refine go_par2 ?_ | with_reducible refine go_par3x ?_ | with_reducible refine go_exp ?_)
      exact ⟨_, rfl, rfl⟩
    · rw [if_neg c]
      repeat (first | with_reducible refine go_op ?_ | with_reducible refine go_call ?_ | with_reducible refine go_cons ?_ | with_reducible refine go_nil ?_ | with_reducible refine go_var (by with_unfolding_all exact rfl) ?_ | with_reducible refine go_c ?_ | with_reducible refine go_int ?_ | with_reducible refine go_add ?_ | with_reducible refine go_sub ?_ | with_reducible refine go_q0 ?_ | with_reducible refine go_q1 ?_ | with_reducible refine go_p0 ?_ | with_reducible refine go_p1 ?_ | with_reducible refine go_tup2 ?_ | with_reducible refine go_tup3 ?_ | with_reducible refine go_tup4 ?_ | with_reducible refine go_seq ?_ | with_reducible refine go_asg ?_ | with_reducible refine go_gn (Nat.le_of_ble_eq_true (by with_unfolding_all exact rfl)) ?_ | with_reducible refine go_gT2 ?_ | with_reducible refine go_gTP ?_ | with_reducible refine go_gT4 ?_ | with_reducible refine go_neg1 ?_ | with_reducible refine go_ret ?_ | with_reducible refine go_par2 ?_ | with_reducible refine go_par3x ?_ | with_reducible refine go_exp ?_)
      exact ⟨_, rfl, rfl⟩
def foundD : Option Nat → Dv
  | some k => .int (k : Int)
  | none => .non
def noMore (A : List (Int × Int)) (j : Nat) : Bool := decide (worthR ((j : Int) / (1000 : Int)) A ≤ 0)
theorem part_bd {j : Nat} (h : j ≤ 1000) : (0 : Rat) ≤ ((j : Int) : Rat) / ((1000 : Int) : Rat) ∧ ((j : Int) : Rat) / ((1000 : Int) : Rat) ≤ 1 := by
  have c := cast_pos (show (0 : Int) < 1000 by decide)
  refine ⟨?_, ?_⟩
  · refine Rat.not_lt.mp fun h => ?_
    rw [Rat.div_lt_iff c] at h
    have := Rat.intCast_le_intCast.mpr (show (0 : Int) ≤ (j : Int) by omega)
    grind
  · refine Rat.not_lt.mp fun h => ?_
    rw [Rat.lt_div_iff c] at h
    have := Rat.intCast_le_intCast.mpr (show (j : Int) ≤ 1000 by omega)
    grind
theorem part_sm {j : Nat} (h : j ≤ 1000) : SmQ 10 (((j : Int) : Rat) / ((1000 : Int) : Rat)) := smQ_div (by omega) (by decide) (by decide)
theorem c_rate {m : Int} (m0 : 0 ≤ m) (m1 : m ≤ 1000) {A : List (Int × Int)} (hA : ∀ x ∈ A, RowOk x) (lA : A.length ≤ 10) (h : P (foundD ((List.range (m.toNat + 1)).find? (noMore A))) st) : Go (m_rate_of [.cst (A.map enP), .int m] st) P := by
  refine go_fr (show lessLB 0 [_, _] = true by simp [lessLB, lessB, less_enP]) (go_fn ?_) (by cases (List.range (m.toNat + 1)).find? (noMore A) <;> rfl) h
  show Go (sSeq _ _ [some (.cst (A.map enP)), some (.int m), none] []) _
  refine go_guard (go_chK (go_var (by with_unfolding_all exact rfl) ⟨rfl, rfl⟩) m0 m1 ⟨rfl, ?_⟩)
  repeat (first | with_reducible refine go_op ?_ | with_reducible refine go_call ?_ | with_reducible refine go_cons ?_ | with_reducible refine go_nil ?_ | with_reducible refine go_var (by with_unfolding_all exact rfl) ?_ | with_reducible refine go_c ?_ | with_reducible refine go_int ?_ | with_reducible refine go_add ?_ | with_reducible refine go_sub ?_ | with_reducible refine go_q0 ?_ | with_reducible refine go_q1 ?_ | with_reducible refine go_p0 ?_ | with_reducible refine go_p1 ?_ | with_reducible refine go_tup2 ?_ | with_reducible refine go_tup3 ?_ | with_reducible refine go_tup4 ?_ | with_reducible refine go_seq ?_ | with_reducible refine go_asg ?_ | with_reducible refine go_gn (Nat.le_of_ble_eq_true (by with_unfolding_all exact rfl)) ?_ | with_reducible refine go_gT2 ?_ | with_reducible refine go_gTP ?_ | with_reducible refine go_gT4 ?_ | with_reducible refine go_neg1 ?_ | with_reducible refine go_ret ?_ | with_reducible refine go_par2 ?_ | with_reducible refine go_par3x ?_ | with_reducible refine go_exp ?_)
  refine go_for (go_wR1 ?_)
  repeat (first | with_reducible refine go_op ?_ | with_reducible refine go_call ?_ | with_reducible refine go_cons ?_ | with_reducible refine go_nil ?_ | with_reducible refine go_var (by with_unfolding_all exact rfl) ?_ | with_reducible refine go_c ?_ | with_reducible refine go_int ?_ | with_reducible refine go_add ?_ | with_reducible refine go_sub ?_ | with_reducible refine go_q0 ?_ | with_reducible refine go_q1 ?_ | with_reducible refine go_p0 ?_ | with_reducible refine go_p1 ?_ | with_reducible refine go_tup2 ?_ | with_reducible refine go_tup3 ?_ | with_reducible refine go_tup4 ?_ | with_reducible refine go_seq ?_ | with_reducible refine go_asg ?_ | with_reducible refine go_gn (Nat.le_of_ble_eq_true (by with_unfolding_all exact rfl)) ?_ | with_reducible refine go_gT2 ?_ | with_reducible refine go_gTP ?_ | with_reducible refine go_gT4 ?_ | with_reducible refine go_neg1 ?_ | with_reducible refine go_ret ?_ | with_reducible refine go_par2 ?_ | with_reducible refine go_par3x ?_ | with_reducible refine go_exp ?_)
  refine ⟨m + 1, rfl, by omega, by omega, fun K hK => ⟨_, hK, fun i ls s => (∃ x, ls = [some (.cst (A.map enP)), some (.int m), x]) ∧ ∀ j, j < i → noMore A j = false, ⟨⟨none, rfl⟩, fun j h => absurd h (Nat.not_lt_zero _)⟩, ?_, ?_⟩⟩
  · rintro i ls s hi ⟨⟨x, rfl⟩, H⟩
    have hi : i < m.toNat + 1 := by rw [rngD_len] at hi; omega
    have hd : ∀ h, (rngD 0 (m + 1).toNat)[i]'h = .int (i : Int) := fun h => by simp [rngD]
    rw [hd]
    repeat (first | with_reducible refine go_op ?_ | with_reducible refine go_call ?_ | with_reducible refine go_cons ?_ | with_reducible refine go_nil ?_ | with_reducible refine go_var (by with_unfolding_all exact rfl) ?_ | with_reducible refine go_c ?_ | with_reducible refine go_int ?_ | with_reducible refine go_add ?_ | with_reducible refine go_sub ?_ | with_reducible refine go_q0 ?_ | with_reducible refine go_q1 ?_ | with_reducible refine go_p0 ?_ | with_reducible refine go_p1 ?_ | with_reducible refine go_tup2 ?_ | with_reducible refine go_tup3 ?_ | with_reducible refine go_tup4 ?_ | with_reducible refine go_seq ?_ | with_reducible refine go_asg ?_ | with_reducible refine go_gn (Nat.le_of_ble_eq_true (by with_unfolding_all exact rfl)) ?_ | with_reducible refine go_gT2 ?_ | with_reducible refine go_gTP ?_ | with_reducible refine go_gT4 ?_ | with_reducible refine go_neg1 ?_ | with_reducible refine go_ret ?_ | with_reducible refine go_par2 ?_ | with_reducible refine go_par3x ?_ | with_reducible refine go_exp ?_)
    refine go_sif (go_bB ?_)
    repeat (first | with_reducible refine go_op ?_ | with_reducible refine go_call ?_ | with_reducible refine go_cons ?_ | with_reducible refine go_nil ?_ | with_reducible refine go_var (by with_unfolding_all exact rfl) ?_ | with_reducible refine go_c ?_ | with_reducible refine go_int ?_ | with_reducible refine go_add ?_ | with_reducible refine go_sub ?_ | with_reducible refine go_q0 ?_ | with_reducible refine go_q1 ?_ | with_reducible refine go_p0 ?_ | with_reducible refine go_p1 ?_ | with_reducible refine go_tup2 ?_ | with_reducible refine go_tup3 ?_ | with_reducible refine go_tup4 ?_ | with_reducible refine go_seq ?_ | with_reducible refine go_asg ?_ | with_reducible refine go_gn (Nat.le_of_ble_eq_true (by with_unfolding_all exact rfl)) ?_ | with_reducible refine go_gT2 ?_ | with_reducible refine go_gTP ?_ | with_reducible refine go_gT4 ?_ | with_reducible refine go_neg1 ?_ | with_reducible refine go_ret ?_ | with_reducible refine go_par2 ?_ | with_reducible refine go_par3x ?_ | with_reducible refine go_exp ?_)
    refine go_rat ratF_A 10 (by omega) (by decide) (by decide) (by decide) ?_
    repeat (first | with_reducible refine go_op ?_ | with_reducible refine go_call ?_ | with_reducible refine go_cons ?_ | with_reducible refine go_nil ?_ | with_reducible refine go_var (by with_unfolding_all exact rfl) ?_ | with_reducible refine go_c ?_ | with_reducible refine go_int ?_ | with_reducible refine go_add ?_ | with_reducible refine go_sub ?_ | with_reducible refine go_q0 ?_ | with_reducible refine go_q1 ?_ | with_reducible refine go_p0 ?_ | with_reducible refine go_p1 ?_ | with_reducible refine go_tup2 ?_ | with_reducible refine go_tup3 ?_ | with_reducible refine go_tup4 ?_ | with_reducible refine go_seq ?_ | with_reducible refine go_asg ?_ | with_reducible refine go_gn (Nat.le_of_ble_eq_true (by with_unfolding_all exact rfl)) ?_ | with_reducible refine go_gT2 ?_ | with_reducible refine go_gTP ?_ | with_reducible refine go_gT4 ?_ | with_reducible refine go_neg1 ?_ | with_reducible refine go_ret ?_ | with_reducible refine go_par2 ?_ | with_reducible refine go_par3x ?_ | with_reducible refine go_exp ?_)
    refine c_worth (RatV.q (part_sm (by omega))) (part_bd (by omega)).1 (part_bd (by omega)).2 (by omega) hA lA ?_
    repeat (first | with_reducible refine go_op ?_ | with_reducible refine go_call ?_ | with_reducible refine go_cons ?_ | with_reducible refine go_nil ?_ | with_reducible refine go_var (by with_unfolding_all exact rfl) ?_ | with_reducible refine go_c ?_ | with_reducible refine go_int ?_ | with_reducible refine go_add ?_ | with_reducible refine go_sub ?_ | with_reducible refine go_q0 ?_ | with_reducible refine go_q1 ?_ | with_reducible refine go_p0 ?_ | with_reducible refine go_p1 ?_ | with_reducible refine go_tup2 ?_ | with_reducible refine go_tup3 ?_ | with_reducible refine go_tup4 ?_ | with_reducible refine go_seq ?_ | with_reducible refine go_asg ?_ | with_reducible refine go_gn (Nat.le_of_ble_eq_true (by with_unfolding_all exact rfl)) ?_ | with_reducible refine go_gT2 ?_ | with_reducible refine go_gTP ?_ | with_reducible refine go_gT4 ?_ | with_reducible refine go_neg1 ?_ | with_reducible refine go_ret ?_ | with_reducible refine go_par2 ?_ | with_reducible refine go_par3x ?_ | with_reducible refine go_exp ?_)
    refine go_le ⟨_, rfl, go_ifP (fun c => ?_) fun c => ?_⟩
    · have c : noMore A i = true := decide_eq_true (num_le0.mp c)
      repeat (first | with_reducible refine go_op ?_ | with_reducible refine go_call ?_ | with_reducible refine go_cons ?_ | with_reducible refine go_nil ?_ | with_reducible refine go_var (by with_unfolding_all exact rfl) ?_ | with_reducible refine go_c ?_ | with_reducible refine go_int ?_ | with_reducible refine go_add ?_ | with_reducible refine go_sub ?_ | with_reducible refine go_q0 ?_ | with_reducible refine go_q1 ?_ | with_reducible refine go_p0 ?_ | with_reducible refine go_p1 ?_ | with_reducible refine go_tup2 ?_ | with_reducible refine go_tup3 ?_ | with_reducible refine go_tup4 ?_ | with_reducible refine go_seq ?_ | with_reducible refine go_asg ?_ | with_reducible refine go_gn (Nat.le_of_ble_eq_true (by with_unfolding_all exact rfl)) ?_ | with_reducible refine go_gT2 ?_ | with_reducible refine go_gTP ?_ | with_reducible refine go_gT4 ?_ | with_reducible refine go_neg1 ?_ | with_reducible refine go_ret ?_ | with_reducible refine go_par2 ?_ | with_reducible refine go_par3x ?_ | with_reducible refine go_exp ?_)
      refine ⟨_, rfl, ?_⟩
      rw [find_first (by omega) c H]
      rfl
    · have c : noMore A i = false := decide_eq_false fun h => c (num_le0.mpr h)
      refine go_snil ⟨⟨_, rfl⟩, fun j hj => ?_⟩
      by_cases e : j = i
      · rw [e]; exact c
      · exact H j (by omega)
  · rintro ls s ⟨⟨x, rfl⟩, H⟩
    rw [rngD_len] at H
    repeat (first | with_reducible refine go_op ?_ | with_reducible refine go_call ?_ | with_reducible refine go_cons ?_ | with_reducible refine go_nil ?_ | with_reducible refine go_var (by with_unfolding_all exact rfl) ?_ | with_reducible refine go_c ?_ | with_reducible refine go_int ?_ | with_reducible refine go_add ?_ | with_reducible refine go_sub ?_ | with_reducible refine go_q0 ?_ | with_reducible refine go_q1 ?_ | with_reducible refine go_p0 ?_ | with_reducible refine go_p1 ?_ | with_reducible refine go_tup2 ?_ | with_reducible refine go_tup3 ?_ | with_reducible refine go_tup4 ?_ | with_reducible refine go_seq ?_ | with_reducible refine go_asg ?_ | with_reducible refine go_gn (Nat.le_of_ble_eq_true (by with_unfolding_all exact rfl)) ?_ | with_reducible refine go_gT2 ?_ | with_reducible refine go_gTP ?_ | with_reducible refine go_gT4 ?_ | with_reducible refine go_neg1 ?_ | with_reducible refine go_ret ?_ | with_reducible refine go_par2 ?_ | with_reducible refine go_par3x ?_ | with_reducible refine go_exp ?_)
    refine ⟨_, rfl, ?_⟩
    rw [find_no fun j hj => H j (by omega)]
    rfl
def there (p g : Int) (r : Rat) (k : Nat) : Bool := !decide ((p : Rat) * (1 + r) ^ k < (g : Rat))
theorem c_years (he : RatV n e r) (hn : n ≤ 14) (h0 : 0 ≤ r) (h1 : r ≤ 1) {p g : Int} (hp : p.natAbs < 2 ^ 20) (p1 : 1 ≤ p) (hg : g.natAbs < 2 ^ 20) (g1 : 1 ≤ g) (h : P (foundD ((List.range 101).find? (there p g r))) st) : Go (m_years_to [.int p, .int g, e] st) P := by
  obtain ⟨q, rfl, hq, rfl⟩ := he.ex
  refine go_fr rfl (go_fn ?_) (by cases (List.range 101).find? (there p g (valP q)) <;> rfl) h
  show Go (sSeq _ _ [some (.int p), some (.int g), some (enP q), none, none] []) _
  repeat (first | with_reducible refine go_op ?_ | with_reducible refine go_call ?_ | with_reducible refine go_cons ?_ | with_reducible refine go_nil ?_ | with_reducible refine go_var (by with_unfolding_all exact rfl) ?_ | with_reducible refine go_c ?_ | with_reducible refine go_int ?_ | with_reducible refine go_add ?_ | with_reducible refine go_sub ?_ | with_reducible refine go_q0 ?_ | with_reducible refine go_q1 ?_ | with_reducible refine go_p0 ?_ | with_reducible refine go_p1 ?_ | with_reducible refine go_tup2 ?_ | with_reducible refine go_tup3 ?_ | with_reducible refine go_tup4 ?_ | with_reducible refine go_seq ?_ | with_reducible refine go_asg ?_ | with_reducible refine go_gn (Nat.le_of_ble_eq_true (by with_unfolding_all exact rfl)) ?_ | with_reducible refine go_gT2 ?_ | with_reducible refine go_gTP ?_ | with_reducible refine go_gT4 ?_ | with_reducible refine go_neg1 ?_ | with_reducible refine go_ret ?_ | with_reducible refine go_par2 ?_ | with_reducible refine go_par3x ?_ | with_reducible refine go_exp ?_)
  refine c_check he h0 h1 (by omega) ?_
  refine go_guard (go_bB ?_)
  repeat (first | with_reducible refine go_op ?_ | with_reducible refine go_call ?_ | with_reducible refine go_cons ?_ | with_reducible refine go_nil ?_ | with_reducible refine go_var (by with_unfolding_all exact rfl) ?_ | with_reducible refine go_c ?_ | with_reducible refine go_int ?_ | with_reducible refine go_add ?_ | with_reducible refine go_sub ?_ | with_reducible refine go_q0 ?_ | with_reducible refine go_q1 ?_ | with_reducible refine go_p0 ?_ | with_reducible refine go_p1 ?_ | with_reducible refine go_tup2 ?_ | with_reducible refine go_tup3 ?_ | with_reducible refine go_tup4 ?_ | with_reducible refine go_seq ?_ | with_reducible refine go_asg ?_ | with_reducible refine go_gn (Nat.le_of_ble_eq_true (by with_unfolding_all exact rfl)) ?_ | with_reducible refine go_gT2 ?_ | with_reducible refine go_gTP ?_ | with_reducible refine go_gT4 ?_ | with_reducible refine go_neg1 ?_ | with_reducible refine go_ret ?_ | with_reducible refine go_par2 ?_ | with_reducible refine go_par3x ?_ | with_reducible refine go_exp ?_)
  refine go_min ?_
  repeat (first | with_reducible refine go_op ?_ | with_reducible refine go_call ?_ | with_reducible refine go_cons ?_ | with_reducible refine go_nil ?_ | with_reducible refine go_var (by with_unfolding_all exact rfl) ?_ | with_reducible refine go_c ?_ | with_reducible refine go_int ?_ | with_reducible refine go_add ?_ | with_reducible refine go_sub ?_ | with_reducible refine go_q0 ?_ | with_reducible refine go_q1 ?_ | with_reducible refine go_p0 ?_ | with_reducible refine go_p1 ?_ | with_reducible refine go_tup2 ?_ | with_reducible refine go_tup3 ?_ | with_reducible refine go_tup4 ?_ | with_reducible refine go_seq ?_ | with_reducible refine go_asg ?_ | with_reducible refine go_gn (Nat.le_of_ble_eq_true (by with_unfolding_all exact rfl)) ?_ | with_reducible refine go_gT2 ?_ | with_reducible refine go_gTP ?_ | with_reducible refine go_gT4 ?_ | with_reducible refine go_neg1 ?_ | with_reducible refine go_ret ?_ | with_reducible refine go_par2 ?_ | with_reducible refine go_par3x ?_ | with_reducible refine go_exp ?_)
  refine go_lt ⟨_, rfl, decide_eq_false (by omega), ?_⟩
  repeat (first | with_reducible refine go_op ?_ | with_reducible refine go_call ?_ | with_reducible refine go_cons ?_ | with_reducible refine go_nil ?_ | with_reducible refine go_var (by with_unfolding_all exact rfl) ?_ | with_reducible refine go_c ?_ | with_reducible refine go_int ?_ | with_reducible refine go_add ?_ | with_reducible refine go_sub ?_ | with_reducible refine go_q0 ?_ | with_reducible refine go_q1 ?_ | with_reducible refine go_p0 ?_ | with_reducible refine go_p1 ?_ | with_reducible refine go_tup2 ?_ | with_reducible refine go_tup3 ?_ | with_reducible refine go_tup4 ?_ | with_reducible refine go_seq ?_ | with_reducible refine go_asg ?_ | with_reducible refine go_gn (Nat.le_of_ble_eq_true (by with_unfolding_all exact rfl)) ?_ | with_reducible refine go_gT2 ?_ | with_reducible refine go_gTP ?_ | with_reducible refine go_gT4 ?_ | with_reducible refine go_neg1 ?_ | with_reducible refine go_ret ?_ | with_reducible refine go_par2 ?_ | with_reducible refine go_par3x ?_ | with_reducible refine go_exp ?_)
  refine go_for (go_wR1 ?_)
  repeat (first | with_reducible refine go_op ?_ | with_reducible refine go_call ?_ | with_reducible refine go_cons ?_ | with_reducible refine go_nil ?_ | with_reducible refine go_var (by with_unfolding_all exact rfl) ?_ | with_reducible refine go_c ?_ | with_reducible refine go_int ?_ | with_reducible refine go_add ?_ | with_reducible refine go_sub ?_ | with_reducible refine go_q0 ?_ | with_reducible refine go_q1 ?_ | with_reducible refine go_p0 ?_ | with_reducible refine go_p1 ?_ | with_reducible refine go_tup2 ?_ | with_reducible refine go_tup3 ?_ | with_reducible refine go_tup4 ?_ | with_reducible refine go_seq ?_ | with_reducible refine go_asg ?_ | with_reducible refine go_gn (Nat.le_of_ble_eq_true (by with_unfolding_all exact rfl)) ?_ | with_reducible refine go_gT2 ?_ | with_reducible refine go_gTP ?_ | with_reducible refine go_gT4 ?_ | with_reducible refine go_neg1 ?_ | with_reducible refine go_ret ?_ | with_reducible refine go_par2 ?_ | with_reducible refine go_par3x ?_ | with_reducible refine go_exp ?_)
  refine ⟨_, rfl, by decide, by decide, fun K hK => ⟨_, hK, fun i ls s => (∃ x, ls = [some (.int p), some (.int g), some (enP q), some (enQ ((p : Rat) * (1 + valP q) ^ i)), x]) ∧ ∀ j, j < i → there p g (valP q) j = false, ⟨⟨none, ?_⟩, fun j h => absurd h (Nat.not_lt_zero _)⟩, ?_, ?_⟩⟩
  · rw [Rat.pow_zero, Rat.mul_one]; rfl
  · rintro i ls s hi ⟨⟨x, rfl⟩, H⟩
    have hi : i < 101 := by rw [rngD_len] at hi; exact hi
    have hd : ∀ h, (rngD 0 (100 + 1 : Int).toNat)[i]'h = .int (i : Int) := fun h => by simp [rngD]
    rw [hd]
    have b : (1 + n + 1) * i ≤ 16 * 100 := Nat.mul_le_mul (by omega) (by omega)
    have one := (SmQ.one (n := 1)).add he.sm
    have sm : SmQ (20 + ((1 + n + 1) * i + 1)) ((p : Rat) * (1 + valP q) ^ i) := (smQ_int hp).mul (one.pow i)
    repeat (first | with_reducible refine go_op ?_ | with_reducible refine go_call ?_ | with_reducible refine go_cons ?_ | with_reducible refine go_nil ?_ | with_reducible refine go_var (by with_unfolding_all exact rfl) ?_ | with_reducible refine go_c ?_ | with_reducible refine go_int ?_ | with_reducible refine go_add ?_ | with_reducible refine go_sub ?_ | with_reducible refine go_q0 ?_ | with_reducible refine go_q1 ?_ | with_reducible refine go_p0 ?_ | with_reducible refine go_p1 ?_ | with_reducible refine go_tup2 ?_ | with_reducible refine go_tup3 ?_ | with_reducible refine go_tup4 ?_ | with_reducible refine go_seq ?_ | with_reducible refine go_asg ?_ | with_reducible refine go_gn (Nat.le_of_ble_eq_true (by with_unfolding_all exact rfl)) ?_ | with_reducible refine go_gT2 ?_ | with_reducible refine go_gTP ?_ | with_reducible refine go_gT4 ?_ | with_reducible refine go_neg1 ?_ | with_reducible refine go_ret ?_ | with_reducible refine go_par2 ?_ | with_reducible refine go_par3x ?_ | with_reducible refine go_exp ?_)
    refine go_sif (go_not (go_bB ?_))
    repeat (first | with_reducible refine go_op ?_ | with_reducible refine go_call ?_ | with_reducible refine go_cons ?_ | with_reducible refine go_nil ?_ | with_reducible refine go_var (by with_unfolding_all exact rfl) ?_ | with_reducible refine go_c ?_ | with_reducible refine go_int ?_ | with_reducible refine go_add ?_ | with_reducible refine go_sub ?_ | with_reducible refine go_q0 ?_ | with_reducible refine go_q1 ?_ | with_reducible refine go_p0 ?_ | with_reducible refine go_p1 ?_ | with_reducible refine go_tup2 ?_ | with_reducible refine go_tup3 ?_ | with_reducible refine go_tup4 ?_ | with_reducible refine go_seq ?_ | with_reducible refine go_asg ?_ | with_reducible refine go_gn (Nat.le_of_ble_eq_true (by with_unfolding_all exact rfl)) ?_ | with_reducible refine go_gT2 ?_ | with_reducible refine go_gTP ?_ | with_reducible refine go_gT4 ?_ | with_reducible refine go_neg1 ?_ | with_reducible refine go_ret ?_ | with_reducible refine go_par2 ?_ | with_reducible refine go_par3x ?_ | with_reducible refine go_exp ?_)
    refine go_less (RatV.q sm) (RatV.i (n := 20) hg) (by omega) ⟨_, rfl, go_iff (fun c => ?_) fun c => ?_⟩
    · have c : there p g (valP q) i = true := c
      repeat (first | with_reducible refine go_op ?_ | with_reducible refine go_call ?_ | with_reducible refine go_cons ?_ | with_reducible refine go_nil ?_ | with_reducible refine go_var (by with_unfolding_all exact rfl) ?_ | with_reducible refine go_c ?_ | with_reducible refine go_int ?_ | with_reducible refine go_add ?_ | with_reducible refine go_sub ?_ | with_reducible refine go_q0 ?_ | with_reducible refine go_q1 ?_ | with_reducible refine go_p0 ?_ | with_reducible refine go_p1 ?_ | with_reducible refine go_tup2 ?_ | with_reducible refine go_tup3 ?_ | with_reducible refine go_tup4 ?_ | with_reducible refine go_seq ?_ | with_reducible refine go_asg ?_ | with_reducible refine go_gn (Nat.le_of_ble_eq_true (by with_unfolding_all exact rfl)) ?_ | with_reducible refine go_gT2 ?_ | with_reducible refine go_gTP ?_ | with_reducible refine go_gT4 ?_ | with_reducible refine go_neg1 ?_ | with_reducible refine go_ret ?_ | with_reducible refine go_par2 ?_ | with_reducible refine go_par3x ?_ | with_reducible refine go_exp ?_)
      refine ⟨_, rfl, ?_⟩
      rw [find_first (by omega) c H]
      rfl
    · have c : there p g (valP q) i = false := c
      refine go_snil ?_
      repeat (first | with_reducible refine go_op ?_ | with_reducible refine go_call ?_ | with_reducible refine go_cons ?_ | with_reducible refine go_nil ?_ | with_reducible refine go_var (by with_unfolding_all exact rfl) ?_ | with_reducible refine go_c ?_ | with_reducible refine go_int ?_ | with_reducible refine go_add ?_ | with_reducible refine go_sub ?_ | with_reducible refine go_q0 ?_ | with_reducible refine go_q1 ?_ | with_reducible refine go_p0 ?_ | with_reducible refine go_p1 ?_ | with_reducible refine go_tup2 ?_ | with_reducible refine go_tup3 ?_ | with_reducible refine go_tup4 ?_ | with_reducible refine go_seq ?_ | with_reducible refine go_asg ?_ | with_reducible refine go_gn (Nat.le_of_ble_eq_true (by with_unfolding_all exact rfl)) ?_ | with_reducible refine go_gT2 ?_ | with_reducible refine go_gTP ?_ | with_reducible refine go_gT4 ?_ | with_reducible refine go_neg1 ?_ | with_reducible refine go_ret ?_ | with_reducible refine go_par2 ?_ | with_reducible refine go_par3x ?_ | with_reducible refine go_exp ?_)
      refine o_plus.2 _ _ _ _ _ _ _ _ RatV.one he (by omega) ?_
      repeat (first | with_reducible refine go_op ?_ | with_reducible refine go_call ?_ | with_reducible refine go_cons ?_ | with_reducible refine go_nil ?_ | with_reducible refine go_var (by with_unfolding_all exact rfl) ?_ | with_reducible refine go_c ?_ | with_reducible refine go_int ?_ | with_reducible refine go_add ?_ | with_reducible refine go_sub ?_ | with_reducible refine go_q0 ?_ | with_reducible refine go_q1 ?_ | with_reducible refine go_p0 ?_ | with_reducible refine go_p1 ?_ | with_reducible refine go_tup2 ?_ | with_reducible refine go_tup3 ?_ | with_reducible refine go_tup4 ?_ | with_reducible refine go_seq ?_ | with_reducible refine go_asg ?_ | with_reducible refine go_gn (Nat.le_of_ble_eq_true (by with_unfolding_all exact rfl)) ?_ | with_reducible refine go_gT2 ?_ | with_reducible refine go_gTP ?_ | with_reducible refine go_gT4 ?_ | with_reducible refine go_neg1 ?_ | with_reducible refine go_ret ?_ | with_reducible refine go_par2 ?_ | with_reducible refine go_par3x ?_ | with_reducible refine go_exp ?_)
      refine o_times.2 _ _ _ _ _ _ _ _ (RatV.q sm) (RatV.q one) (by omega) ?_
      repeat (first | with_reducible refine go_op ?_ | with_reducible refine go_call ?_ | with_reducible refine go_cons ?_ | with_reducible refine go_nil ?_ | with_reducible refine go_var (by with_unfolding_all exact rfl) ?_ | with_reducible refine go_c ?_ | with_reducible refine go_int ?_ | with_reducible refine go_add ?_ | with_reducible refine go_sub ?_ | with_reducible refine go_q0 ?_ | with_reducible refine go_q1 ?_ | with_reducible refine go_p0 ?_ | with_reducible refine go_p1 ?_ | with_reducible refine go_tup2 ?_ | with_reducible refine go_tup3 ?_ | with_reducible refine go_tup4 ?_ | with_reducible refine go_seq ?_ | with_reducible refine go_asg ?_ | with_reducible refine go_gn (Nat.le_of_ble_eq_true (by with_unfolding_all exact rfl)) ?_ | with_reducible refine go_gT2 ?_ | with_reducible refine go_gTP ?_ | with_reducible refine go_gT4 ?_ | with_reducible refine go_neg1 ?_ | with_reducible refine go_ret ?_ | with_reducible refine go_par2 ?_ | with_reducible refine go_par3x ?_ | with_reducible refine go_exp ?_)
      refine ⟨⟨some (.int (i : Int)), ?_⟩, fun j hj => ?_⟩
      · rw [Rat.pow_succ, ← Rat.mul_assoc]; rfl
      · by_cases e : j = i
        · rw [e]; exact c
        · exact H j (by omega)
  · rintro ls s ⟨⟨x, rfl⟩, H⟩
    rw [rngD_len] at H
    repeat (first | with_reducible refine go_op ?_ | with_reducible refine go_call ?_ | with_reducible refine go_cons ?_ | with_reducible refine go_nil ?_ | with_reducible refine go_var (by with_unfolding_all exact rfl) ?_ | with_reducible refine go_c ?_ | with_reducible refine go_int ?_ | with_reducible refine go_add ?_ | with_reducible refine go_sub ?_ | with_reducible refine go_q0 ?_ | with_reducible refine go_q1 ?_ | with_reducible refine go_p0 ?_ | with_reducible refine go_p1 ?_ | with_reducible refine go_tup2 ?_ | with_reducible refine go_tup3 ?_ | with_reducible refine go_tup4 ?_ | with_reducible refine go_seq ?_ | with_reducible refine go_asg ?_ | with_reducible refine go_gn (Nat.le_of_ble_eq_true (by with_unfolding_all exact rfl)) ?_ | with_reducible refine go_gT2 ?_ | with_reducible refine go_gTP ?_ | with_reducible refine go_gT4 ?_ | with_reducible refine go_neg1 ?_ | with_reducible refine go_ret ?_ | with_reducible refine go_par2 ?_ | with_reducible refine go_par3x ?_ | with_reducible refine go_exp ?_)
    refine ⟨_, rfl, ?_⟩
    exact congrArg foundD (find_no fun j hj => H j hj).symm
def EvOk (x : Int × Int) : Prop := 0 ≤ x.1 ∧ x.1 ≤ 8 ∧ 0 ≤ x.2 ∧ x.2 ≤ 30
def whI (A : List (Int × Int)) : Int := (A.map fun x => x.2).sum
def myI (A : List (Int × Int)) : Int := (A.map fun x => x.1 * x.2).sum
theorem ev_mul {x : Int × Int} (h : EvOk x) : 0 ≤ x.1 * x.2 ∧ x.1 * x.2 ≤ 240 := ⟨Int.mul_nonneg h.1 h.2.2.1, Int.le_trans (Int.mul_le_mul h.2.1 h.2.2.2 h.2.2.1 (by decide)) (by decide)⟩
theorem sum_bd {α : Type} {f : α → Int} {B : Nat} : ∀ {l : List α}, (∀ x ∈ l, 0 ≤ f x ∧ f x ≤ B) → 0 ≤ (l.map f).sum ∧ (l.map f).sum ≤ (B * l.length : Nat)
  | [], _ => ⟨by simp, by simp⟩
  | x :: l, h => by
    have a := h x (List.mem_cons_self ..)
    have b := sum_bd (l := l) fun y hy => h y (List.mem_cons_of_mem x hy)
    rw [List.map_cons, List.sum_cons, List.length_cons, Nat.mul_add]
    omega
section
variable {A : List (Int × Int)} (hA : ∀ x ∈ A, EvOk x) (lA : A.length ≤ 10)
include hA lA
theorem wh_bd : 0 ≤ whI A ∧ whI A ≤ 300 := by
  have := sum_bd (f := fun x : Int × Int => x.2) (B := 30) (l := A) fun x hx => ⟨(hA x hx).2.2.1, (hA x hx).2.2.2⟩
  unfold whI
  omega
theorem my_bd : 0 ≤ myI A ∧ myI A ≤ 2400 := by
  have := sum_bd (f := fun x : Int × Int => x.1 * x.2) (B := 240) (l := A) fun x hx => ev_mul (hA x hx)
  unfold myI
  omega
theorem ev_head {PS' : Fl × Ls → Sto → Prop} (h : PS' (.nx, [some (.cst (A.map enP)), none, none, some (.int (whI A))]) []) : Go (sAsg (eGen (wSeq (eVar 0)) gdSum (gT [(gN 1), (gN 2)]) bYes (eVar 2) [1, 2]) (gN 3) [some (.cst (A.map enP)), none, none, none] []) PS' := by
  refine (go_asg (go_genSum A enP (fun x => x.2) 30 (by decide) (fun x hx => by have := hA x hx; have := this.2.2; omega) (by omega) (go_wSeqC ?_) (fun x hx => ?_) ?_))
  · repeat (first | with_reducible refine go_op ?_ | with_reducible refine go_call ?_ | with_reducible refine go_cons ?_ | with_reducible refine go_nil ?_ | with_reducible refine go_var (by with_unfolding_all exact rfl) ?_ | with_reducible refine go_c ?_ | with_reducible refine go_int ?_ | with_reducible refine go_add ?_ | with_reducible refine go_sub ?_ | with_reducible refine go_q0 ?_ | with_reducible refine go_q1 ?_ | with_reducible refine go_p0 ?_ | with_reducible refine go_p1 ?_ | with_reducible refine go_tup2 ?_ | with_reducible refine go_tup3 ?_ | with_reducible refine go_tup4 ?_ | with_reducible refine go_seq ?_ | with_reducible refine go_asg ?_ | with_reducible refine go_gn (Nat.le_of_ble_eq_true (by with_unfolding_all exact rfl)) ?_ | with_reducible refine go_gT2 ?_ | with_reducible refine go_gTP ?_ | with_reducible refine go_gT4 ?_ | with_reducible refine go_neg1 ?_ | with_reducible refine go_ret ?_ | with_reducible refine go_par2 ?_ | with_reducible refine go_par3x ?_ | with_reducible refine go_exp ?_)
    exact ⟨_, rfl, fun k hk => ⟨rfl, hk⟩⟩
  · repeat (first | with_reducible refine go_op ?_ | with_reducible refine go_call ?_ | with_reducible refine go_cons ?_ | with_reducible refine go_nil ?_ | with_reducible refine go_var (by with_unfolding_all exact rfl) ?_ | with_reducible refine go_c ?_ | with_reducible refine go_int ?_ | with_reducible refine go_add ?_ | with_reducible refine go_sub ?_ | with_reducible refine go_q0 ?_ | with_reducible refine go_q1 ?_ | with_reducible refine go_p0 ?_ | with_reducible refine go_p1 ?_ | with_reducible refine go_tup2 ?_ | with_reducible refine go_tup3 ?_ | with_reducible refine go_tup4 ?_ | with_reducible refine go_seq ?_ | with_reducible refine go_asg ?_ | with_reducible refine go_gn (Nat.le_of_ble_eq_true (by with_unfolding_all exact rfl)) ?_ | with_reducible refine go_gT2 ?_ | with_reducible refine go_gTP ?_ | with_reducible refine go_gT4 ?_ | with_reducible refine go_neg1 ?_ | with_reducible refine go_ret ?_ | with_reducible refine go_par2 ?_ | with_reducible refine go_par3x ?_ | with_reducible refine go_exp ?_)
    exact ⟨rfl, go_var (i := 2) rfl ⟨rfl, rfl⟩⟩
  · repeat (first | with_reducible refine go_op ?_ | with_reducible refine go_call ?_ | with_reducible refine go_cons ?_ | with_reducible refine go_nil ?_ | with_reducible refine go_var (by with_unfolding_all exact rfl) ?_ | with_reducible refine go_c ?_ | with_reducible refine go_int ?_ | with_reducible refine go_add ?_ | with_reducible refine go_sub ?_ | with_reducible refine go_q0 ?_ | with_reducible refine go_q1 ?_ | with_reducible refine go_p0 ?_ | with_reducible refine go_p1 ?_ | with_reducible refine go_tup2 ?_ | with_reducible refine go_tup3 ?_ | with_reducible refine go_tup4 ?_ | with_reducible refine go_seq ?_ | with_reducible refine go_asg ?_ | with_reducible refine go_gn (Nat.le_of_ble_eq_true (by with_unfolding_all exact rfl)) ?_ | with_reducible refine go_gT2 ?_ | with_reducible refine go_gTP ?_ | with_reducible refine go_gT4 ?_ | with_reducible refine go_neg1 ?_ | with_reducible refine go_ret ?_ | with_reducible refine go_par2 ?_ | with_reducible refine go_par3x ?_ | with_reducible refine go_exp ?_)
    exact h
theorem c_even (hw : 0 < whI A) (h : P (enQ ((myI A : Rat) / (whI A : Rat))) st) : Go (m_even_out [.cst (A.map enP)] st) P := by
  refine go_fr (show lessLB 0 [_] = true by simp [lessLB, lessB, less_enP]) (go_fn ?_) rfl h
  refine go_seq (ev_head hA lA ?_)
  refine go_guard (go_orF (go_bB ?_))
  repeat (first | with_reducible refine go_op ?_ | with_reducible refine go_call ?_ | with_reducible refine go_cons ?_ | with_reducible refine go_nil ?_ | with_reducible refine go_var (by with_unfolding_all exact rfl) ?_ | with_reducible refine go_c ?_ | with_reducible refine go_int ?_ | with_reducible refine go_add ?_ | with_reducible refine go_sub ?_ | with_reducible refine go_q0 ?_ | with_reducible refine go_q1 ?_ | with_reducible refine go_p0 ?_ | with_reducible refine go_p1 ?_ | with_reducible refine go_tup2 ?_ | with_reducible refine go_tup3 ?_ | with_reducible refine go_tup4 ?_ | with_reducible refine go_seq ?_ | with_reducible refine go_asg ?_ | with_reducible refine go_gn (Nat.le_of_ble_eq_true (by with_unfolding_all exact rfl)) ?_ | with_reducible refine go_gT2 ?_ | with_reducible refine go_gTP ?_ | with_reducible refine go_gT4 ?_ | with_reducible refine go_neg1 ?_ | with_reducible refine go_ret ?_ | with_reducible refine go_par2 ?_ | with_reducible refine go_par3x ?_ | with_reducible refine go_exp ?_)
  refine go_lt ⟨_, rfl, decide_eq_false (by omega), go_bB ?_⟩
  refine go_any A enP (fun x => decide (x.2 < 0)) (go_wSeqC ?_) (fun x hx => ?_) ⟨_, rfl, ?_, ?_⟩
  · repeat (first | with_reducible refine go_op ?_ | with_reducible refine go_call ?_ | with_reducible refine go_cons ?_ | with_reducible refine go_nil ?_ | with_reducible refine go_var (by with_unfolding_all exact rfl) ?_ | with_reducible refine go_c ?_ | with_reducible refine go_int ?_ | with_reducible refine go_add ?_ | with_reducible refine go_sub ?_ | with_reducible refine go_q0 ?_ | with_reducible refine go_q1 ?_ | with_reducible refine go_p0 ?_ | with_reducible refine go_p1 ?_ | with_reducible refine go_tup2 ?_ | with_reducible refine go_tup3 ?_ | with_reducible refine go_tup4 ?_ | with_reducible refine go_seq ?_ | with_reducible refine go_asg ?_ | with_reducible refine go_gn (Nat.le_of_ble_eq_true (by with_unfolding_all exact rfl)) ?_ | with_reducible refine go_gT2 ?_ | with_reducible refine go_gTP ?_ | with_reducible refine go_gT4 ?_ | with_reducible refine go_neg1 ?_ | with_reducible refine go_ret ?_ | with_reducible refine go_par2 ?_ | with_reducible refine go_par3x ?_ | with_reducible refine go_exp ?_)
    exact ⟨_, rfl, fun k hk => ⟨rfl, hk⟩⟩
  · repeat (first | with_reducible refine go_op ?_ | with_reducible refine go_call ?_ | with_reducible refine go_cons ?_ | with_reducible refine go_nil ?_ | with_reducible refine go_var (by with_unfolding_all exact rfl) ?_ | with_reducible refine go_c ?_ | with_reducible refine go_int ?_ | with_reducible refine go_add ?_ | with_reducible refine go_sub ?_ | with_reducible refine go_q0 ?_ | with_reducible refine go_q1 ?_ | with_reducible refine go_p0 ?_ | with_reducible refine go_p1 ?_ | with_reducible refine go_tup2 ?_ | with_reducible refine go_tup3 ?_ | with_reducible refine go_tup4 ?_ | with_reducible refine go_seq ?_ | with_reducible refine go_asg ?_ | with_reducible refine go_gn (Nat.le_of_ble_eq_true (by with_unfolding_all exact rfl)) ?_ | with_reducible refine go_gT2 ?_ | with_reducible refine go_gTP ?_ | with_reducible refine go_gT4 ?_ | with_reducible refine go_neg1 ?_ | with_reducible refine go_ret ?_ | with_reducible refine go_par2 ?_ | with_reducible refine go_par3x ?_ | with_reducible refine go_exp ?_)
    refine ⟨rfl, ?_⟩
    repeat (first | with_reducible refine go_op ?_ | with_reducible refine go_call ?_ | with_reducible refine go_cons ?_ | with_reducible refine go_nil ?_ | with_reducible refine go_var (by with_unfolding_all exact rfl) ?_ | with_reducible refine go_c ?_ | with_reducible refine go_int ?_ | with_reducible refine go_add ?_ | with_reducible refine go_sub ?_ | with_reducible refine go_q0 ?_ | with_reducible refine go_q1 ?_ | with_reducible refine go_p0 ?_ | with_reducible refine go_p1 ?_ | with_reducible refine go_tup2 ?_ | with_reducible refine go_tup3 ?_ | with_reducible refine go_tup4 ?_ | with_reducible refine go_seq ?_ | with_reducible refine go_asg ?_ | with_reducible refine go_gn (Nat.le_of_ble_eq_true (by with_unfolding_all exact rfl)) ?_ | with_reducible refine go_gT2 ?_ | with_reducible refine go_gTP ?_ | with_reducible refine go_gT4 ?_ | with_reducible refine go_neg1 ?_ | with_reducible refine go_ret ?_ | with_reducible refine go_par2 ?_ | with_reducible refine go_par3x ?_ | with_reducible refine go_exp ?_)
    exact go_lt ⟨rfl, rfl⟩
  · rw [List.any_eq_false]
    intro x hx c
    have := (hA x hx).2.2.1
    have c := of_decide_eq_true c
    omega
  · repeat (first | with_reducible refine go_op ?_ | with_reducible refine go_call ?_ | with_reducible refine go_cons ?_ | with_reducible refine go_nil ?_ | with_reducible refine go_var (by with_unfolding_all exact rfl) ?_ | with_reducible refine go_c ?_ | with_reducible refine go_int ?_ | with_reducible refine go_add ?_ | with_reducible refine go_sub ?_ | with_reducible refine go_q0 ?_ | with_reducible refine go_q1 ?_ | with_reducible refine go_p0 ?_ | with_reducible refine go_p1 ?_ | with_reducible refine go_tup2 ?_ | with_reducible refine go_tup3 ?_ | with_reducible refine go_tup4 ?_ | with_reducible refine go_seq ?_ | with_reducible refine go_asg ?_ | with_reducible refine go_gn (Nat.le_of_ble_eq_true (by with_unfolding_all exact rfl)) ?_ | with_reducible refine go_gT2 ?_ | with_reducible refine go_gTP ?_ | with_reducible refine go_gT4 ?_ | with_reducible refine go_neg1 ?_ | with_reducible refine go_ret ?_ | with_reducible refine go_par2 ?_ | with_reducible refine go_par3x ?_ | with_reducible refine go_exp ?_)
    refine go_genSum A enP (fun x => x.1 * x.2) 240 (by decide) (fun x hx => by have := ev_mul (hA x hx); omega) (by omega) (go_wSeqC ?_) (fun x hx => ?_) ?_
    · repeat (first | with_reducible refine go_op ?_ | with_reducible refine go_call ?_ | with_reducible refine go_cons ?_ | with_reducible refine go_nil ?_ | with_reducible refine go_var (by with_unfolding_all exact rfl) ?_ | with_reducible refine go_c ?_ | with_reducible refine go_int ?_ | with_reducible refine go_add ?_ | with_reducible refine go_sub ?_ | with_reducible refine go_q0 ?_ | with_reducible refine go_q1 ?_ | with_reducible refine go_p0 ?_ | with_reducible refine go_p1 ?_ | with_reducible refine go_tup2 ?_ | with_reducible refine go_tup3 ?_ | with_reducible refine go_tup4 ?_ | with_reducible refine go_seq ?_ | with_reducible refine go_asg ?_ | with_reducible refine go_gn (Nat.le_of_ble_eq_true (by with_unfolding_all exact rfl)) ?_ | with_reducible refine go_gT2 ?_ | with_reducible refine go_gTP ?_ | with_reducible refine go_gT4 ?_ | with_reducible refine go_neg1 ?_ | with_reducible refine go_ret ?_ | with_reducible refine go_par2 ?_ | with_reducible refine go_par3x ?_ | with_reducible refine go_exp ?_)
      exact ⟨_, rfl, fun k hk => ⟨rfl, hk⟩⟩
    · repeat (first | with_reducible refine go_op ?_ | with_reducible refine go_call ?_ | with_reducible refine go_cons ?_ | with_reducible refine go_nil ?_ | with_reducible refine go_var (by with_unfolding_all exact rfl) ?_ | with_reducible refine go_c ?_ | with_reducible refine go_int ?_ | with_reducible refine go_add ?_ | with_reducible refine go_sub ?_ | with_reducible refine go_q0 ?_ | with_reducible refine go_q1 ?_ | with_reducible refine go_p0 ?_ | with_reducible refine go_p1 ?_ | with_reducible refine go_tup2 ?_ | with_reducible refine go_tup3 ?_ | with_reducible refine go_tup4 ?_ | with_reducible refine go_seq ?_ | with_reducible refine go_asg ?_ | with_reducible refine go_gn (Nat.le_of_ble_eq_true (by with_unfolding_all exact rfl)) ?_ | with_reducible refine go_gT2 ?_ | with_reducible refine go_gTP ?_ | with_reducible refine go_gT4 ?_ | with_reducible refine go_neg1 ?_ | with_reducible refine go_ret ?_ | with_reducible refine go_par2 ?_ | with_reducible refine go_par3x ?_ | with_reducible refine go_exp ?_)
      refine ⟨rfl, ?_⟩
      repeat (first | with_reducible refine go_op ?_ | with_reducible refine go_call ?_ | with_reducible refine go_cons ?_ | with_reducible refine go_nil ?_ | with_reducible refine go_var (by with_unfolding_all exact rfl) ?_ | with_reducible refine go_c ?_ | with_reducible refine go_int ?_ | with_reducible refine go_add ?_ | with_reducible refine go_sub ?_ | with_reducible refine go_q0 ?_ | with_reducible refine go_q1 ?_ | with_reducible refine go_p0 ?_ | with_reducible refine go_p1 ?_ | with_reducible refine go_tup2 ?_ | with_reducible refine go_tup3 ?_ | with_reducible refine go_tup4 ?_ | with_reducible refine go_seq ?_ | with_reducible refine go_asg ?_ | with_reducible refine go_gn (Nat.le_of_ble_eq_true (by with_unfolding_all exact rfl)) ?_ | with_reducible refine go_gT2 ?_ | with_reducible refine go_gTP ?_ | with_reducible refine go_gT4 ?_ | with_reducible refine go_neg1 ?_ | with_reducible refine go_ret ?_ | with_reducible refine go_par2 ?_ | with_reducible refine go_par3x ?_ | with_reducible refine go_exp ?_)
      refine go_mul (mulx_w 10 10 ?_ ?_ (by decide)) ⟨rfl, rfl⟩
      · have := hA x hx; have := this.1; have := (hA x hx).2.1; omega
      · have := (hA x hx).2.2; omega
    · repeat (first | with_reducible refine go_op ?_ | with_reducible refine go_call ?_ | with_reducible refine go_cons ?_ | with_reducible refine go_nil ?_ | with_reducible refine go_var (by with_unfolding_all exact rfl) ?_ | with_reducible refine go_c ?_ | with_reducible refine go_int ?_ | with_reducible refine go_add ?_ | with_reducible refine go_sub ?_ | with_reducible refine go_q0 ?_ | with_reducible refine go_q1 ?_ | with_reducible refine go_p0 ?_ | with_reducible refine go_p1 ?_ | with_reducible refine go_tup2 ?_ | with_reducible refine go_tup3 ?_ | with_reducible refine go_tup4 ?_ | with_reducible refine go_seq ?_ | with_reducible refine go_asg ?_ | with_reducible refine go_gn (Nat.le_of_ble_eq_true (by with_unfolding_all exact rfl)) ?_ | with_reducible refine go_gT2 ?_ | with_reducible refine go_gTP ?_ | with_reducible refine go_gT4 ?_ | with_reducible refine go_neg1 ?_ | with_reducible refine go_ret ?_ | with_reducible refine go_par2 ?_ | with_reducible refine go_par3x ?_ | with_reducible refine go_exp ?_)
      have a := my_bd hA lA
      have b := wh_bd hA lA
      exact go_rat ratF_A 20 (by show (myI A).natAbs < _; omega) (by omega) (by omega) (by decide) ⟨_, rfl, rfl⟩
theorem x_even (hw : whI A = 0) {PX : Sto → Prop} (h : PX st) : Gx (m_even_out [.cst (A.map enP)] st) 2 PX := by
  refine gx_fr (show lessLB 0 [_] = true by simp [lessLB, lessB, less_enP]) (gx_fn ?_) (c := 2) h
  refine gx_seq2 (ev_head hA lA ⟨rfl, gx_guard (go_or (go_bB ?_))⟩)
  repeat (first | with_reducible refine go_op ?_ | with_reducible refine go_call ?_ | with_reducible refine go_cons ?_ | with_reducible refine go_nil ?_ | with_reducible refine go_var (by with_unfolding_all exact rfl) ?_ | with_reducible refine go_c ?_ | with_reducible refine go_int ?_ | with_reducible refine go_add ?_ | with_reducible refine go_sub ?_ | with_reducible refine go_q0 ?_ | with_reducible refine go_q1 ?_ | with_reducible refine go_p0 ?_ | with_reducible refine go_p1 ?_ | with_reducible refine go_tup2 ?_ | with_reducible refine go_tup3 ?_ | with_reducible refine go_tup4 ?_ | with_reducible refine go_seq ?_ | with_reducible refine go_asg ?_ | with_reducible refine go_gn (Nat.le_of_ble_eq_true (by with_unfolding_all exact rfl)) ?_ | with_reducible refine go_gT2 ?_ | with_reducible refine go_gTP ?_ | with_reducible refine go_gT4 ?_ | with_reducible refine go_neg1 ?_ | with_reducible refine go_ret ?_ | with_reducible refine go_par2 ?_ | with_reducible refine go_par3x ?_ | with_reducible refine go_exp ?_)
  exact go_lt ⟨_, rfl, by rw [decide_eq_true (show whI A < 1 by omega), if_pos rfl]; exact ⟨_, _, rfl, rfl, trivial⟩⟩
end
end
end LW

namespace LW
open PySem L2 R
theorem dat_enP {n : Nat} {x : Int × Int} (h : 1 < n := by decide) : dat n (enP x) = true := by simp [dat, datL, enP]; omega
theorem f12 {c : Nat → Bool} {k : Nat} (h : (List.range 12).find? c = some k) : (List.range 101).find? c = some k := by
  rw [show (101 : Nat) = 12 + 89 from rfl, List.range_add, List.find?_append, h]; rfl
theorem f12n {c : Nat → Bool} {k : Nat} (h : (List.range 12).find? c = none) (e : (List.range 101).find? c = some k) : 12 ≤ k := by
  have h1 := List.find?_range_eq_none.mp h
  have h2 := (List.find?_range_eq_some.mp e).1
  by_cases c1 : 12 ≤ k
  · exact c1
  · have := h1 k (by omega)
    rw [h2] at this
    cases this
section
variable {X : Dv} {i : Nat} {p y : Int} {r : Rat} {A B C : List (Int × Int)} {s : Sto}
abbrev sBlk : SS := (sSeq (sPar 10 11 (aCons (eCall m_each_year (aCons (eVar 2) (aCons (eVar 3) (aCons (eVar 4) aNil)))) (aCons (eTup (aCons (eVar 2) (aCons (eC (.int 1)) aNil))) aNil)))
  (sSeq (sFor (wR1 (aCons (eVar 4) aNil)) (gN 5) (sAsg (eCall m__law_minus (aCons (eCall m__law_plus (aCons (eVar 11) (aCons (eCall m__law_times (aCons (eVar 11) (aCons (eVar 3) aNil))) aNil))) (aCons (eVar 10) aNil))) (gN 11)))
  (sSeq (sIf (bB (eOp opNe (eVar 11) (eTup (aCons (eC (.int 0)) (aCons (eC (.int 1)) aNil))))) (sRet (eC (.bl false))) sNil)
  (sSeq (sAsg (eTup (aCons (eCall m_plan (aCons (eVar 2) (aCons (eVar 3) (aCons (eVar 4) aNil)))) (aCons (eVar 2) aNil))) (gT [(gN 12), (gN 13)]))
  (sSeq (sAsg (eCall m__law_near (aCons (eVar 10) aNil)) (gN 14))
  (sSeq (sIf (bOr (bB (eOp opNe (eCall fcLen (aCons (eVar 12) aNil)) (eVar 4))) (bOr (bB (eOp opNe (eCall fcSum (aCons (eLc (wSeq (eVar 12)) (nxG (gN 15)) (nxB bYes) (nxE (eOp opIx (eVar 15) (eC (.int 2)))) [15]) aNil)) (eVar 2))) (bB (eOp opNe (eOp opIx (eOp opIx (eVar 12) (eNeg (eC (.int 1)))) (eC (.int 3))) (eC (.int 0)))))) (sRet (eC (.bl false))) sNil)
  (sFor (wEnum (aCons (eVar 12) aNil)) (gT [(gN 5), (gT [(gN 16), (gN 17), (gN 18), (gN 19)])]) (sSeq (sAsg (eIf (bB (eOp opEq (eVar 5) (eOp opSub (eVar 4) (eC (.int 1))))) (eVar 13) (eCall fcMin (aCons (eVar 13) (aCons (eCall fcMax (aCons (eC (.int 0)) (aCons (eOp opSub (eVar 14) (eCall m__law_near (aCons (eCall m__law_times (aCons (eTup (aCons (eVar 13) (aCons (eC (.int 1)) aNil))) (aCons (eVar 3) aNil))) aNil))) aNil))) aNil)))) (gN 20))
  (sSeq (sIf (bB (eOp opNe (eTup (aCons (eVar 16) (aCons (eVar 17) (aCons (eVar 18) (aCons (eVar 19) aNil))))) (eTup (aCons (eOp opAdd (eVar 5) (eC (.int 1))) (aCons (eCall m__law_near (aCons (eCall m__law_times (aCons (eTup (aCons (eVar 13) (aCons (eC (.int 1)) aNil))) (aCons (eVar 3) aNil))) aNil)) (aCons (eVar 20) (aCons (eOp opSub (eVar 13) (eVar 20)) aNil))))))) (sRet (eC (.bl false))) sNil)
  (sAsg (eVar 19) (gN 13)))))))))))
theorem c_blk (hr : SmQ 6 r) (h0 : 0 ≤ r) (h1 : r ≤ 1) (hp : p.natAbs < 2 ^ 20) (p1 : 1 ≤ p) (y1 : 1 ≤ y) (y8 : y ≤ 8) {v5 v7 v8 v9 v10 v11 v12 v13 v14 v15 v16 v17 v18 v19 v20 v21 v22 v23 v24 v25 v26 : Option Dv} : Go (sBlk [some (X), some (.ref i), some (.int p), some (enQ r), some (.int y), v5, some (.cst (A.map enP)), v7, v8, v9, v10, v11, v12, v13, v14, v15, v16, v17, v18, v19, v20, v21, v22, v23, v24, v25, v26] s) fun fr s2 => fr.1 = .nx ∧ s2 = s ∧ ∃ v5 v7 v8 v9 v10 v11 v12 v13 v14 v15 v16 v17 v18 v19 v20 v21 v22 v23 v24 v25 v26, fr.2 = [some (X), some (.ref i), some (.int p), some (enQ r), some (.int y), v5, some (.cst (A.map enP)), v7, v8, v9, v10, v11, v12, v13, v14, v15, v16, v17, v18, v19, v20, v21, v22, v23, v24, v25, v26] := by
  have ps := pay_sm hr (by omega) h0 hp y1 y8
  repeat (first | with_reducible refine go_op ?_ | with_reducible refine go_call ?_ | with_reducible refine go_cons ?_ | with_reducible refine go_nil ?_ | with_reducible refine go_var (by with_unfolding_all exact rfl) ?_ | with_reducible refine go_c ?_ | with_reducible refine go_int ?_ | with_reducible refine go_add ?_ | with_reducible refine go_sub ?_ | with_reducible refine go_q0 ?_ | with_reducible refine go_q1 ?_ | with_reducible refine go_p0 ?_ | with_reducible refine go_p1 ?_ | with_reducible refine go_tup2 ?_ | with_reducible refine go_tup3 ?_ | with_reducible refine go_tup4 ?_ | with_reducible refine go_seq ?_ | with_reducible refine go_asg ?_ | with_reducible refine go_gn (Nat.le_of_ble_eq_true (by with_unfolding_all exact rfl)) ?_ | with_reducible refine go_gT2 ?_ | with_reducible refine go_gTP ?_ | with_reducible refine go_gT4 ?_ | with_reducible refine go_neg1 ?_ | with_reducible refine go_ret ?_ | with_reducible refine go_par2 ?_ | with_reducible refine go_par3x ?_ | with_reducible refine go_exp ?_)
  refine c_each (RatV.q hr) (by omega) h0 h1 hp y1 y8 ?_
  repeat (first | with_reducible refine go_op ?_ | with_reducible refine go_call ?_ | with_reducible refine go_cons ?_ | with_reducible refine go_nil ?_ | with_reducible refine go_var (by with_unfolding_all exact rfl) ?_ | with_reducible refine go_c ?_ | with_reducible refine go_int ?_ | with_reducible refine go_add ?_ | with_reducible refine go_sub ?_ | with_reducible refine go_q0 ?_ | with_reducible refine go_q1 ?_ | with_reducible refine go_p0 ?_ | with_reducible refine go_p1 ?_ | with_reducible refine go_tup2 ?_ | with_reducible refine go_tup3 ?_ | with_reducible refine go_tup4 ?_ | with_reducible refine go_seq ?_ | with_reducible refine go_asg ?_ | with_reducible refine go_gn (Nat.le_of_ble_eq_true (by with_unfolding_all exact rfl)) ?_ | with_reducible refine go_gT2 ?_ | with_reducible refine go_gTP ?_ | with_reducible refine go_gT4 ?_ | with_reducible refine go_neg1 ?_ | with_reducible refine go_ret ?_ | with_reducible refine go_par2 ?_ | with_reducible refine go_par3x ?_ | with_reducible refine go_exp ?_)
  refine ⟨Nat.le_of_ble_eq_true rfl, Nat.le_of_ble_eq_true rfl, ?_⟩
  repeat (first | with_reducible refine go_op ?_ | with_reducible refine go_call ?_ | with_reducible refine go_cons ?_ | with_reducible refine go_nil ?_ | with_reducible refine go_var (by with_unfolding_all exact rfl) ?_ | with_reducible refine go_c ?_ | with_reducible refine go_int ?_ | with_reducible refine go_add ?_ | with_reducible refine go_sub ?_ | with_reducible refine go_q0 ?_ | with_reducible refine go_q1 ?_ | with_reducible refine go_p0 ?_ | with_reducible refine go_p1 ?_ | with_reducible refine go_tup2 ?_ | with_reducible refine go_tup3 ?_ | with_reducible refine go_tup4 ?_ | with_reducible refine go_seq ?_ | with_reducible refine go_asg ?_ | with_reducible refine go_gn (Nat.le_of_ble_eq_true (by with_unfolding_all exact rfl)) ?_ | with_reducible refine go_gT2 ?_ | with_reducible refine go_gTP ?_ | with_reducible refine go_gT4 ?_ | with_reducible refine go_neg1 ?_ | with_reducible refine go_ret ?_ | with_reducible refine go_par2 ?_ | with_reducible refine go_par3x ?_ | with_reducible refine go_exp ?_)
  refine go_for (go_wR1 ?_)
  repeat (first | with_reducible refine go_op ?_ | with_reducible refine go_call ?_ | with_reducible refine go_cons ?_ | with_reducible refine go_nil ?_ | with_reducible refine go_var (by with_unfolding_all exact rfl) ?_ | with_reducible refine go_c ?_ | with_reducible refine go_int ?_ | with_reducible refine go_add ?_ | with_reducible refine go_sub ?_ | with_reducible refine go_q0 ?_ | with_reducible refine go_q1 ?_ | with_reducible refine go_p0 ?_ | with_reducible refine go_p1 ?_ | with_reducible refine go_tup2 ?_ | with_reducible refine go_tup3 ?_ | with_reducible refine go_tup4 ?_ | with_reducible refine go_seq ?_ | with_reducible refine go_asg ?_ | with_reducible refine go_gn (Nat.le_of_ble_eq_true (by with_unfolding_all exact rfl)) ?_ | with_reducible refine go_gT2 ?_ | with_reducible refine go_gTP ?_ | with_reducible refine go_gT4 ?_ | with_reducible refine go_neg1 ?_ | with_reducible refine go_ret ?_ | with_reducible refine go_par2 ?_ | with_reducible refine go_par3x ?_ | with_reducible refine go_exp ?_)
  refine ⟨y, rfl, by omega, by omega, fun K hK => ⟨_, hK, fun j ls s' => s' = s ∧ ∃ v5 v7 v8 v9 v12 v13 v14 v15 v16 v17 v18 v19 v20 v21 v22 v23 v24 v25 v26, ls = [some (X), some (.ref i), some (.int p), some (enQ r), some (.int y), v5, some (.cst (A.map enP)), v7, v8, v9, some (enQ (payR p r y)), some (enQ (leftR p r (payR p r y) j)), v12, v13, v14, v15, v16, v17, v18, v19, v20, v21, v22, v23, v24, v25, v26], ⟨rfl, v5, v7, v8, v9, v12, v13, v14, v15, v16, v17, v18, v19, v20, v21, v22, v23, v24, v25, v26, ?_⟩, ?_, ?_⟩⟩
  · have : leftR p r (payR p r y) 0 = (p : Rat) := by unfold leftR; rw [annR, Rat.pow_zero]; grind
    rw [this]; rfl
  · rintro j ls s' hj ⟨rfl, v5, v7, v8, v9, v12, v13, v14, v15, v16, v17, v18, v19, v20, v21, v22, v23, v24, v25, v26, rfl⟩
    have hj : j < y.toNat := by rw [rngD_len] at hj; exact hj
    have hd : ∀ h, (rngD 0 y.toNat)[j]'h = .int (j : Int) := fun h => by simp [rngD]
    rw [hd]
    have sm := left_sm hr (by omega) hp ps (i := j) (by omega)
    repeat (first | with_reducible refine go_op ?_ | with_reducible refine go_call ?_ | with_reducible refine go_cons ?_ | with_reducible refine go_nil ?_ | with_reducible refine go_var (by with_unfolding_all exact rfl) ?_ | with_reducible refine go_c ?_ | with_reducible refine go_int ?_ | with_reducible refine go_add ?_ | with_reducible refine go_sub ?_ | with_reducible refine go_q0 ?_ | with_reducible refine go_q1 ?_ | with_reducible refine go_p0 ?_ | with_reducible refine go_p1 ?_ | with_reducible refine go_tup2 ?_ | with_reducible refine go_tup3 ?_ | with_reducible refine go_tup4 ?_ | with_reducible refine go_seq ?_ | with_reducible refine go_asg ?_ | with_reducible refine go_gn (Nat.le_of_ble_eq_true (by with_unfolding_all exact rfl)) ?_ | with_reducible refine go_gT2 ?_ | with_reducible refine go_gTP ?_ | with_reducible refine go_gT4 ?_ | with_reducible refine go_neg1 ?_ | with_reducible refine go_ret ?_ | with_reducible refine go_par2 ?_ | with_reducible refine go_par3x ?_ | with_reducible refine go_exp ?_)
    refine l_times.2 _ _ _ _ _ _ _ _ (RatV.q sm) (RatV.q hr) (by omega) ?_
    repeat (first | with_reducible refine go_op ?_ | with_reducible refine go_call ?_ | with_reducible refine go_cons ?_ | with_reducible refine go_nil ?_ | with_reducible refine go_var (by with_unfolding_all exact rfl) ?_ | with_reducible refine go_c ?_ | with_reducible refine go_int ?_ | with_reducible refine go_add ?_ | with_reducible refine go_sub ?_ | with_reducible refine go_q0 ?_ | with_reducible refine go_q1 ?_ | with_reducible refine go_p0 ?_ | with_reducible refine go_p1 ?_ | with_reducible refine go_tup2 ?_ | with_reducible refine go_tup3 ?_ | with_reducible refine go_tup4 ?_ | with_reducible refine go_seq ?_ | with_reducible refine go_asg ?_ | with_reducible refine go_gn (Nat.le_of_ble_eq_true (by with_unfolding_all exact rfl)) ?_ | with_reducible refine go_gT2 ?_ | with_reducible refine go_gTP ?_ | with_reducible refine go_gT4 ?_ | with_reducible refine go_neg1 ?_ | with_reducible refine go_ret ?_ | with_reducible refine go_par2 ?_ | with_reducible refine go_par3x ?_ | with_reducible refine go_exp ?_)
    refine l_plus.2 _ _ _ _ _ _ _ _ (RatV.q sm) (RatV.q (sm.mul hr)) (by omega) ?_
    repeat (first | with_reducible refine go_op ?_ | with_reducible refine go_call ?_ | with_reducible refine go_cons ?_ | with_reducible refine go_nil ?_ | with_reducible refine go_var (by with_unfolding_all exact rfl) ?_ | with_reducible refine go_c ?_ | with_reducible refine go_int ?_ | with_reducible refine go_add ?_ | with_reducible refine go_sub ?_ | with_reducible refine go_q0 ?_ | with_reducible refine go_q1 ?_ | with_reducible refine go_p0 ?_ | with_reducible refine go_p1 ?_ | with_reducible refine go_tup2 ?_ | with_reducible refine go_tup3 ?_ | with_reducible refine go_tup4 ?_ | with_reducible refine go_seq ?_ | with_reducible refine go_asg ?_ | with_reducible refine go_gn (Nat.le_of_ble_eq_true (by with_unfolding_all exact rfl)) ?_ | with_reducible refine go_gT2 ?_ | with_reducible refine go_gTP ?_ | with_reducible refine go_gT4 ?_ | with_reducible refine go_neg1 ?_ | with_reducible refine go_ret ?_ | with_reducible refine go_par2 ?_ | with_reducible refine go_par3x ?_ | with_reducible refine go_exp ?_)
    refine l_minus.2 _ _ _ _ _ _ _ _ (RatV.q (sm.add (sm.mul hr))) (RatV.q ps) (by omega) ?_
    repeat (first | with_reducible refine go_op ?_ | with_reducible refine go_call ?_ | with_reducible refine go_cons ?_ | with_reducible refine go_nil ?_ | with_reducible refine go_var (by with_unfolding_all exact rfl) ?_ | with_reducible refine go_c ?_ | with_reducible refine go_int ?_ | with_reducible refine go_add ?_ | with_reducible refine go_sub ?_ | with_reducible refine go_q0 ?_ | with_reducible refine go_q1 ?_ | with_reducible refine go_p0 ?_ | with_reducible refine go_p1 ?_ | with_reducible refine go_tup2 ?_ | with_reducible refine go_tup3 ?_ | with_reducible refine go_tup4 ?_ | with_reducible refine go_seq ?_ | with_reducible refine go_asg ?_ | with_reducible refine go_gn (Nat.le_of_ble_eq_true (by with_unfolding_all exact rfl)) ?_ | with_reducible refine go_gT2 ?_ | with_reducible refine go_gTP ?_ | with_reducible refine go_gT4 ?_ | with_reducible refine go_neg1 ?_ | with_reducible refine go_ret ?_ | with_reducible refine go_par2 ?_ | with_reducible refine go_par3x ?_ | with_reducible refine go_exp ?_)
    refine ⟨rfl, some (.int (j : Int)), v7, v8, v9, v12, v13, v14, v15, v16, v17, v18, v19, v20, v21, v22, v23, v24, v25, v26, ?_⟩
    rw [← left_step]
    rfl
  · rintro ls s' ⟨rfl, v5, v7, v8, v9, v12, v13, v14, v15, v16, v17, v18, v19, v20, v21, v22, v23, v24, v25, v26, rfl⟩
    rw [rngD_len, left_end h0 y1]
    refine go_guardNe ?_
    repeat (first | with_reducible refine go_op ?_ | with_reducible refine go_call ?_ | with_reducible refine go_cons ?_ | with_reducible refine go_nil ?_ | with_reducible refine go_var (by with_unfolding_all exact rfl) ?_ | with_reducible refine go_c ?_ | with_reducible refine go_int ?_ | with_reducible refine go_add ?_ | with_reducible refine go_sub ?_ | with_reducible refine go_q0 ?_ | with_reducible refine go_q1 ?_ | with_reducible refine go_p0 ?_ | with_reducible refine go_p1 ?_ | with_reducible refine go_tup2 ?_ | with_reducible refine go_tup3 ?_ | with_reducible refine go_tup4 ?_ | with_reducible refine go_seq ?_ | with_reducible refine go_asg ?_ | with_reducible refine go_gn (Nat.le_of_ble_eq_true (by with_unfolding_all exact rfl)) ?_ | with_reducible refine go_gT2 ?_ | with_reducible refine go_gTP ?_ | with_reducible refine go_gT4 ?_ | with_reducible refine go_neg1 ?_ | with_reducible refine go_ret ?_ | with_reducible refine go_par2 ?_ | with_reducible refine go_par3x ?_ | with_reducible refine go_exp ?_)
    refine ⟨rfl, dat_q (r := 0), ?_⟩
    repeat (first | with_reducible refine go_op ?_ | with_reducible refine go_call ?_ | with_reducible refine go_cons ?_ | with_reducible refine go_nil ?_ | with_reducible refine go_var (by with_unfolding_all exact rfl) ?_ | with_reducible refine go_c ?_ | with_reducible refine go_int ?_ | with_reducible refine go_add ?_ | with_reducible refine go_sub ?_ | with_reducible refine go_q0 ?_ | with_reducible refine go_q1 ?_ | with_reducible refine go_p0 ?_ | with_reducible refine go_p1 ?_ | with_reducible refine go_tup2 ?_ | with_reducible refine go_tup3 ?_ | with_reducible refine go_tup4 ?_ | with_reducible refine go_seq ?_ | with_reducible refine go_asg ?_ | with_reducible refine go_gn (Nat.le_of_ble_eq_true (by with_unfolding_all exact rfl)) ?_ | with_reducible refine go_gT2 ?_ | with_reducible refine go_gTP ?_ | with_reducible refine go_gT4 ?_ | with_reducible refine go_neg1 ?_ | with_reducible refine go_ret ?_ | with_reducible refine go_par2 ?_ | with_reducible refine go_par3x ?_ | with_reducible refine go_exp ?_)
    refine c_plan (RatV.q hr) (by omega) h0 h1 hp p1 y1 y8 ?_
    repeat (first | with_reducible refine go_op ?_ | with_reducible refine go_call ?_ | with_reducible refine go_cons ?_ | with_reducible refine go_nil ?_ | with_reducible refine go_var (by with_unfolding_all exact rfl) ?_ | with_reducible refine go_c ?_ | with_reducible refine go_int ?_ | with_reducible refine go_add ?_ | with_reducible refine go_sub ?_ | with_reducible refine go_q0 ?_ | with_reducible refine go_q1 ?_ | with_reducible refine go_p0 ?_ | with_reducible refine go_p1 ?_ | with_reducible refine go_tup2 ?_ | with_reducible refine go_tup3 ?_ | with_reducible refine go_tup4 ?_ | with_reducible refine go_seq ?_ | with_reducible refine go_asg ?_ | with_reducible refine go_gn (Nat.le_of_ble_eq_true (by with_unfolding_all exact rfl)) ?_ | with_reducible refine go_gT2 ?_ | with_reducible refine go_gTP ?_ | with_reducible refine go_gT4 ?_ | with_reducible refine go_neg1 ?_ | with_reducible refine go_ret ?_ | with_reducible refine go_par2 ?_ | with_reducible refine go_par3x ?_ | with_reducible refine go_exp ?_)
    refine c_lnear ps (by omega) ?_
    repeat (first | with_reducible refine go_op ?_ | with_reducible refine go_call ?_ | with_reducible refine go_cons ?_ | with_reducible refine go_nil ?_ | with_reducible refine go_var (by with_unfolding_all exact rfl) ?_ | with_reducible refine go_c ?_ | with_reducible refine go_int ?_ | with_reducible refine go_add ?_ | with_reducible refine go_sub ?_ | with_reducible refine go_q0 ?_ | with_reducible refine go_q1 ?_ | with_reducible refine go_p0 ?_ | with_reducible refine go_p1 ?_ | with_reducible refine go_tup2 ?_ | with_reducible refine go_tup3 ?_ | with_reducible refine go_tup4 ?_ | with_reducible refine go_seq ?_ | with_reducible refine go_asg ?_ | with_reducible refine go_gn (Nat.le_of_ble_eq_true (by with_unfolding_all exact rfl)) ?_ | with_reducible refine go_gT2 ?_ | with_reducible refine go_gTP ?_ | with_reducible refine go_gT4 ?_ | with_reducible refine go_neg1 ?_ | with_reducible refine go_ret ?_ | with_reducible refine go_par2 ?_ | with_reducible refine go_par3x ?_ | with_reducible refine go_exp ?_)
    generalize nearR (payR p r y) = w
    have kp : 0 < y.toNat := by omega
    refine go_guard1 (go_orF (go_neF ?_))
    repeat (first | with_reducible refine go_op ?_ | with_reducible refine go_call ?_ | with_reducible refine go_cons ?_ | with_reducible refine go_nil ?_ | with_reducible refine go_var (by with_unfolding_all exact rfl) ?_ | with_reducible refine go_c ?_ | with_reducible refine go_int ?_ | with_reducible refine go_add ?_ | with_reducible refine go_sub ?_ | with_reducible refine go_q0 ?_ | with_reducible refine go_q1 ?_ | with_reducible refine go_p0 ?_ | with_reducible refine go_p1 ?_ | with_reducible refine go_tup2 ?_ | with_reducible refine go_tup3 ?_ | with_reducible refine go_tup4 ?_ | with_reducible refine go_seq ?_ | with_reducible refine go_asg ?_ | with_reducible refine go_gn (Nat.le_of_ble_eq_true (by with_unfolding_all exact rfl)) ?_ | with_reducible refine go_gT2 ?_ | with_reducible refine go_gTP ?_ | with_reducible refine go_gT4 ?_ | with_reducible refine go_neg1 ?_ | with_reducible refine go_ret ?_ | with_reducible refine go_par2 ?_ | with_reducible refine go_par3x ?_ | with_reducible refine go_exp ?_)
    refine go_lenT ?_
    repeat (first | with_reducible refine go_op ?_ | with_reducible refine go_call ?_ | with_reducible refine go_cons ?_ | with_reducible refine go_nil ?_ | with_reducible refine go_var (by with_unfolding_all exact rfl) ?_ | with_reducible refine go_c ?_ | with_reducible refine go_int ?_ | with_reducible refine go_add ?_ | with_reducible refine go_sub ?_ | with_reducible refine go_q0 ?_ | with_reducible refine go_q1 ?_ | with_reducible refine go_p0 ?_ | with_reducible refine go_p1 ?_ | with_reducible refine go_tup2 ?_ | with_reducible refine go_tup3 ?_ | with_reducible refine go_tup4 ?_ | with_reducible refine go_seq ?_ | with_reducible refine go_asg ?_ | with_reducible refine go_gn (Nat.le_of_ble_eq_true (by with_unfolding_all exact rfl)) ?_ | with_reducible refine go_gT2 ?_ | with_reducible refine go_gTP ?_ | with_reducible refine go_gT4 ?_ | with_reducible refine go_neg1 ?_ | with_reducible refine go_ret ?_ | with_reducible refine go_par2 ?_ | with_reducible refine go_par3x ?_ | with_reducible refine go_exp ?_)
    refine ⟨by simp; omega, dat_int, rfl, go_orF (go_neF ?_)⟩
    repeat (first | with_reducible refine go_op ?_ | with_reducible refine go_call ?_ | with_reducible refine go_cons ?_ | with_reducible refine go_nil ?_ | with_reducible refine go_var (by with_unfolding_all exact rfl) ?_ | with_reducible refine go_c ?_ | with_reducible refine go_int ?_ | with_reducible refine go_add ?_ | with_reducible refine go_sub ?_ | with_reducible refine go_q0 ?_ | with_reducible refine go_q1 ?_ | with_reducible refine go_p0 ?_ | with_reducible refine go_p1 ?_ | with_reducible refine go_tup2 ?_ | with_reducible refine go_tup3 ?_ | with_reducible refine go_tup4 ?_ | with_reducible refine go_seq ?_ | with_reducible refine go_asg ?_ | with_reducible refine go_gn (Nat.le_of_ble_eq_true (by with_unfolding_all exact rfl)) ?_ | with_reducible refine go_gT2 ?_ | with_reducible refine go_gTP ?_ | with_reducible refine go_gT4 ?_ | with_reducible refine go_neg1 ?_ | with_reducible refine go_ret ?_ | with_reducible refine go_par2 ?_ | with_reducible refine go_par3x ?_ | with_reducible refine go_exp ?_)
    refine go_lcM (List.range y.toNat) (planRow w r y.toNat p) (fun j => .int (dueI w r y.toNat j (hereI w r y.toNat p j))) (go_wSeqT ?_) (by rw [List.length_range]; exact Nat.le_trans (show y.toNat ≤ 8 by omega) (by decide)) (fun j hj => ?_) (go_finC ?_)
    · repeat (first | with_reducible refine go_op ?_ | with_reducible refine go_call ?_ | with_reducible refine go_cons ?_ | with_reducible refine go_nil ?_ | with_reducible refine go_var (by with_unfolding_all exact rfl) ?_ | with_reducible refine go_c ?_ | with_reducible refine go_int ?_ | with_reducible refine go_add ?_ | with_reducible refine go_sub ?_ | with_reducible refine go_q0 ?_ | with_reducible refine go_q1 ?_ | with_reducible refine go_p0 ?_ | with_reducible refine go_p1 ?_ | with_reducible refine go_tup2 ?_ | with_reducible refine go_tup3 ?_ | with_reducible refine go_tup4 ?_ | with_reducible refine go_seq ?_ | with_reducible refine go_asg ?_ | with_reducible refine go_gn (Nat.le_of_ble_eq_true (by with_unfolding_all exact rfl)) ?_ | with_reducible refine go_gT2 ?_ | with_reducible refine go_gTP ?_ | with_reducible refine go_gT4 ?_ | with_reducible refine go_neg1 ?_ | with_reducible refine go_ret ?_ | with_reducible refine go_par2 ?_ | with_reducible refine go_par3x ?_ | with_reducible refine go_exp ?_)
      exact ⟨_, rfl, fun k hk => ⟨rfl, hk⟩⟩
    · repeat (first | with_reducible refine go_op ?_ | with_reducible refine go_call ?_ | with_reducible refine go_cons ?_ | with_reducible refine go_nil ?_ | with_reducible refine go_var (by with_unfolding_all exact rfl) ?_ | with_reducible refine go_c ?_ | with_reducible refine go_int ?_ | with_reducible refine go_add ?_ | with_reducible refine go_sub ?_ | with_reducible refine go_q0 ?_ | with_reducible refine go_q1 ?_ | with_reducible refine go_p0 ?_ | with_reducible refine go_p1 ?_ | with_reducible refine go_tup2 ?_ | with_reducible refine go_tup3 ?_ | with_reducible refine go_tup4 ?_ | with_reducible refine go_seq ?_ | with_reducible refine go_asg ?_ | with_reducible refine go_gn (Nat.le_of_ble_eq_true (by with_unfolding_all exact rfl)) ?_ | with_reducible refine go_gT2 ?_ | with_reducible refine go_gTP ?_ | with_reducible refine go_gT4 ?_ | with_reducible refine go_neg1 ?_ | with_reducible refine go_ret ?_ | with_reducible refine go_par2 ?_ | with_reducible refine go_par3x ?_ | with_reducible refine go_exp ?_)
      refine ⟨rfl, ?_⟩
      repeat (first | with_reducible refine go_op ?_ | with_reducible refine go_call ?_ | with_reducible refine go_cons ?_ | with_reducible refine go_nil ?_ | with_reducible refine go_var (by with_unfolding_all exact rfl) ?_ | with_reducible refine go_c ?_ | with_reducible refine go_int ?_ | with_reducible refine go_add ?_ | with_reducible refine go_sub ?_ | with_reducible refine go_q0 ?_ | with_reducible refine go_q1 ?_ | with_reducible refine go_p0 ?_ | with_reducible refine go_p1 ?_ | with_reducible refine go_tup2 ?_ | with_reducible refine go_tup3 ?_ | with_reducible refine go_tup4 ?_ | with_reducible refine go_seq ?_ | with_reducible refine go_asg ?_ | with_reducible refine go_gn (Nat.le_of_ble_eq_true (by with_unfolding_all exact rfl)) ?_ | with_reducible refine go_gT2 ?_ | with_reducible refine go_gTP ?_ | with_reducible refine go_gT4 ?_ | with_reducible refine go_neg1 ?_ | with_reducible refine go_ret ?_ | with_reducible refine go_par2 ?_ | with_reducible refine go_par3x ?_ | with_reducible refine go_exp ?_)
      exact go_ixT (atI_nat (i := 2) rfl) ⟨rfl, rfl⟩
    repeat (first | with_reducible refine go_op ?_ | with_reducible refine go_call ?_ | with_reducible refine go_cons ?_ | with_reducible refine go_nil ?_ | with_reducible refine go_var (by with_unfolding_all exact rfl) ?_ | with_reducible refine go_c ?_ | with_reducible refine go_int ?_ | with_reducible refine go_add ?_ | with_reducible refine go_sub ?_ | with_reducible refine go_q0 ?_ | with_reducible refine go_q1 ?_ | with_reducible refine go_p0 ?_ | with_reducible refine go_p1 ?_ | with_reducible refine go_tup2 ?_ | with_reducible refine go_tup3 ?_ | with_reducible refine go_tup4 ?_ | with_reducible refine go_seq ?_ | with_reducible refine go_asg ?_ | with_reducible refine go_gn (Nat.le_of_ble_eq_true (by with_unfolding_all exact rfl)) ?_ | with_reducible refine go_gT2 ?_ | with_reducible refine go_gTP ?_ | with_reducible refine go_gT4 ?_ | with_reducible refine go_neg1 ?_ | with_reducible refine go_ret ?_ | with_reducible refine go_par2 ?_ | with_reducible refine go_par3x ?_ | with_reducible refine go_exp ?_)
    rw [show (List.range y.toNat).map (fun j => Dv.int (dueI w r y.toNat j (hereI w r y.toNat p j))) = ((List.range y.toNat).map fun j => dueI w r y.toNat j (hereI w r y.toNat p j)).map Dv.int by rw [List.map_map]; rfl]
    refine go_sumC ?_
    repeat (first | with_reducible refine go_op ?_ | with_reducible refine go_call ?_ | with_reducible refine go_cons ?_ | with_reducible refine go_nil ?_ | with_reducible refine go_var (by with_unfolding_all exact rfl) ?_ | with_reducible refine go_c ?_ | with_reducible refine go_int ?_ | with_reducible refine go_add ?_ | with_reducible refine go_sub ?_ | with_reducible refine go_q0 ?_ | with_reducible refine go_q1 ?_ | with_reducible refine go_p0 ?_ | with_reducible refine go_p1 ?_ | with_reducible refine go_tup2 ?_ | with_reducible refine go_tup3 ?_ | with_reducible refine go_tup4 ?_ | with_reducible refine go_seq ?_ | with_reducible refine go_asg ?_ | with_reducible refine go_gn (Nat.le_of_ble_eq_true (by with_unfolding_all exact rfl)) ?_ | with_reducible refine go_gT2 ?_ | with_reducible refine go_gTP ?_ | with_reducible refine go_gT4 ?_ | with_reducible refine go_neg1 ?_ | with_reducible refine go_ret ?_ | with_reducible refine go_par2 ?_ | with_reducible refine go_par3x ?_ | with_reducible refine go_exp ?_)
    refine ⟨by rw [sum_due, here_end kp]; simp, dat_int, rfl, go_neF ?_⟩
    repeat (first | with_reducible refine go_op ?_ | with_reducible refine go_call ?_ | with_reducible refine go_cons ?_ | with_reducible refine go_nil ?_ | with_reducible refine go_var (by with_unfolding_all exact rfl) ?_ | with_reducible refine go_c ?_ | with_reducible refine go_int ?_ | with_reducible refine go_add ?_ | with_reducible refine go_sub ?_ | with_reducible refine go_q0 ?_ | with_reducible refine go_q1 ?_ | with_reducible refine go_p0 ?_ | with_reducible refine go_p1 ?_ | with_reducible refine go_tup2 ?_ | with_reducible refine go_tup3 ?_ | with_reducible refine go_tup4 ?_ | with_reducible refine go_seq ?_ | with_reducible refine go_asg ?_ | with_reducible refine go_gn (Nat.le_of_ble_eq_true (by with_unfolding_all exact rfl)) ?_ | with_reducible refine go_gT2 ?_ | with_reducible refine go_gTP ?_ | with_reducible refine go_gT4 ?_ | with_reducible refine go_neg1 ?_ | with_reducible refine go_ret ?_ | with_reducible refine go_par2 ?_ | with_reducible refine go_par3x ?_ | with_reducible refine go_exp ?_)
    have last : (List.range y.toNat).map (planRow w r y.toNat p) = (List.range (y.toNat - 1)).map (planRow w r y.toNat p) ++ [planRow w r y.toNat p (y.toNat - 1)] := by
      rw [show y.toNat = (y.toNat - 1) + 1 by omega, List.range_succ, List.map_append, show y.toNat - 1 + 1 - 1 = y.toNat - 1 by omega]; rfl
    refine go_ixT (d := planRow w r y.toNat p (y.toNat - 1)) (by rw [last]; exact atI_neg1) ?_
    repeat (first | with_reducible refine go_op ?_ | with_reducible refine go_call ?_ | with_reducible refine go_cons ?_ | with_reducible refine go_nil ?_ | with_reducible refine go_var (by with_unfolding_all exact rfl) ?_ | with_reducible refine go_c ?_ | with_reducible refine go_int ?_ | with_reducible refine go_add ?_ | with_reducible refine go_sub ?_ | with_reducible refine go_q0 ?_ | with_reducible refine go_q1 ?_ | with_reducible refine go_p0 ?_ | with_reducible refine go_p1 ?_ | with_reducible refine go_tup2 ?_ | with_reducible refine go_tup3 ?_ | with_reducible refine go_tup4 ?_ | with_reducible refine go_seq ?_ | with_reducible refine go_asg ?_ | with_reducible refine go_gn (Nat.le_of_ble_eq_true (by with_unfolding_all exact rfl)) ?_ | with_reducible refine go_gT2 ?_ | with_reducible refine go_gTP ?_ | with_reducible refine go_gT4 ?_ | with_reducible refine go_neg1 ?_ | with_reducible refine go_ret ?_ | with_reducible refine go_par2 ?_ | with_reducible refine go_par3x ?_ | with_reducible refine go_exp ?_)
    refine go_ixT (d := .int 0) (atI_nat (i := 3) (by
      have := here_end (w := w) (r := r) (p := p) kp
      rw [show y.toNat = (y.toNat - 1) + 1 by omega] at this
      show some (Dv.int (hereI w r y.toNat p (y.toNat - 1 + 1))) = _
      rw [show y.toNat - 1 + 1 = y.toNat by omega, here_end kp])) ?_
    repeat (first | with_reducible refine go_op ?_ | with_reducible refine go_call ?_ | with_reducible refine go_cons ?_ | with_reducible refine go_nil ?_ | with_reducible refine go_var (by with_unfolding_all exact rfl) ?_ | with_reducible refine go_c ?_ | with_reducible refine go_int ?_ | with_reducible refine go_add ?_ | with_reducible refine go_sub ?_ | with_reducible refine go_q0 ?_ | with_reducible refine go_q1 ?_ | with_reducible refine go_p0 ?_ | with_reducible refine go_p1 ?_ | with_reducible refine go_tup2 ?_ | with_reducible refine go_tup3 ?_ | with_reducible refine go_tup4 ?_ | with_reducible refine go_seq ?_ | with_reducible refine go_asg ?_ | with_reducible refine go_gn (Nat.le_of_ble_eq_true (by with_unfolding_all exact rfl)) ?_ | with_reducible refine go_gT2 ?_ | with_reducible refine go_gTP ?_ | with_reducible refine go_gT4 ?_ | with_reducible refine go_neg1 ?_ | with_reducible refine go_ret ?_ | with_reducible refine go_par2 ?_ | with_reducible refine go_par3x ?_ | with_reducible refine go_exp ?_)
    refine ⟨rfl, dat_int, rfl, ?_⟩
    refine go_for (go_wEnum ?_)
    repeat (first | with_reducible refine go_op ?_ | with_reducible refine go_call ?_ | with_reducible refine go_cons ?_ | with_reducible refine go_nil ?_ | with_reducible refine go_var (by with_unfolding_all exact rfl) ?_ | with_reducible refine go_c ?_ | with_reducible refine go_int ?_ | with_reducible refine go_add ?_ | with_reducible refine go_sub ?_ | with_reducible refine go_q0 ?_ | with_reducible refine go_q1 ?_ | with_reducible refine go_p0 ?_ | with_reducible refine go_p1 ?_ | with_reducible refine go_tup2 ?_ | with_reducible refine go_tup3 ?_ | with_reducible refine go_tup4 ?_ | with_reducible refine go_seq ?_ | with_reducible refine go_asg ?_ | with_reducible refine go_gn (Nat.le_of_ble_eq_true (by with_unfolding_all exact rfl)) ?_ | with_reducible refine go_gT2 ?_ | with_reducible refine go_gTP ?_ | with_reducible refine go_gT4 ?_ | with_reducible refine go_neg1 ?_ | with_reducible refine go_ret ?_ | with_reducible refine go_par2 ?_ | with_reducible refine go_par3x ?_ | with_reducible refine go_exp ?_)
    refine ⟨_, _, rfl, valS_tup, fun K hK => ⟨_, hK, fun j ls s2 => s2 = s' ∧ ∃ v5 v7 v8 v9 v11 v15 v16 v17 v18 v19 v20 v21 v22 v23 v24 v25 v26, ls = [some (X), some (.ref i), some (.int p), some (enQ r), some (.int y), v5, some (.cst (A.map enP)), v7, v8, v9, some (enQ (payR p r y)), v11, some (planT w r y.toNat p), some (.int (hereI w r y.toNat p j)), some (.int w), v15, v16, v17, v18, v19, v20, v21, v22, v23, v24, v25, v26], ⟨rfl, _, _, _, _, _, _, _, _, _, _, _, _, _, _, _, _, _, rfl⟩, ?_, ?_⟩⟩
    · rintro j ls s2 hj ⟨rfl, v5, v7, v8, v9, v11, v15, v16, v17, v18, v19, v20, v21, v22, v23, v24, v25, v26, rfl⟩
      have hj : j < y.toNat := by simpa [enumD_len] using hj
      have hd : ∀ h, (enumD ((List.range y.toNat).map (planRow w r y.toNat p)))[j]'h = .tup [.int (j : Int), .tup [.int ((j : Int) + 1), .int (nearR ((hereI w r y.toNat p j : Rat) * r)), .int (dueI w r y.toNat j (hereI w r y.toNat p j)), .int (hereI w r y.toNat p (j + 1))]] := fun h => by simp [enumD, planRow]
      rw [hd]
      have hs := int_sm (here_bd (w := w) (r := r) (k := y.toNat) (p := p) (by omega) j).1 (here_bd (w := w) (r := r) (k := y.toNat) (p := p) (by omega) j).2 hp
      have hh : hereI w r y.toNat p (j + 1) = hereI w r y.toNat p j - dueI w r y.toNat j (hereI w r y.toNat p j) := rfl
      repeat (first | with_reducible refine go_op ?_ | with_reducible refine go_call ?_ | with_reducible refine go_cons ?_ | with_reducible refine go_nil ?_ | with_reducible refine go_var (by with_unfolding_all exact rfl) ?_ | with_reducible refine go_c ?_ | with_reducible refine go_int ?_ | with_reducible refine go_add ?_ | with_reducible refine go_sub ?_ | with_reducible refine go_q0 ?_ | with_reducible refine go_q1 ?_ | with_reducible refine go_p0 ?_ | with_reducible refine go_p1 ?_ | with_reducible refine go_tup2 ?_ | with_reducible refine go_tup3 ?_ | with_reducible refine go_tup4 ?_ | with_reducible refine go_seq ?_ | with_reducible refine go_asg ?_ | with_reducible refine go_gn (Nat.le_of_ble_eq_true (by with_unfolding_all exact rfl)) ?_ | with_reducible refine go_gT2 ?_ | with_reducible refine go_gTP ?_ | with_reducible refine go_gT4 ?_ | with_reducible refine go_neg1 ?_ | with_reducible refine go_ret ?_ | with_reducible refine go_par2 ?_ | with_reducible refine go_par3x ?_ | with_reducible refine go_exp ?_)
      refine go_mono2 (d := .int (dueI w r y.toNat j (hereI w r y.toNat p j))) (go_if (go_bB ?_)) ?_
      · repeat (first | with_reducible refine go_op ?_ | with_reducible refine go_call ?_ | with_reducible refine go_cons ?_ | with_reducible refine go_nil ?_ | with_reducible refine go_var (by with_unfolding_all exact rfl) ?_ | with_reducible refine go_c ?_ | with_reducible refine go_int ?_ | with_reducible refine go_add ?_ | with_reducible refine go_sub ?_ | with_reducible refine go_q0 ?_ | with_reducible refine go_q1 ?_ | with_reducible refine go_p0 ?_ | with_reducible refine go_p1 ?_ | with_reducible refine go_tup2 ?_ | with_reducible refine go_tup3 ?_ | with_reducible refine go_tup4 ?_ | with_reducible refine go_seq ?_ | with_reducible refine go_asg ?_ | with_reducible refine go_gn (Nat.le_of_ble_eq_true (by with_unfolding_all exact rfl)) ?_ | with_reducible refine go_gT2 ?_ | with_reducible refine go_gTP ?_ | with_reducible refine go_gT4 ?_ | with_reducible refine go_neg1 ?_ | with_reducible refine go_ret ?_ | with_reducible refine go_par2 ?_ | with_reducible refine go_par3x ?_ | with_reducible refine go_exp ?_)
        refine go_eqI ⟨_, rfl, go_ifP (fun c => ?_) fun c => ?_⟩
        · repeat (first | with_reducible refine go_op ?_ | with_reducible refine go_call ?_ | with_reducible refine go_cons ?_ | with_reducible refine go_nil ?_ | with_reducible refine go_var (by with_unfolding_all exact rfl) ?_ | with_reducible refine go_c ?_ | with_reducible refine go_int ?_ | with_reducible refine go_add ?_ | with_reducible refine go_sub ?_ | with_reducible refine go_q0 ?_ | with_reducible refine go_q1 ?_ | with_reducible refine go_p0 ?_ | with_reducible refine go_p1 ?_ | with_reducible refine go_tup2 ?_ | with_reducible refine go_tup3 ?_ | with_reducible refine go_tup4 ?_ | with_reducible refine go_seq ?_ | with_reducible refine go_asg ?_ | with_reducible refine go_gn (Nat.le_of_ble_eq_true (by with_unfolding_all exact rfl)) ?_ | with_reducible refine go_gT2 ?_ | with_reducible refine go_gTP ?_ | with_reducible refine go_gT4 ?_ | with_reducible refine go_neg1 ?_ | with_reducible refine go_ret ?_ | with_reducible refine go_par2 ?_ | with_reducible refine go_par3x ?_ | with_reducible refine go_exp ?_)
          exact ⟨congrArg Dv.int (by unfold dueI; rw [if_pos (by omega)]), rfl⟩
        · repeat (first | with_reducible refine go_op ?_ | with_reducible refine go_call ?_ | with_reducible refine go_cons ?_ | with_reducible refine go_nil ?_ | with_reducible refine go_var (by with_unfolding_all exact rfl) ?_ | with_reducible refine go_c ?_ | with_reducible refine go_int ?_ | with_reducible refine go_add ?_ | with_reducible refine go_sub ?_ | with_reducible refine go_q0 ?_ | with_reducible refine go_q1 ?_ | with_reducible refine go_p0 ?_ | with_reducible refine go_p1 ?_ | with_reducible refine go_tup2 ?_ | with_reducible refine go_tup3 ?_ | with_reducible refine go_tup4 ?_ | with_reducible refine go_seq ?_ | with_reducible refine go_asg ?_ | with_reducible refine go_gn (Nat.le_of_ble_eq_true (by with_unfolding_all exact rfl)) ?_ | with_reducible refine go_gT2 ?_ | with_reducible refine go_gTP ?_ | with_reducible refine go_gT4 ?_ | with_reducible refine go_neg1 ?_ | with_reducible refine go_ret ?_ | with_reducible refine go_par2 ?_ | with_reducible refine go_par3x ?_ | with_reducible refine go_exp ?_)
          refine l_times.2 _ _ _ _ 20 6 _ _ (RatV.i hs) (RatV.q hr) (by omega) ?_
          repeat (first | with_reducible refine go_op ?_ | with_reducible refine go_call ?_ | with_reducible refine go_cons ?_ | with_reducible refine go_nil ?_ | with_reducible refine go_var (by with_unfolding_all exact rfl) ?_ | with_reducible refine go_c ?_ | with_reducible refine go_int ?_ | with_reducible refine go_add ?_ | with_reducible refine go_sub ?_ | with_reducible refine go_q0 ?_ | with_reducible refine go_q1 ?_ | with_reducible refine go_p0 ?_ | with_reducible refine go_p1 ?_ | with_reducible refine go_tup2 ?_ | with_reducible refine go_tup3 ?_ | with_reducible refine go_tup4 ?_ | with_reducible refine go_seq ?_ | with_reducible refine go_asg ?_ | with_reducible refine go_gn (Nat.le_of_ble_eq_true (by with_unfolding_all exact rfl)) ?_ | with_reducible refine go_gT2 ?_ | with_reducible refine go_gTP ?_ | with_reducible refine go_gT4 ?_ | with_reducible refine go_neg1 ?_ | with_reducible refine go_ret ?_ | with_reducible refine go_par2 ?_ | with_reducible refine go_par3x ?_ | with_reducible refine go_exp ?_)
          refine c_lnear ((smQ_int hs).mul hr) (by omega) ?_
          repeat (first | with_reducible refine go_op ?_ | with_reducible refine go_call ?_ | with_reducible refine go_cons ?_ | with_reducible refine go_nil ?_ | with_reducible refine go_var (by with_unfolding_all exact rfl) ?_ | with_reducible refine go_c ?_ | with_reducible refine go_int ?_ | with_reducible refine go_add ?_ | with_reducible refine go_sub ?_ | with_reducible refine go_q0 ?_ | with_reducible refine go_q1 ?_ | with_reducible refine go_p0 ?_ | with_reducible refine go_p1 ?_ | with_reducible refine go_tup2 ?_ | with_reducible refine go_tup3 ?_ | with_reducible refine go_tup4 ?_ | with_reducible refine go_seq ?_ | with_reducible refine go_asg ?_ | with_reducible refine go_gn (Nat.le_of_ble_eq_true (by with_unfolding_all exact rfl)) ?_ | with_reducible refine go_gT2 ?_ | with_reducible refine go_gTP ?_ | with_reducible refine go_gT4 ?_ | with_reducible refine go_neg1 ?_ | with_reducible refine go_ret ?_ | with_reducible refine go_par2 ?_ | with_reducible refine go_par3x ?_ | with_reducible refine go_exp ?_)
          refine go_max ?_
          repeat (first | with_reducible refine go_op ?_ | with_reducible refine go_call ?_ | with_reducible refine go_cons ?_ | with_reducible refine go_nil ?_ | with_reducible refine go_var (by with_unfolding_all exact rfl) ?_ | with_reducible refine go_c ?_ | with_reducible refine go_int ?_ | with_reducible refine go_add ?_ | with_reducible refine go_sub ?_ | with_reducible refine go_q0 ?_ | with_reducible refine go_q1 ?_ | with_reducible refine go_p0 ?_ | with_reducible refine go_p1 ?_ | with_reducible refine go_tup2 ?_ | with_reducible refine go_tup3 ?_ | with_reducible refine go_tup4 ?_ | with_reducible refine go_seq ?_ | with_reducible refine go_asg ?_ | with_reducible refine go_gn (Nat.le_of_ble_eq_true (by with_unfolding_all exact rfl)) ?_ | with_reducible refine go_gT2 ?_ | with_reducible refine go_gTP ?_ | with_reducible refine go_gT4 ?_ | with_reducible refine go_neg1 ?_ | with_reducible refine go_ret ?_ | with_reducible refine go_par2 ?_ | with_reducible refine go_par3x ?_ | with_reducible refine go_exp ?_)
          refine go_min ?_
          exact ⟨congrArg Dv.int (by unfold dueI; rw [if_neg (by omega)]), rfl⟩
      repeat (first | with_reducible refine go_op ?_ | with_reducible refine go_call ?_ | with_reducible refine go_cons ?_ | with_reducible refine go_nil ?_ | with_reducible refine go_var (by with_unfolding_all exact rfl) ?_ | with_reducible refine go_c ?_ | with_reducible refine go_int ?_ | with_reducible refine go_add ?_ | with_reducible refine go_sub ?_ | with_reducible refine go_q0 ?_ | with_reducible refine go_q1 ?_ | with_reducible refine go_p0 ?_ | with_reducible refine go_p1 ?_ | with_reducible refine go_tup2 ?_ | with_reducible refine go_tup3 ?_ | with_reducible refine go_tup4 ?_ | with_reducible refine go_seq ?_ | with_reducible refine go_asg ?_ | with_reducible refine go_gn (Nat.le_of_ble_eq_true (by with_unfolding_all exact rfl)) ?_ | with_reducible refine go_gT2 ?_ | with_reducible refine go_gTP ?_ | with_reducible refine go_gT4 ?_ | with_reducible refine go_neg1 ?_ | with_reducible refine go_ret ?_ | with_reducible refine go_par2 ?_ | with_reducible refine go_par3x ?_ | with_reducible refine go_exp ?_)
      refine go_guardNe1 ?_
      repeat (first | with_reducible refine go_op ?_ | with_reducible refine go_call ?_ | with_reducible refine go_cons ?_ | with_reducible refine go_nil ?_ | with_reducible refine go_var (by with_unfolding_all exact rfl) ?_ | with_reducible refine go_c ?_ | with_reducible refine go_int ?_ | with_reducible refine go_add ?_ | with_reducible refine go_sub ?_ | with_reducible refine go_q0 ?_ | with_reducible refine go_q1 ?_ | with_reducible refine go_p0 ?_ | with_reducible refine go_p1 ?_ | with_reducible refine go_tup2 ?_ | with_reducible refine go_tup3 ?_ | with_reducible refine go_tup4 ?_ | with_reducible refine go_seq ?_ | with_reducible refine go_asg ?_ | with_reducible refine go_gn (Nat.le_of_ble_eq_true (by with_unfolding_all exact rfl)) ?_ | with_reducible refine go_gT2 ?_ | with_reducible refine go_gTP ?_ | with_reducible refine go_gT4 ?_ | with_reducible refine go_neg1 ?_ | with_reducible refine go_ret ?_ | with_reducible refine go_par2 ?_ | with_reducible refine go_par3x ?_ | with_reducible refine go_exp ?_)
      refine l_times.2 _ _ _ _ 20 6 _ _ (RatV.i hs) (RatV.q hr) (by omega) ?_
      repeat (first | with_reducible refine go_op ?_ | with_reducible refine go_call ?_ | with_reducible refine go_cons ?_ | with_reducible refine go_nil ?_ | with_reducible refine go_var (by with_unfolding_all exact rfl) ?_ | with_reducible refine go_c ?_ | with_reducible refine go_int ?_ | with_reducible refine go_add ?_ | with_reducible refine go_sub ?_ | with_reducible refine go_q0 ?_ | with_reducible refine go_q1 ?_ | with_reducible refine go_p0 ?_ | with_reducible refine go_p1 ?_ | with_reducible refine go_tup2 ?_ | with_reducible refine go_tup3 ?_ | with_reducible refine go_tup4 ?_ | with_reducible refine go_seq ?_ | with_reducible refine go_asg ?_ | with_reducible refine go_gn (Nat.le_of_ble_eq_true (by with_unfolding_all exact rfl)) ?_ | with_reducible refine go_gT2 ?_ | with_reducible refine go_gTP ?_ | with_reducible refine go_gT4 ?_ | with_reducible refine go_neg1 ?_ | with_reducible refine go_ret ?_ | with_reducible refine go_par2 ?_ | with_reducible refine go_par3x ?_ | with_reducible refine go_exp ?_)
      refine c_lnear ((smQ_int hs).mul hr) (by omega) ?_
      repeat (first | with_reducible refine go_op ?_ | with_reducible refine go_call ?_ | with_reducible refine go_cons ?_ | with_reducible refine go_nil ?_ | with_reducible refine go_var (by with_unfolding_all exact rfl) ?_ | with_reducible refine go_c ?_ | with_reducible refine go_int ?_ | with_reducible refine go_add ?_ | with_reducible refine go_sub ?_ | with_reducible refine go_q0 ?_ | with_reducible refine go_q1 ?_ | with_reducible refine go_p0 ?_ | with_reducible refine go_p1 ?_ | with_reducible refine go_tup2 ?_ | with_reducible refine go_tup3 ?_ | with_reducible refine go_tup4 ?_ | with_reducible refine go_seq ?_ | with_reducible refine go_asg ?_ | with_reducible refine go_gn (Nat.le_of_ble_eq_true (by with_unfolding_all exact rfl)) ?_ | with_reducible refine go_gT2 ?_ | with_reducible refine go_gTP ?_ | with_reducible refine go_gT4 ?_ | with_reducible refine go_neg1 ?_ | with_reducible refine go_ret ?_ | with_reducible refine go_par2 ?_ | with_reducible refine go_par3x ?_ | with_reducible refine go_exp ?_)
      refine ⟨rfl, by simp [dat, datL], ?_⟩
      repeat (first | with_reducible refine go_op ?_ | with_reducible refine go_call ?_ | with_reducible refine go_cons ?_ | with_reducible refine go_nil ?_ | with_reducible refine go_var (by with_unfolding_all exact rfl) ?_ | with_reducible refine go_c ?_ | with_reducible refine go_int ?_ | with_reducible refine go_add ?_ | with_reducible refine go_sub ?_ | with_reducible refine go_q0 ?_ | with_reducible refine go_q1 ?_ | with_reducible refine go_p0 ?_ | with_reducible refine go_p1 ?_ | with_reducible refine go_tup2 ?_ | with_reducible refine go_tup3 ?_ | with_reducible refine go_tup4 ?_ | with_reducible refine go_seq ?_ | with_reducible refine go_asg ?_ | with_reducible refine go_gn (Nat.le_of_ble_eq_true (by with_unfolding_all exact rfl)) ?_ | with_reducible refine go_gT2 ?_ | with_reducible refine go_gTP ?_ | with_reducible refine go_gT4 ?_ | with_reducible refine go_neg1 ?_ | with_reducible refine go_ret ?_ | with_reducible refine go_par2 ?_ | with_reducible refine go_par3x ?_ | with_reducible refine go_exp ?_)
      exact ⟨rfl, _, v7, v8, v9, v11, v15, _, _, _, _, _, v21, v22, v23, v24, v25, v26, rfl⟩
    · rintro ls s2 ⟨rfl, v5, v7, v8, v9, v11, v15, v16, v17, v18, v19, v20, v21, v22, v23, v24, v25, v26, rfl⟩
      exact ⟨rfl, rfl, _, _, _, _, _, _, _, _, _, _, _, _, _, _, _, _, _, _, _, _, _, rfl⟩

abbrev sFar : SS := (sFor (wR1 (aCons (eC (.int 101)) aNil)) (gN 5) (sSeq (sAsg (eIf (bAnd (bB (eIsN (eVar 25))) (bAnd (bB (eOp opLt (eVar 5) (eC (.int 12)))) (bNot (bB (eCall m__law_less (aCons (eCall m__law_grown (aCons (eVar 2) (aCons (eVar 3) (aCons (eVar 5) aNil)))) (aCons (eTup (aCons (eVar 24) (aCons (eC (.int 1)) aNil))) aNil))))))) (eVar 5) (eVar 25)) (gN 25))
  (sIf (bOr (bB (eNotN (eVar 25))) (bB (eOp opGt (eVar 5) (eC (.int 11))))) sBk sNil)))
theorem go_bk {PS' : Fl × Ls → Sto → Prop} {ls : Ls} (h : PS' (.bk, ls) s) : Go (sBk ls s) PS' := Go.ok h
theorem c_far (hr : SmQ 6 r) (h0 : 0 ≤ r) {g : Int} (hp : p.natAbs < 2 ^ 20) (hg : g.natAbs < 2 ^ 20) {v4 v5 v6 v7 v8 v9 v10 v11 v12 v13 v14 v15 v16 v17 v18 v19 v20 v21 v22 v23 v26 : Option Dv} : Go (sFar [some (X), some (.ref i), some (.int p), some (enQ r), v4, v5, v6, v7, v8, v9, v10, v11, v12, v13, v14, v15, v16, v17, v18, v19, v20, v21, v22, v23, some (.int g), some (.non), v26] s) fun fr s2 => fr.1 = .nx ∧ s2 = s ∧ ∃ v4 v5 v6 v7 v8 v9 v10 v11 v12 v13 v14 v15 v16 v17 v18 v19 v20 v21 v22 v23 v26, fr.2 = [some (X), some (.ref i), some (.int p), some (enQ r), v4, v5, v6, v7, v8, v9, v10, v11, v12, v13, v14, v15, v16, v17, v18, v19, v20, v21, v22, v23, some (.int g), some (foundD ((List.range 12).find? (there p g r))), v26] := by
  refine go_for (go_wR1 ?_)
  repeat (first | with_reducible refine go_op ?_ | with_reducible refine go_call ?_ | with_reducible refine go_cons ?_ | with_reducible refine go_nil ?_ | with_reducible refine go_var (by with_unfolding_all exact rfl) ?_ | with_reducible refine go_c ?_ | with_reducible refine go_int ?_ | with_reducible refine go_add ?_ | with_reducible refine go_sub ?_ | with_reducible refine go_q0 ?_ | with_reducible refine go_q1 ?_ | with_reducible refine go_p0 ?_ | with_reducible refine go_p1 ?_ | with_reducible refine go_tup2 ?_ | with_reducible refine go_tup3 ?_ | with_reducible refine go_tup4 ?_ | with_reducible refine go_seq ?_ | with_reducible refine go_asg ?_ | with_reducible refine go_gn (Nat.le_of_ble_eq_true (by with_unfolding_all exact rfl)) ?_ | with_reducible refine go_gT2 ?_ | with_reducible refine go_gTP ?_ | with_reducible refine go_gT4 ?_ | with_reducible refine go_neg1 ?_ | with_reducible refine go_ret ?_ | with_reducible refine go_par2 ?_ | with_reducible refine go_par3x ?_ | with_reducible refine go_exp ?_)
  refine ⟨_, rfl, by decide, by decide, fun K hK => ⟨_, hK, fun j ls s' => s' = s ∧ j ≤ 12 ∧ (∀ l, l < j → there p g r l = false) ∧ ∃ v4 v5 v6 v7 v8 v9 v10 v11 v12 v13 v14 v15 v16 v17 v18 v19 v20 v21 v22 v23 v26, ls = [some (X), some (.ref i), some (.int p), some (enQ r), v4, v5, v6, v7, v8, v9, v10, v11, v12, v13, v14, v15, v16, v17, v18, v19, v20, v21, v22, v23, some (.int g), some (.non), v26], ⟨rfl, by decide, fun l h => absurd h (Nat.not_lt_zero _), v4, v5, v6, v7, v8, v9, v10, v11, v12, v13, v14, v15, v16, v17, v18, v19, v20, v21, v22, v23, v26, rfl⟩, ?_, ?_⟩⟩
  · rintro j ls s' hj ⟨rfl, j12, H, v4, v5, v6, v7, v8, v9, v10, v11, v12, v13, v14, v15, v16, v17, v18, v19, v20, v21, v22, v23, v26, rfl⟩
    have hd : ∀ h, (rngD 0 (101 : Int).toNat)[j]'h = .int (j : Int) := fun h => by simp [rngD]
    rw [hd]
    repeat (first | with_reducible refine go_op ?_ | with_reducible refine go_call ?_ | with_reducible refine go_cons ?_ | with_reducible refine go_nil ?_ | with_reducible refine go_var (by with_unfolding_all exact rfl) ?_ | with_reducible refine go_c ?_ | with_reducible refine go_int ?_ | with_reducible refine go_add ?_ | with_reducible refine go_sub ?_ | with_reducible refine go_q0 ?_ | with_reducible refine go_q1 ?_ | with_reducible refine go_p0 ?_ | with_reducible refine go_p1 ?_ | with_reducible refine go_tup2 ?_ | with_reducible refine go_tup3 ?_ | with_reducible refine go_tup4 ?_ | with_reducible refine go_seq ?_ | with_reducible refine go_asg ?_ | with_reducible refine go_gn (Nat.le_of_ble_eq_true (by with_unfolding_all exact rfl)) ?_ | with_reducible refine go_gT2 ?_ | with_reducible refine go_gTP ?_ | with_reducible refine go_gT4 ?_ | with_reducible refine go_neg1 ?_ | with_reducible refine go_ret ?_ | with_reducible refine go_par2 ?_ | with_reducible refine go_par3x ?_ | with_reducible refine go_exp ?_)
    by_cases c : j < 12
    · have gs : SmQ (20 + ((1 + 6 + 1) * j + 1)) ((p : Rat) * (1 + r) ^ j) := (smQ_int hp).mul (((SmQ.one (n := 1)).add hr).pow j)
      refine go_if (go_andT (go_bB (go_isN ?_)))
      repeat (first | with_reducible refine go_op ?_ | with_reducible refine go_call ?_ | with_reducible refine go_cons ?_ | with_reducible refine go_nil ?_ | with_reducible refine go_var (by with_unfolding_all exact rfl) ?_ | with_reducible refine go_c ?_ | with_reducible refine go_int ?_ | with_reducible refine go_add ?_ | with_reducible refine go_sub ?_ | with_reducible refine go_q0 ?_ | with_reducible refine go_q1 ?_ | with_reducible refine go_p0 ?_ | with_reducible refine go_p1 ?_ | with_reducible refine go_tup2 ?_ | with_reducible refine go_tup3 ?_ | with_reducible refine go_tup4 ?_ | with_reducible refine go_seq ?_ | with_reducible refine go_asg ?_ | with_reducible refine go_gn (Nat.le_of_ble_eq_true (by with_unfolding_all exact rfl)) ?_ | with_reducible refine go_gT2 ?_ | with_reducible refine go_gTP ?_ | with_reducible refine go_gT4 ?_ | with_reducible refine go_neg1 ?_ | with_reducible refine go_ret ?_ | with_reducible refine go_par2 ?_ | with_reducible refine go_par3x ?_ | with_reducible refine go_exp ?_)
      refine ⟨_, rfl, rfl, go_andT (go_bB ?_)⟩
      repeat (first | with_reducible refine go_op ?_ | with_reducible refine go_call ?_ | with_reducible refine go_cons ?_ | with_reducible refine go_nil ?_ | with_reducible refine go_var (by with_unfolding_all exact rfl) ?_ | with_reducible refine go_c ?_ | with_reducible refine go_int ?_ | with_reducible refine go_add ?_ | with_reducible refine go_sub ?_ | with_reducible refine go_q0 ?_ | with_reducible refine go_q1 ?_ | with_reducible refine go_p0 ?_ | with_reducible refine go_p1 ?_ | with_reducible refine go_tup2 ?_ | with_reducible refine go_tup3 ?_ | with_reducible refine go_tup4 ?_ | with_reducible refine go_seq ?_ | with_reducible refine go_asg ?_ | with_reducible refine go_gn (Nat.le_of_ble_eq_true (by with_unfolding_all exact rfl)) ?_ | with_reducible refine go_gT2 ?_ | with_reducible refine go_gTP ?_ | with_reducible refine go_gT4 ?_ | with_reducible refine go_neg1 ?_ | with_reducible refine go_ret ?_ | with_reducible refine go_par2 ?_ | with_reducible refine go_par3x ?_ | with_reducible refine go_exp ?_)
      refine go_lt ⟨_, rfl, decide_eq_true (by omega), go_not (go_bB ?_)⟩
      repeat (first | with_reducible refine go_op ?_ | with_reducible refine go_call ?_ | with_reducible refine go_cons ?_ | with_reducible refine go_nil ?_ | with_reducible refine go_var (by with_unfolding_all exact rfl) ?_ | with_reducible refine go_c ?_ | with_reducible refine go_int ?_ | with_reducible refine go_add ?_ | with_reducible refine go_sub ?_ | with_reducible refine go_q0 ?_ | with_reducible refine go_q1 ?_ | with_reducible refine go_p0 ?_ | with_reducible refine go_p1 ?_ | with_reducible refine go_tup2 ?_ | with_reducible refine go_tup3 ?_ | with_reducible refine go_tup4 ?_ | with_reducible refine go_seq ?_ | with_reducible refine go_asg ?_ | with_reducible refine go_gn (Nat.le_of_ble_eq_true (by with_unfolding_all exact rfl)) ?_ | with_reducible refine go_gT2 ?_ | with_reducible refine go_gTP ?_ | with_reducible refine go_gT4 ?_ | with_reducible refine go_neg1 ?_ | with_reducible refine go_ret ?_ | with_reducible refine go_par2 ?_ | with_reducible refine go_par3x ?_ | with_reducible refine go_exp ?_)
      refine c_lgrown (RatV.q hr) (by omega) hp (by omega) (by omega) ?_
      repeat (first | with_reducible refine go_op ?_ | with_reducible refine go_call ?_ | with_reducible refine go_cons ?_ | with_reducible refine go_nil ?_ | with_reducible refine go_var (by with_unfolding_all exact rfl) ?_ | with_reducible refine go_c ?_ | with_reducible refine go_int ?_ | with_reducible refine go_add ?_ | with_reducible refine go_sub ?_ | with_reducible refine go_q0 ?_ | with_reducible refine go_q1 ?_ | with_reducible refine go_p0 ?_ | with_reducible refine go_p1 ?_ | with_reducible refine go_tup2 ?_ | with_reducible refine go_tup3 ?_ | with_reducible refine go_tup4 ?_ | with_reducible refine go_seq ?_ | with_reducible refine go_asg ?_ | with_reducible refine go_gn (Nat.le_of_ble_eq_true (by with_unfolding_all exact rfl)) ?_ | with_reducible refine go_gT2 ?_ | with_reducible refine go_gTP ?_ | with_reducible refine go_gT4 ?_ | with_reducible refine go_neg1 ?_ | with_reducible refine go_ret ?_ | with_reducible refine go_par2 ?_ | with_reducible refine go_par3x ?_ | with_reducible refine go_exp ?_)
      refine go_less (RatV.q gs) (RatV.i (n := 20) hg) (by omega) ⟨_, rfl, go_iff (fun c1 => ?_) fun c1 => ?_⟩
      · have c1 : there p g r j = true := c1
        repeat (first | with_reducible refine go_op ?_ | with_reducible refine go_call ?_ | with_reducible refine go_cons ?_ | with_reducible refine go_nil ?_ | with_reducible refine go_var (by with_unfolding_all exact rfl) ?_ | with_reducible refine go_c ?_ | with_reducible refine go_int ?_ | with_reducible refine go_add ?_ | with_reducible refine go_sub ?_ | with_reducible refine go_q0 ?_ | with_reducible refine go_q1 ?_ | with_reducible refine go_p0 ?_ | with_reducible refine go_p1 ?_ | with_reducible refine go_tup2 ?_ | with_reducible refine go_tup3 ?_ | with_reducible refine go_tup4 ?_ | with_reducible refine go_seq ?_ | with_reducible refine go_asg ?_ | with_reducible refine go_gn (Nat.le_of_ble_eq_true (by with_unfolding_all exact rfl)) ?_ | with_reducible refine go_gT2 ?_ | with_reducible refine go_gTP ?_ | with_reducible refine go_gT4 ?_ | with_reducible refine go_neg1 ?_ | with_reducible refine go_ret ?_ | with_reducible refine go_par2 ?_ | with_reducible refine go_par3x ?_ | with_reducible refine go_exp ?_)
        refine go_sif (go_or (go_bB (go_notN ?_)))
        repeat (first | with_reducible refine go_op ?_ | with_reducible refine go_call ?_ | with_reducible refine go_cons ?_ | with_reducible refine go_nil ?_ | with_reducible refine go_var (by with_unfolding_all exact rfl) ?_ | with_reducible refine go_c ?_ | with_reducible refine go_int ?_ | with_reducible refine go_add ?_ | with_reducible refine go_sub ?_ | with_reducible refine go_q0 ?_ | with_reducible refine go_q1 ?_ | with_reducible refine go_p0 ?_ | with_reducible refine go_p1 ?_ | with_reducible refine go_tup2 ?_ | with_reducible refine go_tup3 ?_ | with_reducible refine go_tup4 ?_ | with_reducible refine go_seq ?_ | with_reducible refine go_asg ?_ | with_reducible refine go_gn (Nat.le_of_ble_eq_true (by with_unfolding_all exact rfl)) ?_ | with_reducible refine go_gT2 ?_ | with_reducible refine go_gTP ?_ | with_reducible refine go_gT4 ?_ | with_reducible refine go_neg1 ?_ | with_reducible refine go_ret ?_ | with_reducible refine go_par2 ?_ | with_reducible refine go_par3x ?_ | with_reducible refine go_exp ?_)
        refine ⟨_, rfl, true, _, rfl, go_ifTb rfl (go_bk ⟨rfl, rfl, ?_⟩)⟩
        rw [find_first c c1 H]
        exact ⟨_, _, _, _, _, _, _, _, _, _, _, _, _, _, _, _, _, _, _, _, _, rfl⟩
      · have c1 : there p g r j = false := c1
        repeat (first | with_reducible refine go_op ?_ | with_reducible refine go_call ?_ | with_reducible refine go_cons ?_ | with_reducible refine go_nil ?_ | with_reducible refine go_var (by with_unfolding_all exact rfl) ?_ | with_reducible refine go_c ?_ | with_reducible refine go_int ?_ | with_reducible refine go_add ?_ | with_reducible refine go_sub ?_ | with_reducible refine go_q0 ?_ | with_reducible refine go_q1 ?_ | with_reducible refine go_p0 ?_ | with_reducible refine go_p1 ?_ | with_reducible refine go_tup2 ?_ | with_reducible refine go_tup3 ?_ | with_reducible refine go_tup4 ?_ | with_reducible refine go_seq ?_ | with_reducible refine go_asg ?_ | with_reducible refine go_gn (Nat.le_of_ble_eq_true (by with_unfolding_all exact rfl)) ?_ | with_reducible refine go_gT2 ?_ | with_reducible refine go_gTP ?_ | with_reducible refine go_gT4 ?_ | with_reducible refine go_neg1 ?_ | with_reducible refine go_ret ?_ | with_reducible refine go_par2 ?_ | with_reducible refine go_par3x ?_ | with_reducible refine go_exp ?_)
        refine go_sif (go_or (go_bB (go_notN ?_)))
        repeat (first | with_reducible refine go_op ?_ | with_reducible refine go_call ?_ | with_reducible refine go_cons ?_ | with_reducible refine go_nil ?_ | with_reducible refine go_var (by with_unfolding_all exact rfl) ?_ | with_reducible refine go_c ?_ | with_reducible refine go_int ?_ | with_reducible refine go_add ?_ | with_reducible refine go_sub ?_ | with_reducible refine go_q0 ?_ | with_reducible refine go_q1 ?_ | with_reducible refine go_p0 ?_ | with_reducible refine go_p1 ?_ | with_reducible refine go_tup2 ?_ | with_reducible refine go_tup3 ?_ | with_reducible refine go_tup4 ?_ | with_reducible refine go_seq ?_ | with_reducible refine go_asg ?_ | with_reducible refine go_gn (Nat.le_of_ble_eq_true (by with_unfolding_all exact rfl)) ?_ | with_reducible refine go_gT2 ?_ | with_reducible refine go_gTP ?_ | with_reducible refine go_gT4 ?_ | with_reducible refine go_neg1 ?_ | with_reducible refine go_ret ?_ | with_reducible refine go_par2 ?_ | with_reducible refine go_par3x ?_ | with_reducible refine go_exp ?_)
        refine ⟨_, rfl, go_bB ?_⟩
        repeat (first | with_reducible refine go_op ?_ | with_reducible refine go_call ?_ | with_reducible refine go_cons ?_ | with_reducible refine go_nil ?_ | with_reducible refine go_var (by with_unfolding_all exact rfl) ?_ | with_reducible refine go_c ?_ | with_reducible refine go_int ?_ | with_reducible refine go_add ?_ | with_reducible refine go_sub ?_ | with_reducible refine go_q0 ?_ | with_reducible refine go_q1 ?_ | with_reducible refine go_p0 ?_ | with_reducible refine go_p1 ?_ | with_reducible refine go_tup2 ?_ | with_reducible refine go_tup3 ?_ | with_reducible refine go_tup4 ?_ | with_reducible refine go_seq ?_ | with_reducible refine go_asg ?_ | with_reducible refine go_gn (Nat.le_of_ble_eq_true (by with_unfolding_all exact rfl)) ?_ | with_reducible refine go_gT2 ?_ | with_reducible refine go_gTP ?_ | with_reducible refine go_gT4 ?_ | with_reducible refine go_neg1 ?_ | with_reducible refine go_ret ?_ | with_reducible refine go_par2 ?_ | with_reducible refine go_par3x ?_ | with_reducible refine go_exp ?_)
        refine go_gt ⟨_, rfl, go_ifF (by omega) (go_snil ⟨rfl, by omega, fun l hl => ?_, _, _, _, _, _, _, _, _, _, _, _, _, _, _, _, _, _, _, _, _, _, rfl⟩)⟩
        by_cases e : l = j
        · rw [e]; exact c1
        · exact H l (by omega)
    · obtain rfl : j = 12 := by omega
      refine go_if (go_andT (go_bB (go_isN ?_)))
      repeat (first | with_reducible refine go_op ?_ | with_reducible refine go_call ?_ | with_reducible refine go_cons ?_ | with_reducible refine go_nil ?_ | with_reducible refine go_var (by with_unfolding_all exact rfl) ?_ | with_reducible refine go_c ?_ | with_reducible refine go_int ?_ | with_reducible refine go_add ?_ | with_reducible refine go_sub ?_ | with_reducible refine go_q0 ?_ | with_reducible refine go_q1 ?_ | with_reducible refine go_p0 ?_ | with_reducible refine go_p1 ?_ | with_reducible refine go_tup2 ?_ | with_reducible refine go_tup3 ?_ | with_reducible refine go_tup4 ?_ | with_reducible refine go_seq ?_ | with_reducible refine go_asg ?_ | with_reducible refine go_gn (Nat.le_of_ble_eq_true (by with_unfolding_all exact rfl)) ?_ | with_reducible refine go_gT2 ?_ | with_reducible refine go_gTP ?_ | with_reducible refine go_gT4 ?_ | with_reducible refine go_neg1 ?_ | with_reducible refine go_ret ?_ | with_reducible refine go_par2 ?_ | with_reducible refine go_par3x ?_ | with_reducible refine go_exp ?_)
      refine ⟨_, rfl, rfl, go_and (go_bB ?_)⟩
      repeat (first | with_reducible refine go_op ?_ | with_reducible refine go_call ?_ | with_reducible refine go_cons ?_ | with_reducible refine go_nil ?_ | with_reducible refine go_var (by with_unfolding_all exact rfl) ?_ | with_reducible refine go_c ?_ | with_reducible refine go_int ?_ | with_reducible refine go_add ?_ | with_reducible refine go_sub ?_ | with_reducible refine go_q0 ?_ | with_reducible refine go_q1 ?_ | with_reducible refine go_p0 ?_ | with_reducible refine go_p1 ?_ | with_reducible refine go_tup2 ?_ | with_reducible refine go_tup3 ?_ | with_reducible refine go_tup4 ?_ | with_reducible refine go_seq ?_ | with_reducible refine go_asg ?_ | with_reducible refine go_gn (Nat.le_of_ble_eq_true (by with_unfolding_all exact rfl)) ?_ | with_reducible refine go_gT2 ?_ | with_reducible refine go_gTP ?_ | with_reducible refine go_gT4 ?_ | with_reducible refine go_neg1 ?_ | with_reducible refine go_ret ?_ | with_reducible refine go_par2 ?_ | with_reducible refine go_par3x ?_ | with_reducible refine go_exp ?_)
      refine go_lt ⟨_, rfl, Go.ok ?_⟩
      rw [if_neg Bool.false_ne_true]
      repeat (first | with_reducible refine go_op ?_ | with_reducible refine go_call ?_ | with_reducible refine go_cons ?_ | with_reducible refine go_nil ?_ | with_reducible refine go_var (by with_unfolding_all exact rfl) ?_ | with_reducible refine go_c ?_ | with_reducible refine go_int ?_ | with_reducible refine go_add ?_ | with_reducible refine go_sub ?_ | with_reducible refine go_q0 ?_ | with_reducible refine go_q1 ?_ | with_reducible refine go_p0 ?_ | with_reducible refine go_p1 ?_ | with_reducible refine go_tup2 ?_ | with_reducible refine go_tup3 ?_ | with_reducible refine go_tup4 ?_ | with_reducible refine go_seq ?_ | with_reducible refine go_asg ?_ | with_reducible refine go_gn (Nat.le_of_ble_eq_true (by with_unfolding_all exact rfl)) ?_ | with_reducible refine go_gT2 ?_ | with_reducible refine go_gTP ?_ | with_reducible refine go_gT4 ?_ | with_reducible refine go_neg1 ?_ | with_reducible refine go_ret ?_ | with_reducible refine go_par2 ?_ | with_reducible refine go_par3x ?_ | with_reducible refine go_exp ?_)
      refine go_sif (go_or (go_bB (go_notN ?_)))
      repeat (first | with_reducible refine go_op ?_ | with_reducible refine go_call ?_ | with_reducible refine go_cons ?_ | with_reducible refine go_nil ?_ | with_reducible refine go_var (by with_unfolding_all exact rfl) ?_ | with_reducible refine go_c ?_ | with_reducible refine go_int ?_ | with_reducible refine go_add ?_ | with_reducible refine go_sub ?_ | with_reducible refine go_q0 ?_ | with_reducible refine go_q1 ?_ | with_reducible refine go_p0 ?_ | with_reducible refine go_p1 ?_ | with_reducible refine go_tup2 ?_ | with_reducible refine go_tup3 ?_ | with_reducible refine go_tup4 ?_ | with_reducible refine go_seq ?_ | with_reducible refine go_asg ?_ | with_reducible refine go_gn (Nat.le_of_ble_eq_true (by with_unfolding_all exact rfl)) ?_ | with_reducible refine go_gT2 ?_ | with_reducible refine go_gTP ?_ | with_reducible refine go_gT4 ?_ | with_reducible refine go_neg1 ?_ | with_reducible refine go_ret ?_ | with_reducible refine go_par2 ?_ | with_reducible refine go_par3x ?_ | with_reducible refine go_exp ?_)
      refine ⟨_, rfl, go_bB ?_⟩
      repeat (first | with_reducible refine go_op ?_ | with_reducible refine go_call ?_ | with_reducible refine go_cons ?_ | with_reducible refine go_nil ?_ | with_reducible refine go_var (by with_unfolding_all exact rfl) ?_ | with_reducible refine go_c ?_ | with_reducible refine go_int ?_ | with_reducible refine go_add ?_ | with_reducible refine go_sub ?_ | with_reducible refine go_q0 ?_ | with_reducible refine go_q1 ?_ | with_reducible refine go_p0 ?_ | with_reducible refine go_p1 ?_ | with_reducible refine go_tup2 ?_ | with_reducible refine go_tup3 ?_ | with_reducible refine go_tup4 ?_ | with_reducible refine go_seq ?_ | with_reducible refine go_asg ?_ | with_reducible refine go_gn (Nat.le_of_ble_eq_true (by with_unfolding_all exact rfl)) ?_ | with_reducible refine go_gT2 ?_ | with_reducible refine go_gTP ?_ | with_reducible refine go_gT4 ?_ | with_reducible refine go_neg1 ?_ | with_reducible refine go_ret ?_ | with_reducible refine go_par2 ?_ | with_reducible refine go_par3x ?_ | with_reducible refine go_exp ?_)
      refine go_gt ⟨_, rfl, go_ifT (by decide) (go_bk ⟨rfl, rfl, ?_⟩)⟩
      rw [find_no H]
      exact ⟨_, _, _, _, _, _, _, _, _, _, _, _, _, _, _, _, _, _, _, _, _, rfl⟩
  · rintro ls s' ⟨rfl, h, _⟩
    exact absurd h (by decide)
abbrev sTold : SS := (sIf (bOr (bAnd (bB (eNotN (eVar 25))) (bB (eOp opNe (eVar 26) (eVar 25)))) (bAnd (bB (eIsN (eVar 25))) (bAnd (bB (eNotN (eVar 26))) (bB (eOp opLt (eVar 26) (eC (.int 12))))))) (sRet (eC (.bl false))) sNil)
theorem c_told {g : Int} {a b : Option Nat} (h1 : ∀ k, a = some k → b = some k) (h2 : ∀ k, a = none → b = some k → 12 ≤ k) {v4 v5 v6 v7 v8 v9 v10 v11 v12 v13 v14 v15 v16 v17 v18 v19 v20 v21 v22 v23 : Option Dv} : Go (sTold [some (X), some (.ref i), some (.int p), some (enQ r), v4, v5, v6, v7, v8, v9, v10, v11, v12, v13, v14, v15, v16, v17, v18, v19, v20, v21, v22, v23, some (.int g), some (foundD a), some (foundD b)] s) fun fr s2 => fr = (.nx, [some (X), some (.ref i), some (.int p), some (enQ r), v4, v5, v6, v7, v8, v9, v10, v11, v12, v13, v14, v15, v16, v17, v18, v19, v20, v21, v22, v23, some (.int g), some (foundD a), some (foundD b)]) ∧ s2 = s := by
  refine go_guard1 (go_orF ?_)
  cases a with
  | some k =>
    obtain rfl := h1 k rfl
    refine go_andT (go_bB (go_notN ?_))
    repeat (first | with_reducible refine go_op ?_ | with_reducible refine go_call ?_ | with_reducible refine go_cons ?_ | with_reducible refine go_nil ?_ | with_reducible refine go_var (by with_unfolding_all exact rfl) ?_ | with_reducible refine go_c ?_ | with_reducible refine go_int ?_ | with_reducible refine go_add ?_ | with_reducible refine go_sub ?_ | with_reducible refine go_q0 ?_ | with_reducible refine go_q1 ?_ | with_reducible refine go_p0 ?_ | with_reducible refine go_p1 ?_ | with_reducible refine go_tup2 ?_ | with_reducible refine go_tup3 ?_ | with_reducible refine go_tup4 ?_ | with_reducible refine go_seq ?_ | with_reducible refine go_asg ?_ | with_reducible refine go_gn (Nat.le_of_ble_eq_true (by with_unfolding_all exact rfl)) ?_ | with_reducible refine go_gT2 ?_ | with_reducible refine go_gTP ?_ | with_reducible refine go_gT4 ?_ | with_reducible refine go_neg1 ?_ | with_reducible refine go_ret ?_ | with_reducible refine go_par2 ?_ | with_reducible refine go_par3x ?_ | with_reducible refine go_exp ?_)
    refine ⟨_, rfl, rfl, go_neF ?_⟩
    repeat (first | with_reducible refine go_op ?_ | with_reducible refine go_call ?_ | with_reducible refine go_cons ?_ | with_reducible refine go_nil ?_ | with_reducible refine go_var (by with_unfolding_all exact rfl) ?_ | with_reducible refine go_c ?_ | with_reducible refine go_int ?_ | with_reducible refine go_add ?_ | with_reducible refine go_sub ?_ | with_reducible refine go_q0 ?_ | with_reducible refine go_q1 ?_ | with_reducible refine go_p0 ?_ | with_reducible refine go_p1 ?_ | with_reducible refine go_tup2 ?_ | with_reducible refine go_tup3 ?_ | with_reducible refine go_tup4 ?_ | with_reducible refine go_seq ?_ | with_reducible refine go_asg ?_ | with_reducible refine go_gn (Nat.le_of_ble_eq_true (by with_unfolding_all exact rfl)) ?_ | with_reducible refine go_gT2 ?_ | with_reducible refine go_gTP ?_ | with_reducible refine go_gT4 ?_ | with_reducible refine go_neg1 ?_ | with_reducible refine go_ret ?_ | with_reducible refine go_par2 ?_ | with_reducible refine go_par3x ?_ | with_reducible refine go_exp ?_)
    refine ⟨rfl, dat_int, rfl, go_and (go_bB (go_isN ?_))⟩
    repeat (first | with_reducible refine go_op ?_ | with_reducible refine go_call ?_ | with_reducible refine go_cons ?_ | with_reducible refine go_nil ?_ | with_reducible refine go_var (by with_unfolding_all exact rfl) ?_ | with_reducible refine go_c ?_ | with_reducible refine go_int ?_ | with_reducible refine go_add ?_ | with_reducible refine go_sub ?_ | with_reducible refine go_q0 ?_ | with_reducible refine go_q1 ?_ | with_reducible refine go_p0 ?_ | with_reducible refine go_p1 ?_ | with_reducible refine go_tup2 ?_ | with_reducible refine go_tup3 ?_ | with_reducible refine go_tup4 ?_ | with_reducible refine go_seq ?_ | with_reducible refine go_asg ?_ | with_reducible refine go_gn (Nat.le_of_ble_eq_true (by with_unfolding_all exact rfl)) ?_ | with_reducible refine go_gT2 ?_ | with_reducible refine go_gTP ?_ | with_reducible refine go_gT4 ?_ | with_reducible refine go_neg1 ?_ | with_reducible refine go_ret ?_ | with_reducible refine go_par2 ?_ | with_reducible refine go_par3x ?_ | with_reducible refine go_exp ?_)
    exact ⟨_, rfl, _, _, rfl, rfl, rfl, rfl⟩
  | none =>
    refine go_and (go_bB (go_notN ?_))
    repeat (first | with_reducible refine go_op ?_ | with_reducible refine go_call ?_ | with_reducible refine go_cons ?_ | with_reducible refine go_nil ?_ | with_reducible refine go_var (by with_unfolding_all exact rfl) ?_ | with_reducible refine go_c ?_ | with_reducible refine go_int ?_ | with_reducible refine go_add ?_ | with_reducible refine go_sub ?_ | with_reducible refine go_q0 ?_ | with_reducible refine go_q1 ?_ | with_reducible refine go_p0 ?_ | with_reducible refine go_p1 ?_ | with_reducible refine go_tup2 ?_ | with_reducible refine go_tup3 ?_ | with_reducible refine go_tup4 ?_ | with_reducible refine go_seq ?_ | with_reducible refine go_asg ?_ | with_reducible refine go_gn (Nat.le_of_ble_eq_true (by with_unfolding_all exact rfl)) ?_ | with_reducible refine go_gT2 ?_ | with_reducible refine go_gTP ?_ | with_reducible refine go_gT4 ?_ | with_reducible refine go_neg1 ?_ | with_reducible refine go_ret ?_ | with_reducible refine go_par2 ?_ | with_reducible refine go_par3x ?_ | with_reducible refine go_exp ?_)
    refine ⟨_, rfl, _, _, rfl, rfl, go_andT (go_bB (go_isN ?_))⟩
    repeat (first | with_reducible refine go_op ?_ | with_reducible refine go_call ?_ | with_reducible refine go_cons ?_ | with_reducible refine go_nil ?_ | with_reducible refine go_var (by with_unfolding_all exact rfl) ?_ | with_reducible refine go_c ?_ | with_reducible refine go_int ?_ | with_reducible refine go_add ?_ | with_reducible refine go_sub ?_ | with_reducible refine go_q0 ?_ | with_reducible refine go_q1 ?_ | with_reducible refine go_p0 ?_ | with_reducible refine go_p1 ?_ | with_reducible refine go_tup2 ?_ | with_reducible refine go_tup3 ?_ | with_reducible refine go_tup4 ?_ | with_reducible refine go_seq ?_ | with_reducible refine go_asg ?_ | with_reducible refine go_gn (Nat.le_of_ble_eq_true (by with_unfolding_all exact rfl)) ?_ | with_reducible refine go_gT2 ?_ | with_reducible refine go_gTP ?_ | with_reducible refine go_gT4 ?_ | with_reducible refine go_neg1 ?_ | with_reducible refine go_ret ?_ | with_reducible refine go_par2 ?_ | with_reducible refine go_par3x ?_ | with_reducible refine go_exp ?_)
    refine ⟨_, rfl, rfl, ?_⟩
    cases b with
    | none =>
      refine go_and (go_bB (go_notN ?_))
      repeat (first | with_reducible refine go_op ?_ | with_reducible refine go_call ?_ | with_reducible refine go_cons ?_ | with_reducible refine go_nil ?_ | with_reducible refine go_var (by with_unfolding_all exact rfl) ?_ | with_reducible refine go_c ?_ | with_reducible refine go_int ?_ | with_reducible refine go_add ?_ | with_reducible refine go_sub ?_ | with_reducible refine go_q0 ?_ | with_reducible refine go_q1 ?_ | with_reducible refine go_p0 ?_ | with_reducible refine go_p1 ?_ | with_reducible refine go_tup2 ?_ | with_reducible refine go_tup3 ?_ | with_reducible refine go_tup4 ?_ | with_reducible refine go_seq ?_ | with_reducible refine go_asg ?_ | with_reducible refine go_gn (Nat.le_of_ble_eq_true (by with_unfolding_all exact rfl)) ?_ | with_reducible refine go_gT2 ?_ | with_reducible refine go_gTP ?_ | with_reducible refine go_gT4 ?_ | with_reducible refine go_neg1 ?_ | with_reducible refine go_ret ?_ | with_reducible refine go_par2 ?_ | with_reducible refine go_par3x ?_ | with_reducible refine go_exp ?_)
      exact ⟨_, rfl, _, _, rfl, rfl, rfl, rfl⟩
    | some k =>
      refine go_andT (go_bB (go_notN ?_))
      repeat (first | with_reducible refine go_op ?_ | with_reducible refine go_call ?_ | with_reducible refine go_cons ?_ | with_reducible refine go_nil ?_ | with_reducible refine go_var (by with_unfolding_all exact rfl) ?_ | with_reducible refine go_c ?_ | with_reducible refine go_int ?_ | with_reducible refine go_add ?_ | with_reducible refine go_sub ?_ | with_reducible refine go_q0 ?_ | with_reducible refine go_q1 ?_ | with_reducible refine go_p0 ?_ | with_reducible refine go_p1 ?_ | with_reducible refine go_tup2 ?_ | with_reducible refine go_tup3 ?_ | with_reducible refine go_tup4 ?_ | with_reducible refine go_seq ?_ | with_reducible refine go_asg ?_ | with_reducible refine go_gn (Nat.le_of_ble_eq_true (by with_unfolding_all exact rfl)) ?_ | with_reducible refine go_gT2 ?_ | with_reducible refine go_gTP ?_ | with_reducible refine go_gT4 ?_ | with_reducible refine go_neg1 ?_ | with_reducible refine go_ret ?_ | with_reducible refine go_par2 ?_ | with_reducible refine go_par3x ?_ | with_reducible refine go_exp ?_)
      refine ⟨_, rfl, rfl, go_bB ?_⟩
      repeat (first | with_reducible refine go_op ?_ | with_reducible refine go_call ?_ | with_reducible refine go_cons ?_ | with_reducible refine go_nil ?_ | with_reducible refine go_var (by with_unfolding_all exact rfl) ?_ | with_reducible refine go_c ?_ | with_reducible refine go_int ?_ | with_reducible refine go_add ?_ | with_reducible refine go_sub ?_ | with_reducible refine go_q0 ?_ | with_reducible refine go_q1 ?_ | with_reducible refine go_p0 ?_ | with_reducible refine go_p1 ?_ | with_reducible refine go_tup2 ?_ | with_reducible refine go_tup3 ?_ | with_reducible refine go_tup4 ?_ | with_reducible refine go_seq ?_ | with_reducible refine go_asg ?_ | with_reducible refine go_gn (Nat.le_of_ble_eq_true (by with_unfolding_all exact rfl)) ?_ | with_reducible refine go_gT2 ?_ | with_reducible refine go_gTP ?_ | with_reducible refine go_gT4 ?_ | with_reducible refine go_neg1 ?_ | with_reducible refine go_ret ?_ | with_reducible refine go_par2 ?_ | with_reducible refine go_par3x ?_ | with_reducible refine go_exp ?_)
      have := h2 k rfl rfl
      exact go_lt ⟨_, rfl, decide_eq_false (by omega), rfl, rfl⟩
end
end LW

namespace LW
open PySem L2 R
theorem rowOk {a b : Int} (a0 : 0 ≤ a) (a1 : a < 6) (b0 : 0 ≤ b) (b1 : b < 400) : RowOk (a, b - 200) := ⟨a0, by omega, by show (b - 200).natAbs < _; omega⟩
theorem c_law {X : Dv} {st : Sto} {ns : List Int} (hb : ∀ z ∈ ns, Builtin.Int.intBits z ≤ 1048576) (hX : asL st X = some (ns.map .int)) : Go (m_law [X] st) fun d _ => d = .bl true := by
  refine go_fn ?_
  refine go_lawF hb hX rfl rfl (Nat.le_of_ble_eq_true rfl) (fun i s T => ?_) (fun ls s => go_isT (by decide +kernel))
  repeat (first | with_reducible refine go_op ?_ | with_reducible refine go_call ?_ | with_reducible refine go_cons ?_ | with_reducible refine go_nil ?_ | with_reducible refine go_var (by with_unfolding_all exact rfl) ?_ | with_reducible refine go_c ?_ | with_reducible refine go_int ?_ | with_reducible refine go_add ?_ | with_reducible refine go_sub ?_ | with_reducible refine go_q0 ?_ | with_reducible refine go_q1 ?_ | with_reducible refine go_p0 ?_ | with_reducible refine go_p1 ?_ | with_reducible refine go_tup2 ?_ | with_reducible refine go_tup3 ?_ | with_reducible refine go_tup4 ?_ | with_reducible refine go_seq ?_ | with_reducible refine go_asg ?_ | with_reducible refine go_gn (Nat.le_of_ble_eq_true (by with_unfolding_all exact rfl)) ?_ | with_reducible refine go_gT2 ?_ | with_reducible refine go_gTP ?_ | with_reducible refine go_gT4 ?_ | with_reducible refine go_neg1 ?_ | with_reducible refine go_ret ?_ | with_reducible refine go_par2 ?_ | with_reducible refine go_par3x ?_ | with_reducible refine go_exp ?_)
  refine go_rollT T (by decide) (by decide) fun p0 s p00 p01 T B => ?_
  repeat (first | with_reducible refine go_op ?_ | with_reducible refine go_call ?_ | with_reducible refine go_cons ?_ | with_reducible refine go_nil ?_ | with_reducible refine go_var (by with_unfolding_all exact rfl) ?_ | with_reducible refine go_c ?_ | with_reducible refine go_int ?_ | with_reducible refine go_add ?_ | with_reducible refine go_sub ?_ | with_reducible refine go_q0 ?_ | with_reducible refine go_q1 ?_ | with_reducible refine go_p0 ?_ | with_reducible refine go_p1 ?_ | with_reducible refine go_tup2 ?_ | with_reducible refine go_tup3 ?_ | with_reducible refine go_tup4 ?_ | with_reducible refine go_seq ?_ | with_reducible refine go_asg ?_ | with_reducible refine go_gn (Nat.le_of_ble_eq_true (by with_unfolding_all exact rfl)) ?_ | with_reducible refine go_gT2 ?_ | with_reducible refine go_gTP ?_ | with_reducible refine go_gT4 ?_ | with_reducible refine go_neg1 ?_ | with_reducible refine go_ret ?_ | with_reducible refine go_par2 ?_ | with_reducible refine go_par3x ?_ | with_reducible refine go_exp ?_)
  refine go_rollT T (by decide) (by decide) fun q0 s q00 q01 T B => ?_
  repeat (first | with_reducible refine go_op ?_ | with_reducible refine go_call ?_ | with_reducible refine go_cons ?_ | with_reducible refine go_nil ?_ | with_reducible refine go_var (by with_unfolding_all exact rfl) ?_ | with_reducible refine go_c ?_ | with_reducible refine go_int ?_ | with_reducible refine go_add ?_ | with_reducible refine go_sub ?_ | with_reducible refine go_q0 ?_ | with_reducible refine go_q1 ?_ | with_reducible refine go_p0 ?_ | with_reducible refine go_p1 ?_ | with_reducible refine go_tup2 ?_ | with_reducible refine go_tup3 ?_ | with_reducible refine go_tup4 ?_ | with_reducible refine go_seq ?_ | with_reducible refine go_asg ?_ | with_reducible refine go_gn (Nat.le_of_ble_eq_true (by with_unfolding_all exact rfl)) ?_ | with_reducible refine go_gT2 ?_ | with_reducible refine go_gTP ?_ | with_reducible refine go_gT4 ?_ | with_reducible refine go_neg1 ?_ | with_reducible refine go_ret ?_ | with_reducible refine go_par2 ?_ | with_reducible refine go_par3x ?_ | with_reducible refine go_exp ?_)
  refine go_rat ratF_B 6 (by omega) (by decide) (by decide) (by decide) ?_
  have hr : SmQ 6 ((q0 : Rat) / ((50 : Int) : Rat)) := smQ_div (by omega) (by decide) (by decide)
  have c50 := cast_pos (show (0 : Int) < 50 by decide)
  have h0 : 0 ≤ (q0 : Rat) / ((50 : Int) : Rat) := Rat.not_lt.mp fun h => by
    rw [Rat.div_lt_iff c50] at h
    have := Rat.intCast_le_intCast.mpr q00
    grind
  have h1 : (q0 : Rat) / ((50 : Int) : Rat) ≤ 1 := Rat.not_lt.mp fun h => by
    rw [Rat.lt_div_iff c50] at h
    have := Rat.intCast_le_intCast.mpr (show q0 ≤ 50 by omega)
    grind
  generalize (q0 : Rat) / ((50 : Int) : Rat) = r at *
  repeat (first | with_reducible refine go_op ?_ | with_reducible refine go_call ?_ | with_reducible refine go_cons ?_ | with_reducible refine go_nil ?_ | with_reducible refine go_var (by with_unfolding_all exact rfl) ?_ | with_reducible refine go_c ?_ | with_reducible refine go_int ?_ | with_reducible refine go_add ?_ | with_reducible refine go_sub ?_ | with_reducible refine go_q0 ?_ | with_reducible refine go_q1 ?_ | with_reducible refine go_p0 ?_ | with_reducible refine go_p1 ?_ | with_reducible refine go_tup2 ?_ | with_reducible refine go_tup3 ?_ | with_reducible refine go_tup4 ?_ | with_reducible refine go_seq ?_ | with_reducible refine go_asg ?_ | with_reducible refine go_gn (Nat.le_of_ble_eq_true (by with_unfolding_all exact rfl)) ?_ | with_reducible refine go_gT2 ?_ | with_reducible refine go_gTP ?_ | with_reducible refine go_gT4 ?_ | with_reducible refine go_neg1 ?_ | with_reducible refine go_ret ?_ | with_reducible refine go_par2 ?_ | with_reducible refine go_par3x ?_ | with_reducible refine go_exp ?_)
  refine go_rollT T (by decide) (by decide) fun y s y0 y1 T B => ⟨Nat.le_of_ble_eq_true rfl, Nat.le_of_ble_eq_true rfl, Nat.le_of_ble_eq_true rfl, ?_⟩
  obtain ⟨p, hp⟩ : ∃ p, 1 + p0 = p := ⟨_, rfl⟩
  rw [hp]
  have p1 : 1 ≤ p := by omega
  have p2 : p ≤ 900 := by omega
  have ps : p.natAbs < 2 ^ 20 := by omega
  clear hp p00 p01 B
  repeat (first | with_reducible refine go_op ?_ | with_reducible refine go_call ?_ | with_reducible refine go_cons ?_ | with_reducible refine go_nil ?_ | with_reducible refine go_var (by with_unfolding_all exact rfl) ?_ | with_reducible refine go_c ?_ | with_reducible refine go_int ?_ | with_reducible refine go_add ?_ | with_reducible refine go_sub ?_ | with_reducible refine go_q0 ?_ | with_reducible refine go_q1 ?_ | with_reducible refine go_p0 ?_ | with_reducible refine go_p1 ?_ | with_reducible refine go_tup2 ?_ | with_reducible refine go_tup3 ?_ | with_reducible refine go_tup4 ?_ | with_reducible refine go_seq ?_ | with_reducible refine go_asg ?_ | with_reducible refine go_gn (Nat.le_of_ble_eq_true (by with_unfolding_all exact rfl)) ?_ | with_reducible refine go_gT2 ?_ | with_reducible refine go_gTP ?_ | with_reducible refine go_gT4 ?_ | with_reducible refine go_neg1 ?_ | with_reducible refine go_ret ?_ | with_reducible refine go_par2 ?_ | with_reducible refine go_par3x ?_ | with_reducible refine go_exp ?_)
  refine go_guard1 (go_orF (go_neF ?_))
  repeat (first | with_reducible refine go_op ?_ | with_reducible refine go_call ?_ | with_reducible refine go_cons ?_ | with_reducible refine go_nil ?_ | with_reducible refine go_var (by with_unfolding_all exact rfl) ?_ | with_reducible refine go_c ?_ | with_reducible refine go_int ?_ | with_reducible refine go_add ?_ | with_reducible refine go_sub ?_ | with_reducible refine go_q0 ?_ | with_reducible refine go_q1 ?_ | with_reducible refine go_p0 ?_ | with_reducible refine go_p1 ?_ | with_reducible refine go_tup2 ?_ | with_reducible refine go_tup3 ?_ | with_reducible refine go_tup4 ?_ | with_reducible refine go_seq ?_ | with_reducible refine go_asg ?_ | with_reducible refine go_gn (Nat.le_of_ble_eq_true (by with_unfolding_all exact rfl)) ?_ | with_reducible refine go_gT2 ?_ | with_reducible refine go_gTP ?_ | with_reducible refine go_gT4 ?_ | with_reducible refine go_neg1 ?_ | with_reducible refine go_ret ?_ | with_reducible refine go_par2 ?_ | with_reducible refine go_par3x ?_ | with_reducible refine go_exp ?_)
  refine c_grown (RatV.i (n := 20) ps) (RatV.q hr) h0 h1 (by omega) (by omega) y0 (by omega) ?_
  repeat (first | with_reducible refine go_op ?_ | with_reducible refine go_call ?_ | with_reducible refine go_cons ?_ | with_reducible refine go_nil ?_ | with_reducible refine go_var (by with_unfolding_all exact rfl) ?_ | with_reducible refine go_c ?_ | with_reducible refine go_int ?_ | with_reducible refine go_add ?_ | with_reducible refine go_sub ?_ | with_reducible refine go_q0 ?_ | with_reducible refine go_q1 ?_ | with_reducible refine go_p0 ?_ | with_reducible refine go_p1 ?_ | with_reducible refine go_tup2 ?_ | with_reducible refine go_tup3 ?_ | with_reducible refine go_tup4 ?_ | with_reducible refine go_seq ?_ | with_reducible refine go_asg ?_ | with_reducible refine go_gn (Nat.le_of_ble_eq_true (by with_unfolding_all exact rfl)) ?_ | with_reducible refine go_gT2 ?_ | with_reducible refine go_gTP ?_ | with_reducible refine go_gT4 ?_ | with_reducible refine go_neg1 ?_ | with_reducible refine go_ret ?_ | with_reducible refine go_par2 ?_ | with_reducible refine go_par3x ?_ | with_reducible refine go_exp ?_)
  refine c_lgrown (RatV.q hr) (by omega) ps y0 (by omega) ⟨rfl, dat_q, rfl, go_bB (go_notN ?_)⟩
  repeat (first | with_reducible refine go_op ?_ | with_reducible refine go_call ?_ | with_reducible refine go_cons ?_ | with_reducible refine go_nil ?_ | with_reducible refine go_var (by with_unfolding_all exact rfl) ?_ | with_reducible refine go_c ?_ | with_reducible refine go_int ?_ | with_reducible refine go_add ?_ | with_reducible refine go_sub ?_ | with_reducible refine go_q0 ?_ | with_reducible refine go_q1 ?_ | with_reducible refine go_p0 ?_ | with_reducible refine go_p1 ?_ | with_reducible refine go_tup2 ?_ | with_reducible refine go_tup3 ?_ | with_reducible refine go_tup4 ?_ | with_reducible refine go_seq ?_ | with_reducible refine go_asg ?_ | with_reducible refine go_gn (Nat.le_of_ble_eq_true (by with_unfolding_all exact rfl)) ?_ | with_reducible refine go_gT2 ?_ | with_reducible refine go_gTP ?_ | with_reducible refine go_gT4 ?_ | with_reducible refine go_neg1 ?_ | with_reducible refine go_ret ?_ | with_reducible refine go_par2 ?_ | with_reducible refine go_par3x ?_ | with_reducible refine go_exp ?_)
  refine c_check (RatV.q hr) h0 h1 (by omega) ⟨_, rfl, rfl, ?_⟩
  repeat (first | with_reducible refine go_op ?_ | with_reducible refine go_call ?_ | with_reducible refine go_cons ?_ | with_reducible refine go_nil ?_ | with_reducible refine go_var (by with_unfolding_all exact rfl) ?_ | with_reducible refine go_c ?_ | with_reducible refine go_int ?_ | with_reducible refine go_add ?_ | with_reducible refine go_sub ?_ | with_reducible refine go_q0 ?_ | with_reducible refine go_q1 ?_ | with_reducible refine go_p0 ?_ | with_reducible refine go_p1 ?_ | with_reducible refine go_tup2 ?_ | with_reducible refine go_tup3 ?_ | with_reducible refine go_tup4 ?_ | with_reducible refine go_seq ?_ | with_reducible refine go_asg ?_ | with_reducible refine go_gn (Nat.le_of_ble_eq_true (by with_unfolding_all exact rfl)) ?_ | with_reducible refine go_gT2 ?_ | with_reducible refine go_gTP ?_ | with_reducible refine go_gT4 ?_ | with_reducible refine go_neg1 ?_ | with_reducible refine go_ret ?_ | with_reducible refine go_par2 ?_ | with_reducible refine go_par3x ?_ | with_reducible refine go_exp ?_)
  refine go_lcRoll (i := i) 1000000 10 4 enP RowOk (by decide) (go_wRoll (i := i) (n := 4) (by decide) (by decide) rfl ?_ (T.less (m' := 1000100 + 1) (by decide)) fun k u s u0 u1 hk T B => ⟨_, hk, rng_len (by omega), T.less (by decide), B⟩) (fun d s m' T => ?_) fun A s hA lA T B => ?_
  · repeat (first | with_reducible refine go_op ?_ | with_reducible refine go_call ?_ | with_reducible refine go_cons ?_ | with_reducible refine go_nil ?_ | with_reducible refine go_var (by with_unfolding_all exact rfl) ?_ | with_reducible refine go_c ?_ | with_reducible refine go_int ?_ | with_reducible refine go_add ?_ | with_reducible refine go_sub ?_ | with_reducible refine go_q0 ?_ | with_reducible refine go_q1 ?_ | with_reducible refine go_p0 ?_ | with_reducible refine go_p1 ?_ | with_reducible refine go_tup2 ?_ | with_reducible refine go_tup3 ?_ | with_reducible refine go_tup4 ?_ | with_reducible refine go_seq ?_ | with_reducible refine go_asg ?_ | with_reducible refine go_gn (Nat.le_of_ble_eq_true (by with_unfolding_all exact rfl)) ?_ | with_reducible refine go_gT2 ?_ | with_reducible refine go_gTP ?_ | with_reducible refine go_gT4 ?_ | with_reducible refine go_neg1 ?_ | with_reducible refine go_ret ?_ | with_reducible refine go_par2 ?_ | with_reducible refine go_par3x ?_ | with_reducible refine go_exp ?_)
    exact ⟨rfl, rfl⟩
  · repeat (first | with_reducible refine go_op ?_ | with_reducible refine go_call ?_ | with_reducible refine go_cons ?_ | with_reducible refine go_nil ?_ | with_reducible refine go_var (by with_unfolding_all exact rfl) ?_ | with_reducible refine go_c ?_ | with_reducible refine go_int ?_ | with_reducible refine go_add ?_ | with_reducible refine go_sub ?_ | with_reducible refine go_q0 ?_ | with_reducible refine go_q1 ?_ | with_reducible refine go_p0 ?_ | with_reducible refine go_p1 ?_ | with_reducible refine go_tup2 ?_ | with_reducible refine go_tup3 ?_ | with_reducible refine go_tup4 ?_ | with_reducible refine go_seq ?_ | with_reducible refine go_asg ?_ | with_reducible refine go_gn (Nat.le_of_ble_eq_true (by with_unfolding_all exact rfl)) ?_ | with_reducible refine go_gT2 ?_ | with_reducible refine go_gTP ?_ | with_reducible refine go_gT4 ?_ | with_reducible refine go_neg1 ?_ | with_reducible refine go_ret ?_ | with_reducible refine go_par2 ?_ | with_reducible refine go_par3x ?_ | with_reducible refine go_exp ?_)
    refine go_rollT (T.less (m' := m' + 9 + 1) (by omega)) (by decide) (by decide) fun u s u0 u1 T B => ?_
    repeat (first | with_reducible refine go_op ?_ | with_reducible refine go_call ?_ | with_reducible refine go_cons ?_ | with_reducible refine go_nil ?_ | with_reducible refine go_var (by with_unfolding_all exact rfl) ?_ | with_reducible refine go_c ?_ | with_reducible refine go_int ?_ | with_reducible refine go_add ?_ | with_reducible refine go_sub ?_ | with_reducible refine go_q0 ?_ | with_reducible refine go_q1 ?_ | with_reducible refine go_p0 ?_ | with_reducible refine go_p1 ?_ | with_reducible refine go_tup2 ?_ | with_reducible refine go_tup3 ?_ | with_reducible refine go_tup4 ?_ | with_reducible refine go_seq ?_ | with_reducible refine go_asg ?_ | with_reducible refine go_gn (Nat.le_of_ble_eq_true (by with_unfolding_all exact rfl)) ?_ | with_reducible refine go_gT2 ?_ | with_reducible refine go_gTP ?_ | with_reducible refine go_gT4 ?_ | with_reducible refine go_neg1 ?_ | with_reducible refine go_ret ?_ | with_reducible refine go_par2 ?_ | with_reducible refine go_par3x ?_ | with_reducible refine go_exp ?_)
    refine go_rollT (T.less (m' := m' + 8 + 1) (by omega)) (by decide) (by decide) fun v s v0 v1 T B2 => ?_
    repeat (first | with_reducible refine go_op ?_ | with_reducible refine go_call ?_ | with_reducible refine go_cons ?_ | with_reducible refine go_nil ?_ | with_reducible refine go_var (by with_unfolding_all exact rfl) ?_ | with_reducible refine go_c ?_ | with_reducible refine go_int ?_ | with_reducible refine go_add ?_ | with_reducible refine go_sub ?_ | with_reducible refine go_q0 ?_ | with_reducible refine go_q1 ?_ | with_reducible refine go_p0 ?_ | with_reducible refine go_p1 ?_ | with_reducible refine go_tup2 ?_ | with_reducible refine go_tup3 ?_ | with_reducible refine go_tup4 ?_ | with_reducible refine go_seq ?_ | with_reducible refine go_asg ?_ | with_reducible refine go_gn (Nat.le_of_ble_eq_true (by with_unfolding_all exact rfl)) ?_ | with_reducible refine go_gT2 ?_ | with_reducible refine go_gTP ?_ | with_reducible refine go_gT4 ?_ | with_reducible refine go_neg1 ?_ | with_reducible refine go_ret ?_ | with_reducible refine go_par2 ?_ | with_reducible refine go_par3x ?_ | with_reducible refine go_exp ?_)
    exact ⟨(u, v - 200), rfl, rowOk u0 u1 v0 v1, T.less (by omega), B.trans B2⟩
  repeat (first | with_reducible refine go_op ?_ | with_reducible refine go_call ?_ | with_reducible refine go_cons ?_ | with_reducible refine go_nil ?_ | with_reducible refine go_var (by with_unfolding_all exact rfl) ?_ | with_reducible refine go_c ?_ | with_reducible refine go_int ?_ | with_reducible refine go_add ?_ | with_reducible refine go_sub ?_ | with_reducible refine go_q0 ?_ | with_reducible refine go_q1 ?_ | with_reducible refine go_p0 ?_ | with_reducible refine go_p1 ?_ | with_reducible refine go_tup2 ?_ | with_reducible refine go_tup3 ?_ | with_reducible refine go_tup4 ?_ | with_reducible refine go_seq ?_ | with_reducible refine go_asg ?_ | with_reducible refine go_gn (Nat.le_of_ble_eq_true (by with_unfolding_all exact rfl)) ?_ | with_reducible refine go_gT2 ?_ | with_reducible refine go_gTP ?_ | with_reducible refine go_gT4 ?_ | with_reducible refine go_neg1 ?_ | with_reducible refine go_ret ?_ | with_reducible refine go_par2 ?_ | with_reducible refine go_par3x ?_ | with_reducible refine go_exp ?_)
  clear B
  refine go_lcRoll (i := i) 900000 10 4 enP RowOk (by decide) (go_wRoll (i := i) (n := 4) (by decide) (by decide) rfl ?_ (T.less (m' := 900100 + 1) (by decide)) fun k u s u0 u1 hk T B => ⟨_, hk, rng_len (by omega), T.less (by decide), B⟩) (fun d s m' T => ?_) fun B s hB lB T _ => ?_
  · repeat (first | with_reducible refine go_op ?_ | with_reducible refine go_call ?_ | with_reducible refine go_cons ?_ | with_reducible refine go_nil ?_ | with_reducible refine go_var (by with_unfolding_all exact rfl) ?_ | with_reducible refine go_c ?_ | with_reducible refine go_int ?_ | with_reducible refine go_add ?_ | with_reducible refine go_sub ?_ | with_reducible refine go_q0 ?_ | with_reducible refine go_q1 ?_ | with_reducible refine go_p0 ?_ | with_reducible refine go_p1 ?_ | with_reducible refine go_tup2 ?_ | with_reducible refine go_tup3 ?_ | with_reducible refine go_tup4 ?_ | with_reducible refine go_seq ?_ | with_reducible refine go_asg ?_ | with_reducible refine go_gn (Nat.le_of_ble_eq_true (by with_unfolding_all exact rfl)) ?_ | with_reducible refine go_gT2 ?_ | with_reducible refine go_gTP ?_ | with_reducible refine go_gT4 ?_ | with_reducible refine go_neg1 ?_ | with_reducible refine go_ret ?_ | with_reducible refine go_par2 ?_ | with_reducible refine go_par3x ?_ | with_reducible refine go_exp ?_)
    exact ⟨rfl, rfl⟩
  · repeat (first | with_reducible refine go_op ?_ | with_reducible refine go_call ?_ | with_reducible refine go_cons ?_ | with_reducible refine go_nil ?_ | with_reducible refine go_var (by with_unfolding_all exact rfl) ?_ | with_reducible refine go_c ?_ | with_reducible refine go_int ?_ | with_reducible refine go_add ?_ | with_reducible refine go_sub ?_ | with_reducible refine go_q0 ?_ | with_reducible refine go_q1 ?_ | with_reducible refine go_p0 ?_ | with_reducible refine go_p1 ?_ | with_reducible refine go_tup2 ?_ | with_reducible refine go_tup3 ?_ | with_reducible refine go_tup4 ?_ | with_reducible refine go_seq ?_ | with_reducible refine go_asg ?_ | with_reducible refine go_gn (Nat.le_of_ble_eq_true (by with_unfolding_all exact rfl)) ?_ | with_reducible refine go_gT2 ?_ | with_reducible refine go_gTP ?_ | with_reducible refine go_gT4 ?_ | with_reducible refine go_neg1 ?_ | with_reducible refine go_ret ?_ | with_reducible refine go_par2 ?_ | with_reducible refine go_par3x ?_ | with_reducible refine go_exp ?_)
    refine go_rollT (T.less (m' := m' + 9 + 1) (by omega)) (by decide) (by decide) fun u s u0 u1 T B => ?_
    repeat (first | with_reducible refine go_op ?_ | with_reducible refine go_call ?_ | with_reducible refine go_cons ?_ | with_reducible refine go_nil ?_ | with_reducible refine go_var (by with_unfolding_all exact rfl) ?_ | with_reducible refine go_c ?_ | with_reducible refine go_int ?_ | with_reducible refine go_add ?_ | with_reducible refine go_sub ?_ | with_reducible refine go_q0 ?_ | with_reducible refine go_q1 ?_ | with_reducible refine go_p0 ?_ | with_reducible refine go_p1 ?_ | with_reducible refine go_tup2 ?_ | with_reducible refine go_tup3 ?_ | with_reducible refine go_tup4 ?_ | with_reducible refine go_seq ?_ | with_reducible refine go_asg ?_ | with_reducible refine go_gn (Nat.le_of_ble_eq_true (by with_unfolding_all exact rfl)) ?_ | with_reducible refine go_gT2 ?_ | with_reducible refine go_gTP ?_ | with_reducible refine go_gT4 ?_ | with_reducible refine go_neg1 ?_ | with_reducible refine go_ret ?_ | with_reducible refine go_par2 ?_ | with_reducible refine go_par3x ?_ | with_reducible refine go_exp ?_)
    refine go_rollT (T.less (m' := m' + 8 + 1) (by omega)) (by decide) (by decide) fun v s v0 v1 T B2 => ?_
    repeat (first | with_reducible refine go_op ?_ | with_reducible refine go_call ?_ | with_reducible refine go_cons ?_ | with_reducible refine go_nil ?_ | with_reducible refine go_var (by with_unfolding_all exact rfl) ?_ | with_reducible refine go_c ?_ | with_reducible refine go_int ?_ | with_reducible refine go_add ?_ | with_reducible refine go_sub ?_ | with_reducible refine go_q0 ?_ | with_reducible refine go_q1 ?_ | with_reducible refine go_p0 ?_ | with_reducible refine go_p1 ?_ | with_reducible refine go_tup2 ?_ | with_reducible refine go_tup3 ?_ | with_reducible refine go_tup4 ?_ | with_reducible refine go_seq ?_ | with_reducible refine go_asg ?_ | with_reducible refine go_gn (Nat.le_of_ble_eq_true (by with_unfolding_all exact rfl)) ?_ | with_reducible refine go_gT2 ?_ | with_reducible refine go_gTP ?_ | with_reducible refine go_gT4 ?_ | with_reducible refine go_neg1 ?_ | with_reducible refine go_ret ?_ | with_reducible refine go_par2 ?_ | with_reducible refine go_par3x ?_ | with_reducible refine go_exp ?_)
    exact ⟨(u, v - 200), rfl, rowOk u0 u1 v0 v1, T.less (by omega), B.trans B2⟩
  have lA : A.length ≤ 10 := by omega
  have lB : B.length ≤ 10 := by omega
  repeat (first | with_reducible refine go_op ?_ | with_reducible refine go_call ?_ | with_reducible refine go_cons ?_ | with_reducible refine go_nil ?_ | with_reducible refine go_var (by with_unfolding_all exact rfl) ?_ | with_reducible refine go_c ?_ | with_reducible refine go_int ?_ | with_reducible refine go_add ?_ | with_reducible refine go_sub ?_ | with_reducible refine go_q0 ?_ | with_reducible refine go_q1 ?_ | with_reducible refine go_p0 ?_ | with_reducible refine go_p1 ?_ | with_reducible refine go_tup2 ?_ | with_reducible refine go_tup3 ?_ | with_reducible refine go_tup4 ?_ | with_reducible refine go_seq ?_ | with_reducible refine go_asg ?_ | with_reducible refine go_gn (Nat.le_of_ble_eq_true (by with_unfolding_all exact rfl)) ?_ | with_reducible refine go_gT2 ?_ | with_reducible refine go_gTP ?_ | with_reducible refine go_gT4 ?_ | with_reducible refine go_neg1 ?_ | with_reducible refine go_ret ?_ | with_reducible refine go_par2 ?_ | with_reducible refine go_par3x ?_ | with_reducible refine go_exp ?_)
  refine c_lworth (RatV.q hr) h0 (by omega) hA lA ?_
  repeat (first | with_reducible refine go_op ?_ | with_reducible refine go_call ?_ | with_reducible refine go_cons ?_ | with_reducible refine go_nil ?_ | with_reducible refine go_var (by with_unfolding_all exact rfl) ?_ | with_reducible refine go_c ?_ | with_reducible refine go_int ?_ | with_reducible refine go_add ?_ | with_reducible refine go_sub ?_ | with_reducible refine go_q0 ?_ | with_reducible refine go_q1 ?_ | with_reducible refine go_p0 ?_ | with_reducible refine go_p1 ?_ | with_reducible refine go_tup2 ?_ | with_reducible refine go_tup3 ?_ | with_reducible refine go_tup4 ?_ | with_reducible refine go_seq ?_ | with_reducible refine go_asg ?_ | with_reducible refine go_gn (Nat.le_of_ble_eq_true (by with_unfolding_all exact rfl)) ?_ | with_reducible refine go_gT2 ?_ | with_reducible refine go_gTP ?_ | with_reducible refine go_gT4 ?_ | with_reducible refine go_neg1 ?_ | with_reducible refine go_ret ?_ | with_reducible refine go_par2 ?_ | with_reducible refine go_par3x ?_ | with_reducible refine go_exp ?_)
  refine c_lworth (RatV.q hr) h0 (by omega) hB lB ?_
  have sA := worth_sm hr (by omega) h0 hA lA
  have sB := worth_sm hr (by omega) h0 hB lB
  refine ⟨Nat.le_of_ble_eq_true rfl, Nat.le_of_ble_eq_true rfl, ?_⟩
  repeat (first | with_reducible refine go_op ?_ | with_reducible refine go_call ?_ | with_reducible refine go_cons ?_ | with_reducible refine go_nil ?_ | with_reducible refine go_var (by with_unfolding_all exact rfl) ?_ | with_reducible refine go_c ?_ | with_reducible refine go_int ?_ | with_reducible refine go_add ?_ | with_reducible refine go_sub ?_ | with_reducible refine go_q0 ?_ | with_reducible refine go_q1 ?_ | with_reducible refine go_p0 ?_ | with_reducible refine go_p1 ?_ | with_reducible refine go_tup2 ?_ | with_reducible refine go_tup3 ?_ | with_reducible refine go_tup4 ?_ | with_reducible refine go_seq ?_ | with_reducible refine go_asg ?_ | with_reducible refine go_gn (Nat.le_of_ble_eq_true (by with_unfolding_all exact rfl)) ?_ | with_reducible refine go_gT2 ?_ | with_reducible refine go_gTP ?_ | with_reducible refine go_gT4 ?_ | with_reducible refine go_neg1 ?_ | with_reducible refine go_ret ?_ | with_reducible refine go_par2 ?_ | with_reducible refine go_par3x ?_ | with_reducible refine go_exp ?_)
  refine go_guardNe1 ?_
  repeat (first | with_reducible refine go_op ?_ | with_reducible refine go_call ?_ | with_reducible refine go_cons ?_ | with_reducible refine go_nil ?_ | with_reducible refine go_var (by with_unfolding_all exact rfl) ?_ | with_reducible refine go_c ?_ | with_reducible refine go_int ?_ | with_reducible refine go_add ?_ | with_reducible refine go_sub ?_ | with_reducible refine go_q0 ?_ | with_reducible refine go_q1 ?_ | with_reducible refine go_p0 ?_ | with_reducible refine go_p1 ?_ | with_reducible refine go_tup2 ?_ | with_reducible refine go_tup3 ?_ | with_reducible refine go_tup4 ?_ | with_reducible refine go_seq ?_ | with_reducible refine go_asg ?_ | with_reducible refine go_gn (Nat.le_of_ble_eq_true (by with_unfolding_all exact rfl)) ?_ | with_reducible refine go_gT2 ?_ | with_reducible refine go_gTP ?_ | with_reducible refine go_gT4 ?_ | with_reducible refine go_neg1 ?_ | with_reducible refine go_ret ?_ | with_reducible refine go_par2 ?_ | with_reducible refine go_par3x ?_ | with_reducible refine go_exp ?_)
  refine c_worth (RatV.q hr) h0 h1 (by omega) hA lA ?_
  repeat (first | with_reducible refine go_op ?_ | with_reducible refine go_call ?_ | with_reducible refine go_cons ?_ | with_reducible refine go_nil ?_ | with_reducible refine go_var (by with_unfolding_all exact rfl) ?_ | with_reducible refine go_c ?_ | with_reducible refine go_int ?_ | with_reducible refine go_add ?_ | with_reducible refine go_sub ?_ | with_reducible refine go_q0 ?_ | with_reducible refine go_q1 ?_ | with_reducible refine go_p0 ?_ | with_reducible refine go_p1 ?_ | with_reducible refine go_tup2 ?_ | with_reducible refine go_tup3 ?_ | with_reducible refine go_tup4 ?_ | with_reducible refine go_seq ?_ | with_reducible refine go_asg ?_ | with_reducible refine go_gn (Nat.le_of_ble_eq_true (by with_unfolding_all exact rfl)) ?_ | with_reducible refine go_gT2 ?_ | with_reducible refine go_gTP ?_ | with_reducible refine go_gT4 ?_ | with_reducible refine go_neg1 ?_ | with_reducible refine go_ret ?_ | with_reducible refine go_par2 ?_ | with_reducible refine go_par3x ?_ | with_reducible refine go_exp ?_)
  refine ⟨rfl, dat_q, ?_⟩
  repeat (first | with_reducible refine go_op ?_ | with_reducible refine go_call ?_ | with_reducible refine go_cons ?_ | with_reducible refine go_nil ?_ | with_reducible refine go_var (by with_unfolding_all exact rfl) ?_ | with_reducible refine go_c ?_ | with_reducible refine go_int ?_ | with_reducible refine go_add ?_ | with_reducible refine go_sub ?_ | with_reducible refine go_q0 ?_ | with_reducible refine go_q1 ?_ | with_reducible refine go_p0 ?_ | with_reducible refine go_p1 ?_ | with_reducible refine go_tup2 ?_ | with_reducible refine go_tup3 ?_ | with_reducible refine go_tup4 ?_ | with_reducible refine go_seq ?_ | with_reducible refine go_asg ?_ | with_reducible refine go_gn (Nat.le_of_ble_eq_true (by with_unfolding_all exact rfl)) ?_ | with_reducible refine go_gT2 ?_ | with_reducible refine go_gTP ?_ | with_reducible refine go_gT4 ?_ | with_reducible refine go_neg1 ?_ | with_reducible refine go_ret ?_ | with_reducible refine go_par2 ?_ | with_reducible refine go_par3x ?_ | with_reducible refine go_exp ?_)
  refine go_guardNe1 ?_
  repeat (first | with_reducible refine go_op ?_ | with_reducible refine go_call ?_ | with_reducible refine go_cons ?_ | with_reducible refine go_nil ?_ | with_reducible refine go_var (by with_unfolding_all exact rfl) ?_ | with_reducible refine go_c ?_ | with_reducible refine go_int ?_ | with_reducible refine go_add ?_ | with_reducible refine go_sub ?_ | with_reducible refine go_q0 ?_ | with_reducible refine go_q1 ?_ | with_reducible refine go_p0 ?_ | with_reducible refine go_p1 ?_ | with_reducible refine go_tup2 ?_ | with_reducible refine go_tup3 ?_ | with_reducible refine go_tup4 ?_ | with_reducible refine go_seq ?_ | with_reducible refine go_asg ?_ | with_reducible refine go_gn (Nat.le_of_ble_eq_true (by with_unfolding_all exact rfl)) ?_ | with_reducible refine go_gT2 ?_ | with_reducible refine go_gTP ?_ | with_reducible refine go_gT4 ?_ | with_reducible refine go_neg1 ?_ | with_reducible refine go_ret ?_ | with_reducible refine go_par2 ?_ | with_reducible refine go_par3x ?_ | with_reducible refine go_exp ?_)
  refine c_better (RatV.q hr) h0 h1 (by omega) hA lA hB lB ?_
  refine go_mono2 (d := .int (betI (worthR r A) (worthR r B))) (go_if (go_bB ?_)) ⟨rfl, dat_int, ?_⟩
  · unfold betI
    repeat (first | with_reducible refine go_op ?_ | with_reducible refine go_call ?_ | with_reducible refine go_cons ?_ | with_reducible refine go_nil ?_ | with_reducible refine go_var (by with_unfolding_all exact rfl) ?_ | with_reducible refine go_c ?_ | with_reducible refine go_int ?_ | with_reducible refine go_add ?_ | with_reducible refine go_sub ?_ | with_reducible refine go_q0 ?_ | with_reducible refine go_q1 ?_ | with_reducible refine go_p0 ?_ | with_reducible refine go_p1 ?_ | with_reducible refine go_tup2 ?_ | with_reducible refine go_tup3 ?_ | with_reducible refine go_tup4 ?_ | with_reducible refine go_seq ?_ | with_reducible refine go_asg ?_ | with_reducible refine go_gn (Nat.le_of_ble_eq_true (by with_unfolding_all exact rfl)) ?_ | with_reducible refine go_gT2 ?_ | with_reducible refine go_gTP ?_ | with_reducible refine go_gT4 ?_ | with_reducible refine go_neg1 ?_ | with_reducible refine go_ret ?_ | with_reducible refine go_par2 ?_ | with_reducible refine go_par3x ?_ | with_reducible refine go_exp ?_)
    refine go_eqQ ⟨_, rfl, go_ifP (fun c => ?_) fun c => ?_⟩
    · rw [if_pos c]
      exact go_c ⟨rfl, rfl⟩
    · rw [if_neg c]
      refine go_if (go_bB ?_)
      repeat (first | with_reducible refine go_op ?_ | with_reducible refine go_call ?_ | with_reducible refine go_cons ?_ | with_reducible refine go_nil ?_ | with_reducible refine go_var (by with_unfolding_all exact rfl) ?_ | with_reducible refine go_c ?_ | with_reducible refine go_int ?_ | with_reducible refine go_add ?_ | with_reducible refine go_sub ?_ | with_reducible refine go_q0 ?_ | with_reducible refine go_q1 ?_ | with_reducible refine go_p0 ?_ | with_reducible refine go_p1 ?_ | with_reducible refine go_tup2 ?_ | with_reducible refine go_tup3 ?_ | with_reducible refine go_tup4 ?_ | with_reducible refine go_seq ?_ | with_reducible refine go_asg ?_ | with_reducible refine go_gn (Nat.le_of_ble_eq_true (by with_unfolding_all exact rfl)) ?_ | with_reducible refine go_gT2 ?_ | with_reducible refine go_gTP ?_ | with_reducible refine go_gT4 ?_ | with_reducible refine go_neg1 ?_ | with_reducible refine go_ret ?_ | with_reducible refine go_par2 ?_ | with_reducible refine go_par3x ?_ | with_reducible refine go_exp ?_)
      refine go_less (RatV.q sB) (RatV.q sA) (by omega) ⟨_, rfl, go_ifP (fun c => ?_) fun c => ?_⟩
      · rw [if_pos c]
        exact go_c ⟨rfl, rfl⟩
      · rw [if_neg c]
        exact go_c ⟨rfl, rfl⟩
  repeat (first | with_reducible refine go_op ?_ | with_reducible refine go_call ?_ | with_reducible refine go_cons ?_ | with_reducible refine go_nil ?_ | with_reducible refine go_var (by with_unfolding_all exact rfl) ?_ | with_reducible refine go_c ?_ | with_reducible refine go_int ?_ | with_reducible refine go_add ?_ | with_reducible refine go_sub ?_ | with_reducible refine go_q0 ?_ | with_reducible refine go_q1 ?_ | with_reducible refine go_p0 ?_ | with_reducible refine go_p1 ?_ | with_reducible refine go_tup2 ?_ | with_reducible refine go_tup3 ?_ | with_reducible refine go_tup4 ?_ | with_reducible refine go_seq ?_ | with_reducible refine go_asg ?_ | with_reducible refine go_gn (Nat.le_of_ble_eq_true (by with_unfolding_all exact rfl)) ?_ | with_reducible refine go_gT2 ?_ | with_reducible refine go_gTP ?_ | with_reducible refine go_gT4 ?_ | with_reducible refine go_neg1 ?_ | with_reducible refine go_ret ?_ | with_reducible refine go_par2 ?_ | with_reducible refine go_par3x ?_ | with_reducible refine go_exp ?_)
  refine go_fin (Q := fun fr s2 => s2 = s ∧ ∃ v5 v7 v8 v9 v10 v11 v12 v13 v14 v15 v16 v17 v18 v19 v20 v21 v22 v23 v24 v25 v26, fr.2 = [some (X), some (.ref i), some (.int p), some (enQ r), some (.int y), v5, some (.cst (A.map enP)), v7, v8, v9, v10, v11, v12, v13, v14, v15, v16, v17, v18, v19, v20, v21, v22, v23, v24, v25, v26]) (go_sif (go_bB ?_)) ?_
  · repeat (first | with_reducible refine go_op ?_ | with_reducible refine go_call ?_ | with_reducible refine go_cons ?_ | with_reducible refine go_nil ?_ | with_reducible refine go_var (by with_unfolding_all exact rfl) ?_ | with_reducible refine go_c ?_ | with_reducible refine go_int ?_ | with_reducible refine go_add ?_ | with_reducible refine go_sub ?_ | with_reducible refine go_q0 ?_ | with_reducible refine go_q1 ?_ | with_reducible refine go_p0 ?_ | with_reducible refine go_p1 ?_ | with_reducible refine go_tup2 ?_ | with_reducible refine go_tup3 ?_ | with_reducible refine go_tup4 ?_ | with_reducible refine go_seq ?_ | with_reducible refine go_asg ?_ | with_reducible refine go_gn (Nat.le_of_ble_eq_true (by with_unfolding_all exact rfl)) ?_ | with_reducible refine go_gT2 ?_ | with_reducible refine go_gTP ?_ | with_reducible refine go_gT4 ?_ | with_reducible refine go_neg1 ?_ | with_reducible refine go_ret ?_ | with_reducible refine go_par2 ?_ | with_reducible refine go_par3x ?_ | with_reducible refine go_exp ?_)
    refine go_gt ⟨_, rfl, go_ifP (fun c => c_blk hr h0 h1 ps p1 (by omega) (by omega)) fun c => go_snil ⟨rfl, rfl, _, _, _, _, _, _, _, _, _, _, _, _, _, _, _, _, _, _, _, _, _, rfl⟩⟩
  rintro ls s2 ⟨rfl, v5, v7, v8, v9, v10, v11, v12, v13, v14, v15, v16, v17, v18, v19, v20, v21, v22, v23, v24, v25, v26, e⟩
  have e : ls = [some (X), some (.ref i), some (.int p), some (enQ r), some (.int y), v5, some (.cst (A.map enP)), v7, v8, v9, v10, v11, v12, v13, v14, v15, v16, v17, v18, v19, v20, v21, v22, v23, v24, v25, v26] := e
  subst e
  repeat (first | with_reducible refine go_op ?_ | with_reducible refine go_call ?_ | with_reducible refine go_cons ?_ | with_reducible refine go_nil ?_ | with_reducible refine go_var (by with_unfolding_all exact rfl) ?_ | with_reducible refine go_c ?_ | with_reducible refine go_int ?_ | with_reducible refine go_add ?_ | with_reducible refine go_sub ?_ | with_reducible refine go_q0 ?_ | with_reducible refine go_q1 ?_ | with_reducible refine go_p0 ?_ | with_reducible refine go_p1 ?_ | with_reducible refine go_tup2 ?_ | with_reducible refine go_tup3 ?_ | with_reducible refine go_tup4 ?_ | with_reducible refine go_seq ?_ | with_reducible refine go_asg ?_ | with_reducible refine go_gn (Nat.le_of_ble_eq_true (by with_unfolding_all exact rfl)) ?_ | with_reducible refine go_gT2 ?_ | with_reducible refine go_gTP ?_ | with_reducible refine go_gT4 ?_ | with_reducible refine go_neg1 ?_ | with_reducible refine go_ret ?_ | with_reducible refine go_par2 ?_ | with_reducible refine go_par3x ?_ | with_reducible refine go_exp ?_)
  refine go_rollT (T.less (m' := 800000 + 1) (by decide)) (by decide) (by decide) fun m s m0 m1 T _ => ?_
  repeat (first | with_reducible refine go_op ?_ | with_reducible refine go_call ?_ | with_reducible refine go_cons ?_ | with_reducible refine go_nil ?_ | with_reducible refine go_var (by with_unfolding_all exact rfl) ?_ | with_reducible refine go_c ?_ | with_reducible refine go_int ?_ | with_reducible refine go_add ?_ | with_reducible refine go_sub ?_ | with_reducible refine go_q0 ?_ | with_reducible refine go_q1 ?_ | with_reducible refine go_p0 ?_ | with_reducible refine go_p1 ?_ | with_reducible refine go_tup2 ?_ | with_reducible refine go_tup3 ?_ | with_reducible refine go_tup4 ?_ | with_reducible refine go_seq ?_ | with_reducible refine go_asg ?_ | with_reducible refine go_gn (Nat.le_of_ble_eq_true (by with_unfolding_all exact rfl)) ?_ | with_reducible refine go_gT2 ?_ | with_reducible refine go_gTP ?_ | with_reducible refine go_gT4 ?_ | with_reducible refine go_neg1 ?_ | with_reducible refine go_ret ?_ | with_reducible refine go_par2 ?_ | with_reducible refine go_par3x ?_ | with_reducible refine go_exp ?_)
  have wk : ∀ K, WkV K (rngD 0 (m + 1).toNat) → WkV K ((List.range (m.toNat + 1)).map fun (j : Nat) => Dv.int (0 + (j : Int))) := fun K h => by rw [show m.toNat + 1 = (m + 1).toNat by omega]; exact h
  refine go_lcFM (List.range (m.toNat + 1)) (fun (j : Nat) => .int (0 + (j : Int))) (fun (j : Nat) => .int (0 + (j : Int))) (noMore A) (go_wR1 ?_) (by rw [List.length_range]; exact Nat.le_trans (show m.toNat + 1 ≤ 41 by omega) (by decide)) (fun j hj => ?_) (go_finC ?_)
  · repeat (first | with_reducible refine go_op ?_ | with_reducible refine go_call ?_ | with_reducible refine go_cons ?_ | with_reducible refine go_nil ?_ | with_reducible refine go_var (by with_unfolding_all exact rfl) ?_ | with_reducible refine go_c ?_ | with_reducible refine go_int ?_ | with_reducible refine go_add ?_ | with_reducible refine go_sub ?_ | with_reducible refine go_q0 ?_ | with_reducible refine go_q1 ?_ | with_reducible refine go_p0 ?_ | with_reducible refine go_p1 ?_ | with_reducible refine go_tup2 ?_ | with_reducible refine go_tup3 ?_ | with_reducible refine go_tup4 ?_ | with_reducible refine go_seq ?_ | with_reducible refine go_asg ?_ | with_reducible refine go_gn (Nat.le_of_ble_eq_true (by with_unfolding_all exact rfl)) ?_ | with_reducible refine go_gT2 ?_ | with_reducible refine go_gTP ?_ | with_reducible refine go_gT4 ?_ | with_reducible refine go_neg1 ?_ | with_reducible refine go_ret ?_ | with_reducible refine go_par2 ?_ | with_reducible refine go_par3x ?_ | with_reducible refine go_exp ?_)
    exact ⟨_, rfl, by omega, by omega, fun K hK => ⟨rfl, wk K hK⟩⟩
  · have hj : j < m.toNat + 1 := List.mem_range.mp hj
    rw [Int.zero_add]
    repeat (first | with_reducible refine go_op ?_ | with_reducible refine go_call ?_ | with_reducible refine go_cons ?_ | with_reducible refine go_nil ?_ | with_reducible refine go_var (by with_unfolding_all exact rfl) ?_ | with_reducible refine go_c ?_ | with_reducible refine go_int ?_ | with_reducible refine go_add ?_ | with_reducible refine go_sub ?_ | with_reducible refine go_q0 ?_ | with_reducible refine go_q1 ?_ | with_reducible refine go_p0 ?_ | with_reducible refine go_p1 ?_ | with_reducible refine go_tup2 ?_ | with_reducible refine go_tup3 ?_ | with_reducible refine go_tup4 ?_ | with_reducible refine go_seq ?_ | with_reducible refine go_asg ?_ | with_reducible refine go_gn (Nat.le_of_ble_eq_true (by with_unfolding_all exact rfl)) ?_ | with_reducible refine go_gT2 ?_ | with_reducible refine go_gTP ?_ | with_reducible refine go_gT4 ?_ | with_reducible refine go_neg1 ?_ | with_reducible refine go_ret ?_ | with_reducible refine go_par2 ?_ | with_reducible refine go_par3x ?_ | with_reducible refine go_exp ?_)
    refine ⟨rfl, go_bB ?_⟩
    repeat (first | with_reducible refine go_op ?_ | with_reducible refine go_call ?_ | with_reducible refine go_cons ?_ | with_reducible refine go_nil ?_ | with_reducible refine go_var (by with_unfolding_all exact rfl) ?_ | with_reducible refine go_c ?_ | with_reducible refine go_int ?_ | with_reducible refine go_add ?_ | with_reducible refine go_sub ?_ | with_reducible refine go_q0 ?_ | with_reducible refine go_q1 ?_ | with_reducible refine go_p0 ?_ | with_reducible refine go_p1 ?_ | with_reducible refine go_tup2 ?_ | with_reducible refine go_tup3 ?_ | with_reducible refine go_tup4 ?_ | with_reducible refine go_seq ?_ | with_reducible refine go_asg ?_ | with_reducible refine go_gn (Nat.le_of_ble_eq_true (by with_unfolding_all exact rfl)) ?_ | with_reducible refine go_gT2 ?_ | with_reducible refine go_gTP ?_ | with_reducible refine go_gT4 ?_ | with_reducible refine go_neg1 ?_ | with_reducible refine go_ret ?_ | with_reducible refine go_par2 ?_ | with_reducible refine go_par3x ?_ | with_reducible refine go_exp ?_)
    have sw := worth_sm (part_sm (j := j) (by omega)) (by omega) (part_bd (by omega)).1 hA lA
    refine c_lworth (RatV.p (n := 10) (by omega) (by decide) (by decide)) (part_bd (by omega)).1 (by omega) hA lA ?_
    repeat (first | with_reducible refine go_op ?_ | with_reducible refine go_call ?_ | with_reducible refine go_cons ?_ | with_reducible refine go_nil ?_ | with_reducible refine go_var (by with_unfolding_all exact rfl) ?_ | with_reducible refine go_c ?_ | with_reducible refine go_int ?_ | with_reducible refine go_add ?_ | with_reducible refine go_sub ?_ | with_reducible refine go_q0 ?_ | with_reducible refine go_q1 ?_ | with_reducible refine go_p0 ?_ | with_reducible refine go_p1 ?_ | with_reducible refine go_tup2 ?_ | with_reducible refine go_tup3 ?_ | with_reducible refine go_tup4 ?_ | with_reducible refine go_seq ?_ | with_reducible refine go_asg ?_ | with_reducible refine go_gn (Nat.le_of_ble_eq_true (by with_unfolding_all exact rfl)) ?_ | with_reducible refine go_gT2 ?_ | with_reducible refine go_gTP ?_ | with_reducible refine go_gT4 ?_ | with_reducible refine go_neg1 ?_ | with_reducible refine go_ret ?_ | with_reducible refine go_par2 ?_ | with_reducible refine go_par3x ?_ | with_reducible refine go_exp ?_)
    refine go_le ⟨_, rfl, ?_, rfl, fun _ => ?_⟩
    · unfold noMore
      simp only [num_le0]
    · repeat (first | with_reducible refine go_op ?_ | with_reducible refine go_call ?_ | with_reducible refine go_cons ?_ | with_reducible refine go_nil ?_ | with_reducible refine go_var (by with_unfolding_all exact rfl) ?_ | with_reducible refine go_c ?_ | with_reducible refine go_int ?_ | with_reducible refine go_add ?_ | with_reducible refine go_sub ?_ | with_reducible refine go_q0 ?_ | with_reducible refine go_q1 ?_ | with_reducible refine go_p0 ?_ | with_reducible refine go_p1 ?_ | with_reducible refine go_tup2 ?_ | with_reducible refine go_tup3 ?_ | with_reducible refine go_tup4 ?_ | with_reducible refine go_seq ?_ | with_reducible refine go_asg ?_ | with_reducible refine go_gn (Nat.le_of_ble_eq_true (by with_unfolding_all exact rfl)) ?_ | with_reducible refine go_gT2 ?_ | with_reducible refine go_gTP ?_ | with_reducible refine go_gT4 ?_ | with_reducible refine go_neg1 ?_ | with_reducible refine go_ret ?_ | with_reducible refine go_par2 ?_ | with_reducible refine go_par3x ?_ | with_reducible refine go_exp ?_)
      exact ⟨rfl, rfl⟩
  repeat (first | with_reducible refine go_op ?_ | with_reducible refine go_call ?_ | with_reducible refine go_cons ?_ | with_reducible refine go_nil ?_ | with_reducible refine go_var (by with_unfolding_all exact rfl) ?_ | with_reducible refine go_c ?_ | with_reducible refine go_int ?_ | with_reducible refine go_add ?_ | with_reducible refine go_sub ?_ | with_reducible refine go_q0 ?_ | with_reducible refine go_q1 ?_ | with_reducible refine go_p0 ?_ | with_reducible refine go_p1 ?_ | with_reducible refine go_tup2 ?_ | with_reducible refine go_tup3 ?_ | with_reducible refine go_tup4 ?_ | with_reducible refine go_seq ?_ | with_reducible refine go_asg ?_ | with_reducible refine go_gn (Nat.le_of_ble_eq_true (by with_unfolding_all exact rfl)) ?_ | with_reducible refine go_gT2 ?_ | with_reducible refine go_gTP ?_ | with_reducible refine go_gT4 ?_ | with_reducible refine go_neg1 ?_ | with_reducible refine go_ret ?_ | with_reducible refine go_par2 ?_ | with_reducible refine go_par3x ?_ | with_reducible refine go_exp ?_)
  refine go_guardNe1 ?_
  repeat (first | with_reducible refine go_op ?_ | with_reducible refine go_call ?_ | with_reducible refine go_cons ?_ | with_reducible refine go_nil ?_ | with_reducible refine go_var (by with_unfolding_all exact rfl) ?_ | with_reducible refine go_c ?_ | with_reducible refine go_int ?_ | with_reducible refine go_add ?_ | with_reducible refine go_sub ?_ | with_reducible refine go_q0 ?_ | with_reducible refine go_q1 ?_ | with_reducible refine go_p0 ?_ | with_reducible refine go_p1 ?_ | with_reducible refine go_tup2 ?_ | with_reducible refine go_tup3 ?_ | with_reducible refine go_tup4 ?_ | with_reducible refine go_seq ?_ | with_reducible refine go_asg ?_ | with_reducible refine go_gn (Nat.le_of_ble_eq_true (by with_unfolding_all exact rfl)) ?_ | with_reducible refine go_gT2 ?_ | with_reducible refine go_gTP ?_ | with_reducible refine go_gT4 ?_ | with_reducible refine go_neg1 ?_ | with_reducible refine go_ret ?_ | with_reducible refine go_par2 ?_ | with_reducible refine go_par3x ?_ | with_reducible refine go_exp ?_)
  refine c_rate m0 (by omega) hA lA ?_
  refine go_mono2 (d := foundD ((List.range (m.toNat + 1)).find? (noMore A))) (go_if (go_bB ?_)) ⟨rfl, by cases (List.range (m.toNat + 1)).find? (noMore A) <;> rfl, ?_⟩
  · repeat (first | with_reducible refine go_op ?_ | with_reducible refine go_call ?_ | with_reducible refine go_cons ?_ | with_reducible refine go_nil ?_ | with_reducible refine go_var (by with_unfolding_all exact rfl) ?_ | with_reducible refine go_c ?_ | with_reducible refine go_int ?_ | with_reducible refine go_add ?_ | with_reducible refine go_sub ?_ | with_reducible refine go_q0 ?_ | with_reducible refine go_q1 ?_ | with_reducible refine go_p0 ?_ | with_reducible refine go_p1 ?_ | with_reducible refine go_tup2 ?_ | with_reducible refine go_tup3 ?_ | with_reducible refine go_tup4 ?_ | with_reducible refine go_seq ?_ | with_reducible refine go_asg ?_ | with_reducible refine go_gn (Nat.le_of_ble_eq_true (by with_unfolding_all exact rfl)) ?_ | with_reducible refine go_gT2 ?_ | with_reducible refine go_gTP ?_ | with_reducible refine go_gT4 ?_ | with_reducible refine go_neg1 ?_ | with_reducible refine go_ret ?_ | with_reducible refine go_par2 ?_ | with_reducible refine go_par3x ?_ | with_reducible refine go_exp ?_)
    refine go_cst (go_nil ⟨by decide, go_neNil (dat_cst (n := 8) (datL_map (fun j => dat_int) _)) ⟨_, rfl, ?_⟩⟩)
    have hd := List.head?_filter (p := noMore A) (l := List.range (m.toNat + 1))
    rw [← hd]
    generalize (List.range (m.toNat + 1)).filter (noMore A) = l
    cases l with
    | nil => exact go_ifFb rfl (go_c ⟨rfl, rfl⟩)
    | cons j l =>
      refine go_ifTb rfl ?_
      repeat (first | with_reducible refine go_op ?_ | with_reducible refine go_call ?_ | with_reducible refine go_cons ?_ | with_reducible refine go_nil ?_ | with_reducible refine go_var (by with_unfolding_all exact rfl) ?_ | with_reducible refine go_c ?_ | with_reducible refine go_int ?_ | with_reducible refine go_add ?_ | with_reducible refine go_sub ?_ | with_reducible refine go_q0 ?_ | with_reducible refine go_q1 ?_ | with_reducible refine go_p0 ?_ | with_reducible refine go_p1 ?_ | with_reducible refine go_tup2 ?_ | with_reducible refine go_tup3 ?_ | with_reducible refine go_tup4 ?_ | with_reducible refine go_seq ?_ | with_reducible refine go_asg ?_ | with_reducible refine go_gn (Nat.le_of_ble_eq_true (by with_unfolding_all exact rfl)) ?_ | with_reducible refine go_gT2 ?_ | with_reducible refine go_gTP ?_ | with_reducible refine go_gT4 ?_ | with_reducible refine go_neg1 ?_ | with_reducible refine go_ret ?_ | with_reducible refine go_par2 ?_ | with_reducible refine go_par3x ?_ | with_reducible refine go_exp ?_)
      refine go_ixC (atI_nat (i := 0) rfl) ⟨?_, rfl⟩
      show Dv.int (0 + (j : Int)) = Dv.int (j : Int)
      rw [Int.zero_add]
  repeat (first | with_reducible refine go_op ?_ | with_reducible refine go_call ?_ | with_reducible refine go_cons ?_ | with_reducible refine go_nil ?_ | with_reducible refine go_var (by with_unfolding_all exact rfl) ?_ | with_reducible refine go_c ?_ | with_reducible refine go_int ?_ | with_reducible refine go_add ?_ | with_reducible refine go_sub ?_ | with_reducible refine go_q0 ?_ | with_reducible refine go_q1 ?_ | with_reducible refine go_p0 ?_ | with_reducible refine go_p1 ?_ | with_reducible refine go_tup2 ?_ | with_reducible refine go_tup3 ?_ | with_reducible refine go_tup4 ?_ | with_reducible refine go_seq ?_ | with_reducible refine go_asg ?_ | with_reducible refine go_gn (Nat.le_of_ble_eq_true (by with_unfolding_all exact rfl)) ?_ | with_reducible refine go_gT2 ?_ | with_reducible refine go_gTP ?_ | with_reducible refine go_gT4 ?_ | with_reducible refine go_neg1 ?_ | with_reducible refine go_ret ?_ | with_reducible refine go_par2 ?_ | with_reducible refine go_par3x ?_ | with_reducible refine go_exp ?_)
  refine go_rollT (T.less (m' := 700000 + 1) (by decide)) (by decide) (by decide) fun g0 s g00 g01 T _ => ?_
  obtain ⟨g, hg⟩ : ∃ g, p + g0 = g := ⟨_, rfl⟩
  repeat (first | with_reducible refine go_op ?_ | with_reducible refine go_call ?_ | with_reducible refine go_cons ?_ | with_reducible refine go_nil ?_ | with_reducible refine go_var (by with_unfolding_all exact rfl) ?_ | with_reducible refine go_c ?_ | with_reducible refine go_int ?_ | with_reducible refine go_add ?_ | with_reducible refine go_sub ?_ | with_reducible refine go_q0 ?_ | with_reducible refine go_q1 ?_ | with_reducible refine go_p0 ?_ | with_reducible refine go_p1 ?_ | with_reducible refine go_tup2 ?_ | with_reducible refine go_tup3 ?_ | with_reducible refine go_tup4 ?_ | with_reducible refine go_seq ?_ | with_reducible refine go_asg ?_ | with_reducible refine go_gn (Nat.le_of_ble_eq_true (by with_unfolding_all exact rfl)) ?_ | with_reducible refine go_gT2 ?_ | with_reducible refine go_gTP ?_ | with_reducible refine go_gT4 ?_ | with_reducible refine go_neg1 ?_ | with_reducible refine go_ret ?_ | with_reducible refine go_par2 ?_ | with_reducible refine go_par3x ?_ | with_reducible refine go_exp ?_)
  rw [hg]
  have g1 : 1 ≤ g := by omega
  have gs : g.natAbs < 2 ^ 20 := by omega
  clear hg
  refine ⟨Nat.le_of_ble_eq_true rfl, Nat.le_of_ble_eq_true rfl, ?_⟩
  repeat (first | with_reducible refine go_op ?_ | with_reducible refine go_call ?_ | with_reducible refine go_cons ?_ | with_reducible refine go_nil ?_ | with_reducible refine go_var (by with_unfolding_all exact rfl) ?_ | with_reducible refine go_c ?_ | with_reducible refine go_int ?_ | with_reducible refine go_add ?_ | with_reducible refine go_sub ?_ | with_reducible refine go_q0 ?_ | with_reducible refine go_q1 ?_ | with_reducible refine go_p0 ?_ | with_reducible refine go_p1 ?_ | with_reducible refine go_tup2 ?_ | with_reducible refine go_tup3 ?_ | with_reducible refine go_tup4 ?_ | with_reducible refine go_seq ?_ | with_reducible refine go_asg ?_ | with_reducible refine go_gn (Nat.le_of_ble_eq_true (by with_unfolding_all exact rfl)) ?_ | with_reducible refine go_gT2 ?_ | with_reducible refine go_gTP ?_ | with_reducible refine go_gT4 ?_ | with_reducible refine go_neg1 ?_ | with_reducible refine go_ret ?_ | with_reducible refine go_par2 ?_ | with_reducible refine go_par3x ?_ | with_reducible refine go_exp ?_)
  refine go_fin (c_far hr h0 ps gs) ?_
  rintro ls s2 ⟨rfl, v4, v5, v6, v7, v8, v9, v10, v11, v12, v13, v14, v15, v16, v17, v18, v19, v20, v21, v22, v23, v26, e⟩
  have e : ls = [some (X), some (.ref i), some (.int p), some (enQ r), v4, v5, v6, v7, v8, v9, v10, v11, v12, v13, v14, v15, v16, v17, v18, v19, v20, v21, v22, v23, some (.int g), some (foundD ((List.range 12).find? (there p g r))), v26] := e
  subst e
  repeat (first | with_reducible refine go_op ?_ | with_reducible refine go_call ?_ | with_reducible refine go_cons ?_ | with_reducible refine go_nil ?_ | with_reducible refine go_var (by with_unfolding_all exact rfl) ?_ | with_reducible refine go_c ?_ | with_reducible refine go_int ?_ | with_reducible refine go_add ?_ | with_reducible refine go_sub ?_ | with_reducible refine go_q0 ?_ | with_reducible refine go_q1 ?_ | with_reducible refine go_p0 ?_ | with_reducible refine go_p1 ?_ | with_reducible refine go_tup2 ?_ | with_reducible refine go_tup3 ?_ | with_reducible refine go_tup4 ?_ | with_reducible refine go_seq ?_ | with_reducible refine go_asg ?_ | with_reducible refine go_gn (Nat.le_of_ble_eq_true (by with_unfolding_all exact rfl)) ?_ | with_reducible refine go_gT2 ?_ | with_reducible refine go_gTP ?_ | with_reducible refine go_gT4 ?_ | with_reducible refine go_neg1 ?_ | with_reducible refine go_ret ?_ | with_reducible refine go_par2 ?_ | with_reducible refine go_par3x ?_ | with_reducible refine go_exp ?_)
  refine c_years (RatV.q hr) (by omega) h0 h1 ps p1 gs g1 ?_
  repeat (first | with_reducible refine go_op ?_ | with_reducible refine go_call ?_ | with_reducible refine go_cons ?_ | with_reducible refine go_nil ?_ | with_reducible refine go_var (by with_unfolding_all exact rfl) ?_ | with_reducible refine go_c ?_ | with_reducible refine go_int ?_ | with_reducible refine go_add ?_ | with_reducible refine go_sub ?_ | with_reducible refine go_q0 ?_ | with_reducible refine go_q1 ?_ | with_reducible refine go_p0 ?_ | with_reducible refine go_p1 ?_ | with_reducible refine go_tup2 ?_ | with_reducible refine go_tup3 ?_ | with_reducible refine go_tup4 ?_ | with_reducible refine go_seq ?_ | with_reducible refine go_asg ?_ | with_reducible refine go_gn (Nat.le_of_ble_eq_true (by with_unfolding_all exact rfl)) ?_ | with_reducible refine go_gT2 ?_ | with_reducible refine go_gTP ?_ | with_reducible refine go_gT4 ?_ | with_reducible refine go_neg1 ?_ | with_reducible refine go_ret ?_ | with_reducible refine go_par2 ?_ | with_reducible refine go_par3x ?_ | with_reducible refine go_exp ?_)
  refine (c_told (fun k => f12) (fun k => f12n)).mono fun fr s2 ⟨e1, e2⟩ => ?_
  subst e1 e2
  repeat (first | with_reducible refine go_op ?_ | with_reducible refine go_call ?_ | with_reducible refine go_cons ?_ | with_reducible refine go_nil ?_ | with_reducible refine go_var (by with_unfolding_all exact rfl) ?_ | with_reducible refine go_c ?_ | with_reducible refine go_int ?_ | with_reducible refine go_add ?_ | with_reducible refine go_sub ?_ | with_reducible refine go_q0 ?_ | with_reducible refine go_q1 ?_ | with_reducible refine go_p0 ?_ | with_reducible refine go_p1 ?_ | with_reducible refine go_tup2 ?_ | with_reducible refine go_tup3 ?_ | with_reducible refine go_tup4 ?_ | with_reducible refine go_seq ?_ | with_reducible refine go_asg ?_ | with_reducible refine go_gn (Nat.le_of_ble_eq_true (by with_unfolding_all exact rfl)) ?_ | with_reducible refine go_gT2 ?_ | with_reducible refine go_gTP ?_ | with_reducible refine go_gT4 ?_ | with_reducible refine go_neg1 ?_ | with_reducible refine go_ret ?_ | with_reducible refine go_par2 ?_ | with_reducible refine go_par3x ?_ | with_reducible refine go_exp ?_)
  refine go_lcRoll (i := i) 600000 10 4 enP EvOk (by decide) (go_wRoll (i := i) (n := 4) (by decide) (by decide) rfl ?_ (T.less (m' := 600100 + 1) (by decide)) fun k u s u0 u1 hk T B => ⟨_, hk, rng_len (by omega), T.less (by decide), B⟩) (fun d s m' T => ?_) fun C s hC lC T _ => ?_
  · repeat (first | with_reducible refine go_op ?_ | with_reducible refine go_call ?_ | with_reducible refine go_cons ?_ | with_reducible refine go_nil ?_ | with_reducible refine go_var (by with_unfolding_all exact rfl) ?_ | with_reducible refine go_c ?_ | with_reducible refine go_int ?_ | with_reducible refine go_add ?_ | with_reducible refine go_sub ?_ | with_reducible refine go_q0 ?_ | with_reducible refine go_q1 ?_ | with_reducible refine go_p0 ?_ | with_reducible refine go_p1 ?_ | with_reducible refine go_tup2 ?_ | with_reducible refine go_tup3 ?_ | with_reducible refine go_tup4 ?_ | with_reducible refine go_seq ?_ | with_reducible refine go_asg ?_ | with_reducible refine go_gn (Nat.le_of_ble_eq_true (by with_unfolding_all exact rfl)) ?_ | with_reducible refine go_gT2 ?_ | with_reducible refine go_gTP ?_ | with_reducible refine go_gT4 ?_ | with_reducible refine go_neg1 ?_ | with_reducible refine go_ret ?_ | with_reducible refine go_par2 ?_ | with_reducible refine go_par3x ?_ | with_reducible refine go_exp ?_)
    exact ⟨rfl, rfl⟩
  · repeat (first | with_reducible refine go_op ?_ | with_reducible refine go_call ?_ | with_reducible refine go_cons ?_ | with_reducible refine go_nil ?_ | with_reducible refine go_var (by with_unfolding_all exact rfl) ?_ | with_reducible refine go_c ?_ | with_reducible refine go_int ?_ | with_reducible refine go_add ?_ | with_reducible refine go_sub ?_ | with_reducible refine go_q0 ?_ | with_reducible refine go_q1 ?_ | with_reducible refine go_p0 ?_ | with_reducible refine go_p1 ?_ | with_reducible refine go_tup2 ?_ | with_reducible refine go_tup3 ?_ | with_reducible refine go_tup4 ?_ | with_reducible refine go_seq ?_ | with_reducible refine go_asg ?_ | with_reducible refine go_gn (Nat.le_of_ble_eq_true (by with_unfolding_all exact rfl)) ?_ | with_reducible refine go_gT2 ?_ | with_reducible refine go_gTP ?_ | with_reducible refine go_gT4 ?_ | with_reducible refine go_neg1 ?_ | with_reducible refine go_ret ?_ | with_reducible refine go_par2 ?_ | with_reducible refine go_par3x ?_ | with_reducible refine go_exp ?_)
    refine go_rollT (T.less (m' := m' + 9 + 1) (by omega)) (by decide) (by decide) fun u s u0 u1 T B => ?_
    repeat (first | with_reducible refine go_op ?_ | with_reducible refine go_call ?_ | with_reducible refine go_cons ?_ | with_reducible refine go_nil ?_ | with_reducible refine go_var (by with_unfolding_all exact rfl) ?_ | with_reducible refine go_c ?_ | with_reducible refine go_int ?_ | with_reducible refine go_add ?_ | with_reducible refine go_sub ?_ | with_reducible refine go_q0 ?_ | with_reducible refine go_q1 ?_ | with_reducible refine go_p0 ?_ | with_reducible refine go_p1 ?_ | with_reducible refine go_tup2 ?_ | with_reducible refine go_tup3 ?_ | with_reducible refine go_tup4 ?_ | with_reducible refine go_seq ?_ | with_reducible refine go_asg ?_ | with_reducible refine go_gn (Nat.le_of_ble_eq_true (by with_unfolding_all exact rfl)) ?_ | with_reducible refine go_gT2 ?_ | with_reducible refine go_gTP ?_ | with_reducible refine go_gT4 ?_ | with_reducible refine go_neg1 ?_ | with_reducible refine go_ret ?_ | with_reducible refine go_par2 ?_ | with_reducible refine go_par3x ?_ | with_reducible refine go_exp ?_)
    refine go_rollT (T.less (m' := m' + 8 + 1) (by omega)) (by decide) (by decide) fun v s v0 v1 T B2 => ?_
    exact ⟨(u, v), rfl, ⟨u0, by show u ≤ 8; omega, v0, by show v ≤ 30; omega⟩, T.less (by omega), B.trans B2⟩
  have lC : C.length ≤ 10 := by omega
  have wb := wh_bd hC lC
  have mb := my_bd hC lC
  repeat (first | with_reducible refine go_op ?_ | with_reducible refine go_call ?_ | with_reducible refine go_cons ?_ | with_reducible refine go_nil ?_ | with_reducible refine go_var (by with_unfolding_all exact rfl) ?_ | with_reducible refine go_c ?_ | with_reducible refine go_int ?_ | with_reducible refine go_add ?_ | with_reducible refine go_sub ?_ | with_reducible refine go_q0 ?_ | with_reducible refine go_q1 ?_ | with_reducible refine go_p0 ?_ | with_reducible refine go_p1 ?_ | with_reducible refine go_tup2 ?_ | with_reducible refine go_tup3 ?_ | with_reducible refine go_tup4 ?_ | with_reducible refine go_seq ?_ | with_reducible refine go_asg ?_ | with_reducible refine go_gn (Nat.le_of_ble_eq_true (by with_unfolding_all exact rfl)) ?_ | with_reducible refine go_gT2 ?_ | with_reducible refine go_gTP ?_ | with_reducible refine go_gT4 ?_ | with_reducible refine go_neg1 ?_ | with_reducible refine go_ret ?_ | with_reducible refine go_par2 ?_ | with_reducible refine go_par3x ?_ | with_reducible refine go_exp ?_)
  refine go_lcM C enP (fun x => .int x.2) (go_wSeqC ?_) (Nat.le_trans lC (by decide)) (fun x hx => ?_) (go_finC ?_)
  · repeat (first | with_reducible refine go_op ?_ | with_reducible refine go_call ?_ | with_reducible refine go_cons ?_ | with_reducible refine go_nil ?_ | with_reducible refine go_var (by with_unfolding_all exact rfl) ?_ | with_reducible refine go_c ?_ | with_reducible refine go_int ?_ | with_reducible refine go_add ?_ | with_reducible refine go_sub ?_ | with_reducible refine go_q0 ?_ | with_reducible refine go_q1 ?_ | with_reducible refine go_p0 ?_ | with_reducible refine go_p1 ?_ | with_reducible refine go_tup2 ?_ | with_reducible refine go_tup3 ?_ | with_reducible refine go_tup4 ?_ | with_reducible refine go_seq ?_ | with_reducible refine go_asg ?_ | with_reducible refine go_gn (Nat.le_of_ble_eq_true (by with_unfolding_all exact rfl)) ?_ | with_reducible refine go_gT2 ?_ | with_reducible refine go_gTP ?_ | with_reducible refine go_gT4 ?_ | with_reducible refine go_neg1 ?_ | with_reducible refine go_ret ?_ | with_reducible refine go_par2 ?_ | with_reducible refine go_par3x ?_ | with_reducible refine go_exp ?_)
    exact ⟨_, rfl, fun k hk => ⟨rfl, hk⟩⟩
  · repeat (first | with_reducible refine go_op ?_ | with_reducible refine go_call ?_ | with_reducible refine go_cons ?_ | with_reducible refine go_nil ?_ | with_reducible refine go_var (by with_unfolding_all exact rfl) ?_ | with_reducible refine go_c ?_ | with_reducible refine go_int ?_ | with_reducible refine go_add ?_ | with_reducible refine go_sub ?_ | with_reducible refine go_q0 ?_ | with_reducible refine go_q1 ?_ | with_reducible refine go_p0 ?_ | with_reducible refine go_p1 ?_ | with_reducible refine go_tup2 ?_ | with_reducible refine go_tup3 ?_ | with_reducible refine go_tup4 ?_ | with_reducible refine go_seq ?_ | with_reducible refine go_asg ?_ | with_reducible refine go_gn (Nat.le_of_ble_eq_true (by with_unfolding_all exact rfl)) ?_ | with_reducible refine go_gT2 ?_ | with_reducible refine go_gTP ?_ | with_reducible refine go_gT4 ?_ | with_reducible refine go_neg1 ?_ | with_reducible refine go_ret ?_ | with_reducible refine go_par2 ?_ | with_reducible refine go_par3x ?_ | with_reducible refine go_exp ?_)
    exact ⟨rfl, go_op (go_var (i := 15) rfl (go_c (go_p1 ⟨rfl, rfl⟩)))⟩
  rw [show C.map (fun x => Dv.int x.2) = (C.map fun x => x.2).map Dv.int by rw [List.map_map]; rfl]
  repeat (first | with_reducible refine go_op ?_ | with_reducible refine go_call ?_ | with_reducible refine go_cons ?_ | with_reducible refine go_nil ?_ | with_reducible refine go_var (by with_unfolding_all exact rfl) ?_ | with_reducible refine go_c ?_ | with_reducible refine go_int ?_ | with_reducible refine go_add ?_ | with_reducible refine go_sub ?_ | with_reducible refine go_q0 ?_ | with_reducible refine go_q1 ?_ | with_reducible refine go_p0 ?_ | with_reducible refine go_p1 ?_ | with_reducible refine go_tup2 ?_ | with_reducible refine go_tup3 ?_ | with_reducible refine go_tup4 ?_ | with_reducible refine go_seq ?_ | with_reducible refine go_asg ?_ | with_reducible refine go_gn (Nat.le_of_ble_eq_true (by with_unfolding_all exact rfl)) ?_ | with_reducible refine go_gT2 ?_ | with_reducible refine go_gTP ?_ | with_reducible refine go_gT4 ?_ | with_reducible refine go_neg1 ?_ | with_reducible refine go_ret ?_ | with_reducible refine go_par2 ?_ | with_reducible refine go_par3x ?_ | with_reducible refine go_exp ?_)
  refine go_sumC ?_
  repeat (first | with_reducible refine go_op ?_ | with_reducible refine go_call ?_ | with_reducible refine go_cons ?_ | with_reducible refine go_nil ?_ | with_reducible refine go_var (by with_unfolding_all exact rfl) ?_ | with_reducible refine go_c ?_ | with_reducible refine go_int ?_ | with_reducible refine go_add ?_ | with_reducible refine go_sub ?_ | with_reducible refine go_q0 ?_ | with_reducible refine go_q1 ?_ | with_reducible refine go_p0 ?_ | with_reducible refine go_p1 ?_ | with_reducible refine go_tup2 ?_ | with_reducible refine go_tup3 ?_ | with_reducible refine go_tup4 ?_ | with_reducible refine go_seq ?_ | with_reducible refine go_asg ?_ | with_reducible refine go_gn (Nat.le_of_ble_eq_true (by with_unfolding_all exact rfl)) ?_ | with_reducible refine go_gT2 ?_ | with_reducible refine go_gTP ?_ | with_reducible refine go_gT4 ?_ | with_reducible refine go_neg1 ?_ | with_reducible refine go_ret ?_ | with_reducible refine go_par2 ?_ | with_reducible refine go_par3x ?_ | with_reducible refine go_exp ?_)
  refine go_guardNe1 ?_
  by_cases hw : 0 < whI C
  · refine go_told ?_
    repeat (first | with_reducible refine go_op ?_ | with_reducible refine go_call ?_ | with_reducible refine go_cons ?_ | with_reducible refine go_nil ?_ | with_reducible refine go_var (by with_unfolding_all exact rfl) ?_ | with_reducible refine go_c ?_ | with_reducible refine go_int ?_ | with_reducible refine go_add ?_ | with_reducible refine go_sub ?_ | with_reducible refine go_q0 ?_ | with_reducible refine go_q1 ?_ | with_reducible refine go_p0 ?_ | with_reducible refine go_p1 ?_ | with_reducible refine go_tup2 ?_ | with_reducible refine go_tup3 ?_ | with_reducible refine go_tup4 ?_ | with_reducible refine go_seq ?_ | with_reducible refine go_asg ?_ | with_reducible refine go_gn (Nat.le_of_ble_eq_true (by with_unfolding_all exact rfl)) ?_ | with_reducible refine go_gT2 ?_ | with_reducible refine go_gTP ?_ | with_reducible refine go_gT4 ?_ | with_reducible refine go_neg1 ?_ | with_reducible refine go_ret ?_ | with_reducible refine go_par2 ?_ | with_reducible refine go_par3x ?_ | with_reducible refine go_exp ?_)
    refine c_even hC lC hw (go_if (go_bB ?_))
    repeat (first | with_reducible refine go_op ?_ | with_reducible refine go_call ?_ | with_reducible refine go_cons ?_ | with_reducible refine go_nil ?_ | with_reducible refine go_var (by with_unfolding_all exact rfl) ?_ | with_reducible refine go_c ?_ | with_reducible refine go_int ?_ | with_reducible refine go_add ?_ | with_reducible refine go_sub ?_ | with_reducible refine go_q0 ?_ | with_reducible refine go_q1 ?_ | with_reducible refine go_p0 ?_ | with_reducible refine go_p1 ?_ | with_reducible refine go_tup2 ?_ | with_reducible refine go_tup3 ?_ | with_reducible refine go_tup4 ?_ | with_reducible refine go_seq ?_ | with_reducible refine go_asg ?_ | with_reducible refine go_gn (Nat.le_of_ble_eq_true (by with_unfolding_all exact rfl)) ?_ | with_reducible refine go_gT2 ?_ | with_reducible refine go_gTP ?_ | with_reducible refine go_gT4 ?_ | with_reducible refine go_neg1 ?_ | with_reducible refine go_ret ?_ | with_reducible refine go_par2 ?_ | with_reducible refine go_par3x ?_ | with_reducible refine go_exp ?_)
    refine go_gt ⟨_, rfl, go_ifT hw ?_⟩
    repeat (first | with_reducible refine go_op ?_ | with_reducible refine go_call ?_ | with_reducible refine go_cons ?_ | with_reducible refine go_nil ?_ | with_reducible refine go_var (by with_unfolding_all exact rfl) ?_ | with_reducible refine go_c ?_ | with_reducible refine go_int ?_ | with_reducible refine go_add ?_ | with_reducible refine go_sub ?_ | with_reducible refine go_q0 ?_ | with_reducible refine go_q1 ?_ | with_reducible refine go_p0 ?_ | with_reducible refine go_p1 ?_ | with_reducible refine go_tup2 ?_ | with_reducible refine go_tup3 ?_ | with_reducible refine go_tup4 ?_ | with_reducible refine go_seq ?_ | with_reducible refine go_asg ?_ | with_reducible refine go_gn (Nat.le_of_ble_eq_true (by with_unfolding_all exact rfl)) ?_ | with_reducible refine go_gT2 ?_ | with_reducible refine go_gTP ?_ | with_reducible refine go_gT4 ?_ | with_reducible refine go_neg1 ?_ | with_reducible refine go_ret ?_ | with_reducible refine go_par2 ?_ | with_reducible refine go_par3x ?_ | with_reducible refine go_exp ?_)
    refine go_lcM C enP (fun x => .int (x.1 * x.2)) (go_wSeqC ?_) (Nat.le_trans lC (by decide)) (fun x hx => ?_) (go_finC ?_)
    · repeat (first | with_reducible refine go_op ?_ | with_reducible refine go_call ?_ | with_reducible refine go_cons ?_ | with_reducible refine go_nil ?_ | with_reducible refine go_var (by with_unfolding_all exact rfl) ?_ | with_reducible refine go_c ?_ | with_reducible refine go_int ?_ | with_reducible refine go_add ?_ | with_reducible refine go_sub ?_ | with_reducible refine go_q0 ?_ | with_reducible refine go_q1 ?_ | with_reducible refine go_p0 ?_ | with_reducible refine go_p1 ?_ | with_reducible refine go_tup2 ?_ | with_reducible refine go_tup3 ?_ | with_reducible refine go_tup4 ?_ | with_reducible refine go_seq ?_ | with_reducible refine go_asg ?_ | with_reducible refine go_gn (Nat.le_of_ble_eq_true (by with_unfolding_all exact rfl)) ?_ | with_reducible refine go_gT2 ?_ | with_reducible refine go_gTP ?_ | with_reducible refine go_gT4 ?_ | with_reducible refine go_neg1 ?_ | with_reducible refine go_ret ?_ | with_reducible refine go_par2 ?_ | with_reducible refine go_par3x ?_ | with_reducible refine go_exp ?_)
      exact ⟨_, rfl, fun k hk => ⟨rfl, hk⟩⟩
    · repeat (first | with_reducible refine go_op ?_ | with_reducible refine go_call ?_ | with_reducible refine go_cons ?_ | with_reducible refine go_nil ?_ | with_reducible refine go_var (by with_unfolding_all exact rfl) ?_ | with_reducible refine go_c ?_ | with_reducible refine go_int ?_ | with_reducible refine go_add ?_ | with_reducible refine go_sub ?_ | with_reducible refine go_q0 ?_ | with_reducible refine go_q1 ?_ | with_reducible refine go_p0 ?_ | with_reducible refine go_p1 ?_ | with_reducible refine go_tup2 ?_ | with_reducible refine go_tup3 ?_ | with_reducible refine go_tup4 ?_ | with_reducible refine go_seq ?_ | with_reducible refine go_asg ?_ | with_reducible refine go_gn (Nat.le_of_ble_eq_true (by with_unfolding_all exact rfl)) ?_ | with_reducible refine go_gT2 ?_ | with_reducible refine go_gTP ?_ | with_reducible refine go_gT4 ?_ | with_reducible refine go_neg1 ?_ | with_reducible refine go_ret ?_ | with_reducible refine go_par2 ?_ | with_reducible refine go_par3x ?_ | with_reducible refine go_exp ?_)
      refine ⟨rfl, ?_⟩
      repeat (first | with_reducible refine go_op ?_ | with_reducible refine go_call ?_ | with_reducible refine go_cons ?_ | with_reducible refine go_nil ?_ | with_reducible refine go_var (by with_unfolding_all exact rfl) ?_ | with_reducible refine go_c ?_ | with_reducible refine go_int ?_ | with_reducible refine go_add ?_ | with_reducible refine go_sub ?_ | with_reducible refine go_q0 ?_ | with_reducible refine go_q1 ?_ | with_reducible refine go_p0 ?_ | with_reducible refine go_p1 ?_ | with_reducible refine go_tup2 ?_ | with_reducible refine go_tup3 ?_ | with_reducible refine go_tup4 ?_ | with_reducible refine go_seq ?_ | with_reducible refine go_asg ?_ | with_reducible refine go_gn (Nat.le_of_ble_eq_true (by with_unfolding_all exact rfl)) ?_ | with_reducible refine go_gT2 ?_ | with_reducible refine go_gTP ?_ | with_reducible refine go_gT4 ?_ | with_reducible refine go_neg1 ?_ | with_reducible refine go_ret ?_ | with_reducible refine go_par2 ?_ | with_reducible refine go_par3x ?_ | with_reducible refine go_exp ?_)
      refine go_mul (mulx_w 10 10 ?_ ?_ (by decide)) ⟨rfl, rfl⟩
      · have := hC x hx; have := this.1; have := (hC x hx).2.1; omega
      · have := (hC x hx).2.2; omega
    rw [show C.map (fun x => Dv.int (x.1 * x.2)) = (C.map fun x => x.1 * x.2).map Dv.int by rw [List.map_map]; rfl]
    repeat (first | with_reducible refine go_op ?_ | with_reducible refine go_call ?_ | with_reducible refine go_cons ?_ | with_reducible refine go_nil ?_ | with_reducible refine go_var (by with_unfolding_all exact rfl) ?_ | with_reducible refine go_c ?_ | with_reducible refine go_int ?_ | with_reducible refine go_add ?_ | with_reducible refine go_sub ?_ | with_reducible refine go_q0 ?_ | with_reducible refine go_q1 ?_ | with_reducible refine go_p0 ?_ | with_reducible refine go_p1 ?_ | with_reducible refine go_tup2 ?_ | with_reducible refine go_tup3 ?_ | with_reducible refine go_tup4 ?_ | with_reducible refine go_seq ?_ | with_reducible refine go_asg ?_ | with_reducible refine go_gn (Nat.le_of_ble_eq_true (by with_unfolding_all exact rfl)) ?_ | with_reducible refine go_gT2 ?_ | with_reducible refine go_gTP ?_ | with_reducible refine go_gT4 ?_ | with_reducible refine go_neg1 ?_ | with_reducible refine go_ret ?_ | with_reducible refine go_par2 ?_ | with_reducible refine go_par3x ?_ | with_reducible refine go_exp ?_)
    refine go_sumC ?_
    repeat (first | with_reducible refine go_op ?_ | with_reducible refine go_call ?_ | with_reducible refine go_cons ?_ | with_reducible refine go_nil ?_ | with_reducible refine go_var (by with_unfolding_all exact rfl) ?_ | with_reducible refine go_c ?_ | with_reducible refine go_int ?_ | with_reducible refine go_add ?_ | with_reducible refine go_sub ?_ | with_reducible refine go_q0 ?_ | with_reducible refine go_q1 ?_ | with_reducible refine go_p0 ?_ | with_reducible refine go_p1 ?_ | with_reducible refine go_tup2 ?_ | with_reducible refine go_tup3 ?_ | with_reducible refine go_tup4 ?_ | with_reducible refine go_seq ?_ | with_reducible refine go_asg ?_ | with_reducible refine go_gn (Nat.le_of_ble_eq_true (by with_unfolding_all exact rfl)) ?_ | with_reducible refine go_gT2 ?_ | with_reducible refine go_gTP ?_ | with_reducible refine go_gT4 ?_ | with_reducible refine go_neg1 ?_ | with_reducible refine go_ret ?_ | with_reducible refine go_par2 ?_ | with_reducible refine go_par3x ?_ | with_reducible refine go_exp ?_)
    exact go_rat ratF_B 20 (by show (myI C).natAbs < _; omega) (by show (whI C).natAbs < _; omega) (by show whI C ≠ 0; omega) (by decide) ⟨rfl, dat_q, rfl⟩
  · have e0 : whI C = 0 := by omega
    refine go_toldx (c := 2) (gx_call ?_) rfl
    repeat (first | with_reducible refine go_op ?_ | with_reducible refine go_call ?_ | with_reducible refine go_cons ?_ | with_reducible refine go_nil ?_ | with_reducible refine go_var (by with_unfolding_all exact rfl) ?_ | with_reducible refine go_c ?_ | with_reducible refine go_int ?_ | with_reducible refine go_add ?_ | with_reducible refine go_sub ?_ | with_reducible refine go_q0 ?_ | with_reducible refine go_q1 ?_ | with_reducible refine go_p0 ?_ | with_reducible refine go_p1 ?_ | with_reducible refine go_tup2 ?_ | with_reducible refine go_tup3 ?_ | with_reducible refine go_tup4 ?_ | with_reducible refine go_seq ?_ | with_reducible refine go_asg ?_ | with_reducible refine go_gn (Nat.le_of_ble_eq_true (by with_unfolding_all exact rfl)) ?_ | with_reducible refine go_gT2 ?_ | with_reducible refine go_gTP ?_ | with_reducible refine go_gT4 ?_ | with_reducible refine go_neg1 ?_ | with_reducible refine go_ret ?_ | with_reducible refine go_par2 ?_ | with_reducible refine go_par3x ?_ | with_reducible refine go_exp ?_)
    refine x_even hC lC e0 (go_if (go_bB ?_))
    repeat (first | with_reducible refine go_op ?_ | with_reducible refine go_call ?_ | with_reducible refine go_cons ?_ | with_reducible refine go_nil ?_ | with_reducible refine go_var (by with_unfolding_all exact rfl) ?_ | with_reducible refine go_c ?_ | with_reducible refine go_int ?_ | with_reducible refine go_add ?_ | with_reducible refine go_sub ?_ | with_reducible refine go_q0 ?_ | with_reducible refine go_q1 ?_ | with_reducible refine go_p0 ?_ | with_reducible refine go_p1 ?_ | with_reducible refine go_tup2 ?_ | with_reducible refine go_tup3 ?_ | with_reducible refine go_tup4 ?_ | with_reducible refine go_seq ?_ | with_reducible refine go_asg ?_ | with_reducible refine go_gn (Nat.le_of_ble_eq_true (by with_unfolding_all exact rfl)) ?_ | with_reducible refine go_gT2 ?_ | with_reducible refine go_gTP ?_ | with_reducible refine go_gT4 ?_ | with_reducible refine go_neg1 ?_ | with_reducible refine go_ret ?_ | with_reducible refine go_par2 ?_ | with_reducible refine go_par3x ?_ | with_reducible refine go_exp ?_)
    refine go_gt ⟨_, rfl, go_ifF hw (go_c ⟨rfl, by simp only [dat]; decide +kernel, rfl⟩)⟩
theorem law_pure (ns : List Int) (hl : ns.length ≤ 63) (hb : ∀ z ∈ ns, Builtin.Int.intBits z ≤ 1048576) (Z : Dv) (st : Sto) (hZ : asL st Z = some (ns.map .int)) (hs : st.length ≤ 1) : ∃ st', m_law [Z] st = some (.ok (.bl true), st') := by
  obtain ⟨d, s, e, rfl⟩ := c_law hb hZ
  exact ⟨s, e⟩
end LW


open PySem PySem.W PySem.Calls PyProof.Rows in
theorem PySem.Challenge.cw_riskstack_k03_money_over_years_holds : PySem.Challenge.rw_riskstack_k03_money_over_years.Holds := by
  w_on; o_law
  refine HandSHeadRun.head_any (r := OpenLaw.row PySem.Challenge.rw_riskstack_k03_money_over_years) (q := view (OpenLaw.row PySem.Challenge.rw_riskstack_k03_money_over_years).prog [38]) (H := LW.hk) (ob := LW.ob) (M := 2000) (loose := LW.looseL) (d := HandSHeadRun.topDef (OpenLaw.row PySem.Challenge.rw_riskstack_k03_money_over_years).prog 38) (kwd := []) LW.ob_eq
    (by kernel_rfl) (fun s => by kernel_rfl) LW.run (by kernel_rfl) (by kernel_rfl) (by kernel_rfl) (by rfl) (by first | assumption | decide +kernel) (by decide +kernel) ⟨rfl, rfl, rfl, rfl, rfl, by decide +kernel⟩ ?hw ?hc
  case hw => w_witness2
  case hc =>
    refine LamX.walk_ofTsE (l := PySem.Challenge.rw_riskstack_k03_money_over_years) (n := 63) (k := 12) (x := "script") (CX := fun w => L2.CX (PySem.Challenge.rw_riskstack_k03_money_over_years).prog w) rfl (by decide) (by kernel_rfl) ⟨rfl, by decide, by decide⟩ ?F (fun w H s e s' x => ?z)
    case F =>
      intro w mg fa h Y G hmg0
      obtain ⟨K, KX, c⟩ := Y
      have hmg : mg ("law" : PySem.Str) = some (.ref fa) := by
        have e : (HandSHeadRun.topDef (OpenLaw.row PySem.Challenge.rw_riskstack_k03_money_over_years).prog 38).name = ("law" : PySem.Str) := by kernel_rfl
        rw [← e]
        exact hmg0
      exact ⟨K, KX, R.law_at (cls := LW.clsL) (exc := LW.excL) (i := 30) (j := 30) KX G c hmg rfl rfl rfl (fun fd F s v => F.bindsA (ps := ["script"]) (fun _ _ _ _ _ _ us hl => match us, hl with | [_], _ => rfl) s [v] rfl) (fun base T => LW.ok_law T) LW.law_pure⟩
    case z => exact (by
      obtain ⟨_, _, _, _, _, _, _, _, _, _, _, _, z⟩ := x
      exact z.elim)

