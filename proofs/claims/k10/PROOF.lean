import PyProof.Rows.All
import Wide.All
import OpenK.AllK
import Wide.FinOn
import HandS.Base
import HandS.Call
import HandS.List
import HandS.Comp
import HandS.Exc
import HandS.ExcOwn
import HandS.TryOnly
import HandS.Words
import HandS.Wide
import HandS.Text
import HandS.Dict
import KE.KDictKeyed
import KE.KeyNested
import HandS.Lambda
import HandS.HeadHook2
import HandS.TupAny
import HandS.IsInst
import KE.KDictCopyH
import KE.KDictSum
import KE.KDictWalk
import HandS.TupLen
import HandS.More
import HandS.Deep
import KE.DataEq
import HandS.Codes
import HandS.Strs
import HandS.Replace
import HandS.Iter
import HandS.WordsExc
import HandS.Defaults
import HandS.HeadEnd
import KE.KStateDown
import HandS.Ends
import HandS.Head0
import HandS.Head1
import HandS.Head2
import HandS.Zip
import HandS.RaiseMore
import KE.SortData
import KE.KDictItemsList
import KE.KDictDisplayH
import HandS.ListItems
import HandS.Keys
import HandS.ExcInit
import HandS.ExcIs
import HandS.ExcField
import HandS.HeadHook1
import KE.KExcIs
import HandS.HeadHook4
import KE.KRevSl
import HandS.Style
import HandS.SetFor
import HandS.TupSets
import HandS.Conv
import HandS.ExcValue
import PySem.Challenge.RW_recall_k10_refusals_made
set_option Elab.async false
set_option linter.all false
set_option maxRecDepth 100000
set_option maxHeartbeats 0
namespace Mi
open PySem PySem.Spec PyProof.Rows L2

/-! ### data -/
inductive D where
  | non | bl (b : Bool) | int (i : Int) | str (s : List Nat)
  | tup (xs : List D) | lst (xs : List D) | scr (ns : List Int) | cell (n : Nat)
  /-- a dict (k: 0 numbers and texts as keys, 1 tuples), an instance, an exception: its class, what it bears -/
  | dct (k : Nat) (es : List (D × D)) | obj (c : Nat) (fs : List D) | exn (c : Nat) (fs : List D)
/-- the written part, the world, the exceptions' classes (with the field), the own classes (with the fields in their order) -/
structure KW where
  fr : PySem.W.Frag
  w : World
  cv : Nat → Value × Str
  ct : Nat → Addr × List Str
instance : Coe KW PySem.W.Frag := ⟨KW.fr⟩
mutual
def D.nk : D → Option NestedKey
  | .non => some .none
  | .int i => some (.num i)
  | .str s => some (.text ⟨s.toArray⟩)
  | .tup xs => (D.nkL xs).map .tup
  | _ => none
def D.nkL : List D → Option (List NestedKey)
  | [] => some []
  | x :: xs => match D.nk x, D.nkL xs with
    | some k, some ks => some (k :: ks)
    | _, _ => none
end
/-- a dict with tuples as keys: the keys, where they stand, the values -/
def nO (w : World) (a : Addr) (xs : List (NestedKey × Addr × V)) : HO := .ext fun h => (a == sysModules) = false ∧ xs.length ≤ sizeLine ∧ (xs.map (·.1)).Nodup ∧ (∀ x ∈ xs, x.1.depth ≤ 8) ∧ ∃ us : List Value, Vals (xs.map (·.2.2)) us ∧
  ∃ o es ep, h.get? a = some o ∧ o.ExactDict ∧ o.data = .dict es ep ∧ es.toList = (xs.zip us).map fun z => (⟨z.1.1.hash w, .ref z.1.2.1, z.2⟩ : DictEntry)
/-- the code object of a global def, its table -/
def codeA (K : PySem.W.Frag) (x : Str) : Addr := match K.lookup (He.fAd K (x, none)) with
  | some ⟨_, _, .func fd, _⟩ => (match fd.code with
    | .ref c => c
    | _ => 0)
  | _ => 0
def tabA (K : PySem.W.Frag) (x : Str) : Addr := match K.lookup (codeA K x) with
  | some ⟨_, _, .fields vs, _⟩ => (match vs.getD 11 .none with
    | .ref P => P
    | _ => 0)
  | _ => 0
/-- the qualified name of a lambda of the def x -/
def lamQ (x : List Nat) : Str := (⟨x.toArray⟩ : Str) ++ ".<locals>." ++ "<lambda>"
/-- an exception held as a value: its class, its dict -/
def xvO (a : Addr) (cls : Value) (dd : Option Addr) : HO := .ext fun h => ∃ (oe : Obj) (vs : Array Value), h.get? a = some oe ∧ oe.cls = cls ∧ oe.dict = dd ∧ oe.data = .fields vs
mutual
inductive Rep (K : KW) (F : Hp) (ι : List Addr) : V → D → Prop
  | non : Rep K F ι .non .non
  | bl (b : Bool) : Rep K F ι (.bl b) (.bl b)
  | int (i : Int) : Rep K F ι (.int i) (.int i)
  | str (s : List Nat) (h : s.all (· < 1114112) = true) : Rep K F ι (.str ⟨s.toArray⟩) (.str s)
  | tup {a : Addr} {vs : List V} {ds : List D} : SqT K.fr F a vs → RepL K F ι vs ds → Rep K F ι (.ref a) (.tup ds)
  | scr {a : Addr} {ns : List Int} : SqL K.fr F a (ns.map V.int) → Rep K F ι (.ref a) (.scr ns)
  | cell {a : Addr} {n : Nat} : ι[n]? = some a → Rep K F ι (.ref a) (.cell n)
  | ob {a : Addr} {o : HO} {d : D} : F a = some o → ORep K F ι a o d → Rep K F ι (.ref a) d
inductive ORep (K : KW) (F : Hp) (ι : List Addr) : Addr → HO → D → Prop
  | lst {a : Addr} {vs : List V} {ds : List D} : RepL K F ι vs ds → ORep K F ι a (.lst vs) (.lst ds)
  | dct0 {a : Addr} {kvs : List (Key × V)} {es : List (D × D)} : RepL K F ι (kvs.map fun p => kV p.1) (es.map (·.1)) → RepL K F ι (kvs.map (·.2)) (es.map (·.2)) → ORep K F ι a (.dK kvs) (.dct 0 es)
  | dct1 {a : Addr} {xs : List (NestedKey × Addr × V)} {es : List (D × D)} : es.map (fun e => D.nk e.1) = xs.map (fun x => some x.1) → RepL K F ι (xs.map fun x => V.ref x.2.1) (es.map (·.1)) → RepL K F ι (xs.map (·.2.2)) (es.map (·.2)) →
      ORep K F ι a (nO K.w a xs) (.dct 1 es)
  /-- a dict that is locked for good -/
  | dct2 {a : Addr} {od : Obj} {kvs : List (Key × V)} {es : List (D × D)} : RepL K F ι (kvs.map fun p => kV p.1) (es.map (·.1)) → RepL K F ι (kvs.map (·.2)) (es.map (·.2)) → ORep K F ι a (.frz od (.dK kvs)) (.dct 2 es)
  | dct3 {a : Addr} {od : Obj} {xs : List (NestedKey × Addr × V)} {es : List (D × D)} : es.map (fun e => D.nk e.1) = xs.map (fun x => some x.1) → RepL K F ι (xs.map fun x => V.ref x.2.1) (es.map (·.1)) → RepL K F ι (xs.map (·.2.2)) (es.map (·.2)) →
      ORep K F ι a (.frz od (nO K.w a xs)) (.dct 3 es)
  | ins {a dx : Addr} {c : Nat} {vs : List V} {fs : List D} : vs.length ≤ (K.ct c).2.length → RepL K F ι vs fs → ORep K F ι a (.ins (K.ct c).1 dx ((K.ct c).2.zip vs)) (.obj c fs)
  | exn0 {a : Addr} {c : Nat} : ORep K F ι a (xvO a (K.cv c).1 none) (.exn c [])
  | exn1 {a dx : Addr} {c : Nat} {v : V} {d : D} : F dx = some (.xd [((K.cv c).2, v)]) → Rep K F ι v d → ORep K F ι a (xvO a (K.cv c).1 (some dx)) (.exn c [d])
  /-- the table of code objects of the def x -/
  | tbl {a : Addr} {ps : Array Value} {x : List Nat} : a = tabA K.fr ⟨x.toArray⟩ → TriplesOk ps.toList → (∀ (pos : Pos) (cv : Value), codeAmong pos ps.toList = some cv → ∃ c, cv = .ref c ∧ F c = some (LamX.CodeO c (lamQ x))) → ORep K F ι a (.tbl ps) (.exn 0 [.str x, .non])
inductive RepL (K : KW) (F : Hp) (ι : List Addr) : List V → List D → Prop
  | nil : RepL K F ι [] []
  | cons {v : V} {vs : List V} {d : D} {ds : List D} : Rep K F ι v d → RepL K F ι vs ds → RepL K F ι (v :: vs) (d :: ds)
end
theorem Rep.lst {K : KW} {F : Hp} {ι : List Addr} {a : Addr} {vs : List V} {ds : List D} (q : F a = some (.lst vs)) (r : RepL K F ι vs ds) : Rep K F ι (.ref a) (.lst ds) := .ob q (.lst r)

def Sub (F F' : Hp) : Prop := ∀ a o, F a = some o → F' a = some o
theorem Sub.refl (F : Hp) : Sub F F := fun _ _ h => h
theorem Sub.trans {A B C : Hp} (h : Sub A B) (g : Sub B C) : Sub A C := fun a o e => g a o (h a o e)
theorem Sub.none {F F' : Hp} (h : Sub F F') {a : Addr} (e : F' a = none) : F a = none := by
  cases q : F a with
  | none => rfl
  | some o => rw [h a o q] at e; cases e
theorem sub_rd {H H' : Hp} {a : Addr} {u : HO} (e : Sub H H') (h : Rd H a u) : Rd H' a u := by
  rcases h with h | ⟨o, h⟩
  · exact Or.inl (e a _ h)
  · exact Or.inr ⟨o, e a _ h⟩
theorem sub_l {K : PySem.W.Frag} {H H' : Hp} {a : Addr} {xs : List V} (e : Sub H H') (h : SqL K H a xs) : SqL K H' a xs := h.imp (sub_rd e) id
theorem sub_t {K : PySem.W.Frag} {H H' : Hp} {a : Addr} {xs : List V} (e : Sub H H') (h : SqT K H a xs) : SqT K H' a xs := h.imp (sub_rd e) id

/-- the frozen part and the cells -/
structure Gh where
  F : Hp
  ι : List Addr
structure Gh.le (G G' : Gh) : Prop where
  sub : Sub G.F G'.F
  pre : ∃ t, G'.ι = G.ι ++ t
theorem Gh.le.refl (G : Gh) : G.le G := ⟨Sub.refl _, [], by simp⟩
theorem Gh.le.trans {A B C : Gh} (h : A.le B) (g : B.le C) : A.le C := by
  obtain ⟨t, e⟩ := h.pre
  obtain ⟨u, f⟩ := g.pre
  exact ⟨h.sub.trans g.sub, t ++ u, by rw [f, e, List.append_assoc]⟩
theorem Gh.le.at {G G' : Gh} (h : G.le G') {n : Nat} {a : Addr} (e : G.ι[n]? = some a) : G'.ι[n]? = some a := by
  obtain ⟨t, q⟩ := h.pre
  rw [q, List.getElem?_append_left (List.getElem?_eq_some_iff.mp e).1, e]
mutual
theorem Rep.mono {K : KW} {G G' : Gh} (h : G.le G') : ∀ {v : V} {d : D}, Rep K G.F G.ι v d → Rep K G'.F G'.ι v d
  | _, _, .non => .non
  | _, _, .bl b => .bl b
  | _, _, .int i => .int i
  | _, _, .str s h => .str s h
  | _, _, .tup q r => .tup (sub_t h.sub q) (RepL.mono h r)
  | _, _, .scr q => .scr (sub_l h.sub q)
  | _, _, .cell q => .cell (h.at q)
  | _, _, .ob q r => .ob (h.sub _ _ q) (ORep.mono h r)
theorem ORep.mono {K : KW} {G G' : Gh} (h : G.le G') : ∀ {a : Addr} {o : HO} {d : D}, ORep K G.F G.ι a o d → ORep K G'.F G'.ι a o d
  | _, _, _, .lst r => .lst (RepL.mono h r)
  | _, _, _, .dct0 r r2 => .dct0 (RepL.mono h r) (RepL.mono h r2)
  | _, _, _, .dct1 e r r2 => .dct1 e (RepL.mono h r) (RepL.mono h r2)
  | _, _, _, .dct2 r r2 => .dct2 (RepL.mono h r) (RepL.mono h r2)
  | _, _, _, .dct3 e r r2 => .dct3 e (RepL.mono h r) (RepL.mono h r2)
  | _, _, _, .ins e r => .ins e (RepL.mono h r)
  | _, _, _, .exn0 => .exn0
  | _, _, _, .exn1 e r => .exn1 (h.sub _ _ e) (Rep.mono h r)
  | _, _, _, .tbl e t q => .tbl e t fun pos cv hc => let ⟨c, e1, e2⟩ := q pos cv hc; ⟨c, e1, h.sub _ _ e2⟩
theorem RepL.mono {K : KW} {G G' : Gh} (h : G.le G') : ∀ {v : List V} {d : List D}, RepL K G.F G.ι v d → RepL K G'.F G'.ι v d
  | _, _, .nil => .nil
  | _, _, .cons a b => .cons (Rep.mono h a) (RepL.mono h b)
end
theorem RepL.length {K : KW} {F : Hp} {ι : List Addr} : ∀ {vs : List V} {ds : List D}, RepL K F ι vs ds → vs.length = ds.length
  | _, _, .nil => rfl
  | _, _, .cons _ t => by simp [RepL.length t]
theorem RepL.append {K : KW} {F : Hp} {ι : List Addr} : ∀ {vs ws : List V} {ds es : List D}, RepL K F ι vs ds → RepL K F ι ws es → RepL K F ι (vs ++ ws) (ds ++ es)
  | _, _, _, _, .nil, h => h
  | _, _, _, _, .cons a t, h => .cons a (RepL.append t h)
theorem RepL.take {K : KW} {F : Hp} {ι : List Addr} : ∀ {vs : List V} {ds : List D} (n : Nat), RepL K F ι vs ds → RepL K F ι (vs.take n) (ds.take n)
  | _, _, 0, _ => .nil
  | _, _, _ + 1, .nil => .nil
  | _, _, n + 1, .cons a t => .cons a (RepL.take n t)
theorem RepL.drop {K : KW} {F : Hp} {ι : List Addr} : ∀ {vs : List V} {ds : List D} (n : Nat), RepL K F ι vs ds → RepL K F ι (vs.drop n) (ds.drop n)
  | _, _, 0, h => h
  | _, _, _ + 1, .nil => .nil
  | _, _, n + 1, .cons _ t => RepL.drop n t
theorem RepL.at {K : KW} {F : Hp} {ι : List Addr} : ∀ {vs : List V} {ds : List D} {n : Nat} {d : D}, RepL K F ι vs ds → ds[n]? = some d → ∃ v, vs[n]? = some v ∧ Rep K F ι v d
  | _, _, _, _, .nil, e => by simp at e
  | _, _, 0, _, .cons a _, e => by simp at e; subst e; exact ⟨_, rfl, a⟩
  | _, _, n + 1, _, .cons _ t, e => by
    obtain ⟨v, h1, h2⟩ := RepL.at (n := n) t (by simpa using e)
    exact ⟨v, by simpa using h1, h2⟩
theorem RepL.at' {K : KW} {F : Hp} {ι : List Addr} : ∀ {vs : List V} {ds : List D} {n : Nat} {v : V}, RepL K F ι vs ds → vs[n]? = some v → ∃ d, ds[n]? = some d ∧ Rep K F ι v d
  | _, _, _, _, .nil, e => by simp at e
  | _, _, 0, _, .cons a _, e => by simp at e; subst e; exact ⟨_, rfl, a⟩
  | _, _, n + 1, _, .cons _ t, e => by
    obtain ⟨v, h1, h2⟩ := RepL.at' (n := n) t (by simpa using e)
    exact ⟨v, by simpa using h1, h2⟩
theorem RepL.set {K : KW} {F : Hp} {ι : List Addr} {v : V} {d : D} (r : Rep K F ι v d) : ∀ {vs : List V} {ds : List D} (n : Nat), RepL K F ι vs ds → RepL K F ι (vs.set n v) (ds.set n d)
  | _, _, _, .nil => .nil
  | _, _, 0, .cons _ t => .cons r t
  | _, _, n + 1, .cons a t => .cons a (RepL.set r n t)
theorem Rep.toInt {K : KW} {F : Hp} {ι : List Addr} {v : V} {i : Int} (r : Rep K F ι v (.int i)) : v = .int i := by
  cases r with
  | int => rfl
  | ob q r => cases r
theorem Rep.toBl {K : KW} {F : Hp} {ι : List Addr} {v : V} {i : Bool} (r : Rep K F ι v (.bl i)) : v = .bl i := by
  cases r with
  | bl => rfl
  | ob q r => cases r
theorem Rep.toNon {K : KW} {F : Hp} {ι : List Addr} {v : V} (r : Rep K F ι v .non) : v = .non := by
  cases r with
  | non => rfl
  | ob q r => cases r
theorem Rep.toStr {K : KW} {F : Hp} {ι : List Addr} {v : V} {s : List Nat} (r : Rep K F ι v (.str s)) : v = .str ⟨s.toArray⟩ ∧ s.all (· < 1114112) = true := by
  cases r with
  | str s h => exact ⟨rfl, h⟩
  | ob q r => cases r
theorem Rep.toTup {K : KW} {F : Hp} {ι : List Addr} {v : V} {ds : List D} (r : Rep K F ι v (.tup ds)) : ∃ a vs, v = .ref a ∧ SqT K.fr F a vs ∧ RepL K F ι vs ds := by
  cases r with
  | tup q r => exact ⟨_, _, rfl, q, r⟩
  | ob q r => cases r
theorem Rep.toLst {K : KW} {F : Hp} {ι : List Addr} {v : V} {ds : List D} (r : Rep K F ι v (.lst ds)) : ∃ a vs, v = .ref a ∧ F a = some (.lst vs) ∧ RepL K F ι vs ds := by
  cases r with
  | ob q r =>
    cases r with
    | lst r => exact ⟨_, _, rfl, q, r⟩
theorem Rep.toScr {K : KW} {F : Hp} {ι : List Addr} {v : V} {ns : List Int} (r : Rep K F ι v (.scr ns)) : ∃ a, v = .ref a ∧ SqL K.fr F a (ns.map V.int) := by
  cases r with
  | scr q => exact ⟨_, rfl, q⟩
  | ob q r => cases r
theorem Rep.toCell {K : KW} {F : Hp} {ι : List Addr} {v : V} {n : Nat} (r : Rep K F ι v (.cell n)) : ∃ a, v = .ref a ∧ ι[n]? = some a := by
  cases r with
  | cell q => exact ⟨_, rfl, q⟩
  | ob q r => cases r
theorem RepL.ints {K : KW} {F : Hp} {ι : List Addr} : ∀ {vs : List V} {ns : List Int}, RepL K F ι vs (ns.map D.int) → vs = ns.map V.int
  | _, [], h => by cases h; rfl
  | _, n :: ns, h => by
    cases h with
    | cons a t => rw [a.toInt, RepL.ints t]; rfl

/-- an object of its own: what stands at a in H, its items frozen -/
def Own (K : KW) (G : Gh) (H : Hp) (a : Addr) (d : D) : Prop := ∃ o, H a = some o ∧ ORep K G.F G.ι a o d
theorem Own.mono {K : KW} {G G' : Gh} {H H' : Hp} {a : Addr} {d : D} (h : G.le G') (e : H' a = H a) (o : Own K G H a d) : Own K G' H' a d := by
  obtain ⟨u, q, r⟩ := o
  exact ⟨u, e.trans q, r.mono h⟩
theorem Own.some {K : KW} {G : Gh} {H : Hp} {a : Addr} {d : D} (o : Own K G H a d) : ∃ u, H a = some u := by
  obtain ⟨u, q, r⟩ := o
  exact ⟨u, q⟩
theorem own_mk {K : KW} {G : Gh} {H : Hp} {a : Addr} {vs : List V} {ds : List D} (q : H a = some (.lst vs)) (r : RepL K G.F G.ι vs ds) : Own K G H a (.lst ds) := ⟨.lst vs, q, ORep.lst r⟩
theorem own_lst {K : KW} {G : Gh} {H : Hp} {a : Addr} {ds : List D} (o : Own K G H a (.lst ds)) : ∃ vs, H a = some (.lst vs) ∧ RepL K G.F G.ι vs ds := by
  obtain ⟨u, q, r⟩ := o
  cases r with
  | lst r => exact ⟨_, q, r⟩
/-- what is never an object of its own -/
def D.flat : D → Bool
  | .non | .bl _ | .int _ | .str _ | .tup _ | .scr _ | .cell _ => true
  | _ => false
theorem Own.no {K : KW} {G : Gh} {H : Hp} {a : Addr} {d : D} (o : Own K G H a d) (h : d.flat = true) : False := by
  obtain ⟨u, q, r⟩ := o
  cases r <;> cases h
theorem ORep.no {K : KW} {F : Hp} {ι : List Addr} {a : Addr} {o : HO} {d : D} (r : ORep K F ι a o d) (h : d.flat = true) : False := by
  cases r <;> cases h

/-- a run's fixed part: the heap at the entry, the frozen part and the cells then -/
structure Bs where
  B : Hp
  F0 : Hp
  ι0 : List Addr
abbrev Sl := Option (Bool × D)
abbrev Rho := List Sl
def Loose (b : Bs) (G : Gh) (a : Addr) : Prop := G.F a = none ∧ a ∉ G.ι ∧ b.B a = none

structure R (K : KW) (b : Bs) (G : Gh) (ρ : Rho) (S : List D) (σ : L2.St) (H : Hp) : Prop where
  fr : Sub G.F H
  cn : G.ι.length = S.length
  cl : ∀ (n : Nat) (d : D), S[n]? = some d → ∃ a, G.ι[n]? = some a ∧ Own K G H a d ∧ G.F a = none
  nd : G.ι.Nodup
  f0 : Sub b.F0 G.F
  fn : ∀ a, b.F0 a = none → b.B a ≠ none → G.F a = none
  i0 : ∃ t, G.ι = b.ι0 ++ t ∧ ∀ a ∈ t, b.B a = none
  kp : ∀ a o, b.B a = some o → a ∉ b.ι0 → H a = some o
  ln : ρ.length = σ.length
  vs : ∀ (i : Nat) (own : Bool) (d : D), ρ[i]? = some (some (own, d)) → ∃ v, σ[i]? = some (some v) ∧ (own = false → Rep K G.F G.ι v d) ∧ (own = true → ∃ a, v = .ref a ∧ Own K G H a d ∧ Loose b G a)
  dj : ∀ (i j : Nat) (d d' : D) (a : Addr), i ≠ j → ρ[i]? = some (some (true, d)) → ρ[j]? = some (some (true, d')) → σ[i]? = some (some (V.ref a)) → σ[j]? ≠ some (some (V.ref a))

/-- the value of an expression: frozen, or an object of nobody else's -/
def VOk (K : KW) (b : Bs) (G : Gh) (ρ : Rho) (σ : L2.St) (H : Hp) (own : Bool) (d : D) (v : V) : Prop :=
  (own = false → Rep K G.F G.ι v d) ∧ (own = true → ∃ a, v = .ref a ∧ Own K G H a d ∧ Loose b G a ∧ ∀ (i : Nat) (d' : D), ρ[i]? = some (some (true, d')) → σ[i]? ≠ some (some (V.ref a)))
theorem VOk.fz {K : KW} {b : Bs} {G : Gh} {ρ : Rho} {σ : L2.St} {H : Hp} {d : D} {v : V} (r : Rep K G.F G.ι v d) : VOk K b G ρ σ H false d v := ⟨fun _ => r, fun z => nomatch z⟩

section
variable {K : KW} {b : Bs} {G : Gh} {ρ : Rho} {S : List D} {σ : L2.St} {H : Hp} {a p : Addr} {d : D}
/-- a cell's address is alive -/
theorem R.alive (r : R K b G ρ S σ H) (h : a ∈ G.ι) : ∃ o, H a = some o := by
  obtain ⟨n, hn, e⟩ := List.getElem_of_mem h
  have h2 : n < S.length := by rw [← r.cn]; exact hn
  obtain ⟨a', e1, e2, _⟩ := r.cl n S[n] (List.getElem?_eq_getElem h2)
  rw [List.getElem?_eq_getElem hn, e] at e1
  cases e1
  exact e2.some
theorem R.newB (r : R K b G ρ S σ H) (h : H p = none) : b.B p = none := by
  cases q : b.B p with
  | none => rfl
  | some o =>
    by_cases hm : p ∈ b.ι0
    · obtain ⟨t, e, _⟩ := r.i0
      obtain ⟨o', z⟩ := r.alive (a := p) (by rw [e]; exact List.mem_append_left _ hm)
      rw [h] at z; cases z
    · rw [r.kp p o q hm] at h; cases h
theorem R.loose (r : R K b G ρ S σ H) (h : H p = none) : Loose b G p := by
  refine ⟨r.fr.none h, fun hm => ?_, r.newB h⟩
  obtain ⟨o, z⟩ := r.alive hm
  rw [h] at z; cases z
theorem R.noVar (r : R K b G ρ S σ H) (h : H p = none) : ∀ (i : Nat) (d' : D), ρ[i]? = some (some (true, d')) → σ[i]? ≠ some (some (V.ref p)) := fun i d' e z => by
  obtain ⟨v, e1, _, h2⟩ := r.vs i true d' e
  obtain ⟨a, rfl, o, _⟩ := h2 rfl
  rw [e1] at z
  cases z
  obtain ⟨u, q⟩ := o.some
  rw [h] at q; cases q
/-- the heap grows by a new object that nobody knows -/
theorem R.new (r : R K b G ρ S σ H) (h : H p = none) (o : HO) : R K b G ρ S σ (upd H p o) := by
  have ne : ∀ {x u}, H x = some u → x ≠ p := fun e => ne_of_none e h
  have keep : ∀ x u, H x = some u → upd H p o x = some u := fun x u e => by rw [upd_ne (ne e)]; exact e
  have own : ∀ {x d}, Own K G H x d → Own K G (upd H p o) x d := fun {x d} w => by
    obtain ⟨u, q⟩ := w.some
    exact w.mono (Gh.le.refl G) (upd_ne (ne q))
  refine ⟨fun x u e => keep x u (r.fr x u e), r.cn, fun n d e => ?_, r.nd, r.f0, r.fn, r.i0, fun x u e hm => keep x u (r.kp x u e hm), r.ln, fun i own' d e => ?_, r.dj⟩
  · obtain ⟨x, e1, e2, e3⟩ := r.cl n d e
    exact ⟨x, e1, own e2, e3⟩
  · obtain ⟨v, e1, h1, h2⟩ := r.vs i own' d e
    exact ⟨v, e1, h1, fun z => let ⟨x, q, w, l⟩ := h2 z; ⟨x, q, own w, l⟩⟩
/-- a new object comes to the frozen part -/
theorem R.freeze (r : R K b G ρ S σ H) (l : Loose b G p) {o : HO} (h : H p = some o) (nv : ∀ (i : Nat) (d' : D), ρ[i]? = some (some (true, d')) → σ[i]? ≠ some (some (V.ref p))) :
    R K b ⟨upd G.F p o, G.ι⟩ ρ S σ H ∧ G.le ⟨upd G.F p o, G.ι⟩ := by
  obtain ⟨l1, l2, l3⟩ := l
  have le : G.le ⟨upd G.F p o, G.ι⟩ := ⟨fun x u e => by show upd G.F p o x = _; rw [upd_ne (ne_of_none e l1)]; exact e, [], by simp⟩
  refine ⟨⟨fun x u e => ?_, r.cn, fun n d e => ?_, r.nd, r.f0.trans le.sub, fun x e1 e2 => ?_, r.i0, r.kp, r.ln, fun i own d e => ?_, r.dj⟩, le⟩
  · have e' : upd G.F p o x = some u := e
    by_cases hx : x = p
    · subst hx; rw [upd_same] at e'; cases e'; exact h
    · rw [upd_ne hx] at e'; exact r.fr x u e'
  · obtain ⟨x, e1, e2, e3⟩ := r.cl n d e
    have hx : x ≠ p := fun z => l2 (z ▸ List.mem_of_getElem? e1)
    exact ⟨x, e1, e2.mono le rfl, by show upd G.F p o x = none; rw [upd_ne hx]; exact e3⟩
  · have hx : x ≠ p := fun z => e2 (z ▸ l3)
    show upd G.F p o x = none
    rw [upd_ne hx]; exact r.fn x e1 e2
  · obtain ⟨v, e1, h1, h2⟩ := r.vs i own d e
    refine ⟨v, e1, fun z => (h1 z).mono le, fun z => ?_⟩
    obtain ⟨x, q, w, m1, m2, m3⟩ := h2 z
    subst z
    have hx : x ≠ p := fun y => nv i d e (by rw [e1, q, y])
    exact ⟨x, q, w.mono le rfl, by show upd G.F p o x = none; rw [upd_ne hx]; exact m1, m2, m3⟩
/-- any value may be frozen -/
theorem R.frz (r : R K b G ρ S σ H) {own : Bool} {v : V} (h : VOk K b G ρ σ H own d v) : ∃ G', G.le G' ∧ R K b G' ρ S σ H ∧ Rep K G'.F G'.ι v d := by
  cases own with
  | false => exact ⟨G, Gh.le.refl G, r, h.1 rfl⟩
  | true =>
    obtain ⟨p, rfl, o, l, nv⟩ := h.2 rfl
    obtain ⟨u, q, rl⟩ := o
    obtain ⟨r', le⟩ := r.freeze l q nv
    exact ⟨_, le, r', .ob upd_same (rl.mono le)⟩
/-- a variable's object is frozen -/
theorem R.frzVar (r : R K b G ρ S σ H) {i : Nat} (e : ρ[i]? = some (some (true, d))) : ∃ G' v, G.le G' ∧ σ[i]? = some (some v) ∧ R K b G' (ρ.set i (some (false, d))) S σ H ∧ Rep K G'.F G'.ι v d := by
  obtain ⟨v, e1, _, h2⟩ := r.vs i true d e
  obtain ⟨p, rfl, o, l⟩ := h2 rfl
  have hi : i < ρ.length := (List.getElem?_eq_some_iff.mp e).1
  have r0 : R K b G (ρ.set i none) S σ H := by
    refine ⟨r.fr, r.cn, r.cl, r.nd, r.f0, r.fn, r.i0, r.kp, by rw [List.length_set]; exact r.ln, fun j own d' e' => ?_, fun j k d1 d2 a n e1 e2 => ?_⟩
    · by_cases hj : i = j
      · subst hj; rw [List.getElem?_set_self hi] at e'; cases e'
      · rw [List.getElem?_set_ne hj] at e'; exact r.vs j own d' e'
    · by_cases hj : i = j
      · subst hj; rw [List.getElem?_set_self hi] at e1; cases e1
      · rw [List.getElem?_set_ne hj] at e1
        by_cases hk : i = k
        · subst hk; rw [List.getElem?_set_self hi] at e2; cases e2
        · rw [List.getElem?_set_ne hk] at e2; exact r.dj j k d1 d2 a n e1 e2
  have nv : ∀ j d', (ρ.set i none)[j]? = some (some (true, d')) → σ[j]? ≠ some (some (V.ref p)) := fun j d' e' => by
    by_cases hj : i = j
    · subst hj; rw [List.getElem?_set_self hi] at e'; cases e'
    · rw [List.getElem?_set_ne hj] at e'; exact r.dj i j d d' p hj e e' e1
  obtain ⟨G', le, r', rp⟩ := r0.frz (own := true) (v := V.ref p) (d := d) ⟨fun z => (nomatch z), fun _ => ⟨p, rfl, o, l, nv⟩⟩
  refine ⟨G', _, le, e1, ⟨r'.fr, r'.cn, r'.cl, r'.nd, r'.f0, r'.fn, r'.i0, r'.kp, by rw [List.length_set]; exact r.ln, fun j own d' e' => ?_, fun j k d1 d2 a n e1 e2 => ?_⟩, rp⟩
  · by_cases hj : i = j
    · subst hj; rw [List.getElem?_set_self hi] at e'
      cases e'
      exact ⟨_, e1, fun _ => rp, fun z => nomatch z⟩
    · rw [List.getElem?_set_ne hj] at e'
      exact r'.vs j own d' (by rw [List.getElem?_set_ne hj]; exact e')
  · by_cases hj : i = j
    · subst hj; rw [List.getElem?_set_self hi] at e1; cases e1
    · rw [List.getElem?_set_ne hj] at e1
      by_cases hk : i = k
      · subst hk; rw [List.getElem?_set_self hi] at e2; cases e2
      · rw [List.getElem?_set_ne hk] at e2; exact r.dj j k d1 d2 a n e1 e2
/-- variables forgotten -/
theorem R.forget (r : R K b G ρ S σ H) {ρ' : Rho} (hl : ρ'.length = ρ.length) (w : ∀ (i : Nat) (x : Bool × D), ρ'[i]? = some (some x) → ρ[i]? = some (some x)) : R K b G ρ' S σ H :=
  ⟨r.fr, r.cn, r.cl, r.nd, r.f0, r.fn, r.i0, r.kp, hl.trans r.ln, fun i own d e => r.vs i own d (w i _ e), fun i j d d' a n e1 e2 => r.dj i j d d' a n (w i _ e1) (w j _ e2)⟩
theorem R.drop (r : R K b G ρ S σ H) : R K b G [] S [] H :=
  ⟨r.fr, r.cn, r.cl, r.nd, r.f0, r.fn, r.i0, r.kp, rfl, fun i own d e => by simp at e, fun i j d d' a n e1 => by simp at e1⟩
theorem VOk.drop {own : Bool} {v : V} (h : VOk K b G ρ σ H own d v) : VOk K b G [] [] H own d v :=
  ⟨h.1, fun z => let ⟨a, q, o, l, _⟩ := h.2 z; ⟨a, q, o, l, fun i d' e => by simp at e⟩⟩
/-- a name is stored -/
theorem R.store (r : R K b G ρ S σ H) {own : Bool} {v : V} (h : VOk K b G ρ σ H own d v) (i : Nat) : R K b G (ρ.set i (some (own, d))) S (σ.set i (some v)) H := by
  refine ⟨r.fr, r.cn, r.cl, r.nd, r.f0, r.fn, r.i0, r.kp, by simp [r.ln], fun j own' d' e => ?_, fun j k d1 d2 a n e1 e2 => ?_⟩
  · by_cases hj : i = j
    · subst hj
      have hi : i < ρ.length := by
        have := (List.getElem?_eq_some_iff.mp e).1
        simpa using this
      rw [List.getElem?_set_self hi] at e
      cases e
      exact ⟨v, List.getElem?_set_self (by rw [← r.ln]; exact hi), h.1, fun z => let ⟨a, q, o, l, _⟩ := h.2 z; ⟨a, q, o, l⟩⟩
    · rw [List.getElem?_set_ne hj] at e
      obtain ⟨v', e1, h1, h2⟩ := r.vs j own' d' e
      exact ⟨v', by rw [List.getElem?_set_ne hj]; exact e1, h1, h2⟩
  · have li : i < ρ.length → i < σ.length := fun z => by rw [← r.ln]; exact z
    by_cases hj : i = j
    · subst hj
      have hk : i ≠ k := n
      have hi : i < ρ.length := by
        have := (List.getElem?_eq_some_iff.mp e1).1
        simpa using this
      rw [List.getElem?_set_self hi] at e1
      cases e1
      rw [List.getElem?_set_ne hk] at e2
      rw [List.getElem?_set_self (li hi), List.getElem?_set_ne hk]
      obtain ⟨x, rfl, _, _, nv⟩ := h.2 rfl
      intro z
      cases z
      exact nv k _ e2
    · rw [List.getElem?_set_ne hj] at e1 ⊢
      by_cases hk : i = k
      · subst hk
        have hi : i < ρ.length := by
          have := (List.getElem?_eq_some_iff.mp e2).1
          simpa using this
        rw [List.getElem?_set_self hi] at e2
        cases e2
        rw [List.getElem?_set_self (li hi)]
        obtain ⟨x, rfl, _, _, nv⟩ := h.2 rfl
        intro z1 z2
        cases z2
        exact nv j _ e1 z1
      · rw [List.getElem?_set_ne hk] at e2 ⊢
        exact r.dj j k d1 d2 a n e1 e2
/-- a slot without a value -/
theorem R.unset (r : R K b G ρ S σ H) (i : Nat) (o : Option V) : R K b G (ρ.set i none) S (σ.set i o) H := by
  refine ⟨r.fr, r.cn, r.cl, r.nd, r.f0, r.fn, r.i0, r.kp, by simp [r.ln], fun j own' d' e => ?_, fun j k d1 d2 a n e1 e2 => ?_⟩
  · by_cases hj : i = j
    · subst hj
      have hi : i < ρ.length := by
        have := (List.getElem?_eq_some_iff.mp e).1
        simpa using this
      rw [List.getElem?_set_self hi] at e
      cases e
    · rw [List.getElem?_set_ne hj] at e ⊢
      exact r.vs j own' d' e
  · by_cases hj : i = j
    · subst hj
      have hi : i < ρ.length := by
        have := (List.getElem?_eq_some_iff.mp e1).1
        simpa using this
      rw [List.getElem?_set_self hi] at e1
      cases e1
    · rw [List.getElem?_set_ne hj] at e1 ⊢
      by_cases hk : i = k
      · subst hk
        have hi : i < ρ.length := by
          have := (List.getElem?_eq_some_iff.mp e2).1
          simpa using this
        rw [List.getElem?_set_self hi] at e2
        cases e2
      · rw [List.getElem?_set_ne hk] at e2 ⊢
        exact r.dj j k d1 d2 a n e1 e2
/-- a variable's own object is written -/
theorem R.putVar (r : R K b G ρ S σ H) {i : Nat} {d' : D} {o : HO} (e : ρ[i]? = some (some (true, d))) (ev : σ[i]? = some (some (V.ref p))) (w : Own K G (upd H p o) p d') : R K b G (ρ.set i (some (true, d'))) S σ (upd H p o) := by
  obtain ⟨v, e1, _, h2⟩ := r.vs i true d e
  obtain ⟨q, hq, ow, l1, l2, l3⟩ := h2 rfl
  rw [e1] at ev
  subst hq
  cases ev
  have hi : i < ρ.length := (List.getElem?_eq_some_iff.mp e).1
  have keep : ∀ {x}, x ≠ p → upd H p o x = H x := fun h => upd_ne h
  refine ⟨fun x u q => (keep (ne_of_none q l1)).trans (r.fr x u q), r.cn, fun n d e => ?_, r.nd, r.f0, r.fn, r.i0, fun x u q hm => (keep (ne_of_none q l3)).trans (r.kp x u q hm), by simp [r.ln], fun j own' d'' e' => ?_, fun j k d1 d2 a n e1' e2' => ?_⟩
  · obtain ⟨x, c1, c2, c3⟩ := r.cl n d e
    exact ⟨x, c1, c2.mono (Gh.le.refl G) (keep fun z => l2 (z ▸ List.mem_of_getElem? c1)), c3⟩
  · by_cases hj : i = j
    · subst hj
      rw [List.getElem?_set_self hi] at e'
      cases e'
      exact ⟨_, e1, fun z => (nomatch z), fun _ => ⟨p, rfl, w, l1, l2, l3⟩⟩
    · rw [List.getElem?_set_ne hj] at e'
      obtain ⟨v', g1, g2, g3⟩ := r.vs j own' d'' e'
      refine ⟨v', g1, g2, fun z => ?_⟩
      obtain ⟨x, gx, go, gl⟩ := g3 z
      subst z
      exact ⟨x, gx, go.mono (Gh.le.refl G) (keep fun z => r.dj i j d d'' p hj e e' e1 (by rw [g1, gx, z])), gl⟩
  · have get : ∀ {j d1}, (ρ.set i (some (true, d')))[j]? = some (some (true, d1)) → ∃ d2, ρ[j]? = some (some (true, d2)) := fun {j d1} z => by
      by_cases hj : i = j
      · subst hj; exact ⟨d, e⟩
      · rw [List.getElem?_set_ne hj] at z; exact ⟨_, z⟩
    obtain ⟨_, g1⟩ := get e1'
    obtain ⟨_, g2⟩ := get e2'
    exact r.dj j k _ _ a n g1 g2
/-- a cell is written -/
theorem R.putCell (r : R K b G ρ S σ H) {n : Nat} {d' : D} {o : HO} (e : S[n]? = some d) (ev : G.ι[n]? = some p) (w : Own K G (upd H p o) p d') : R K b G ρ (S.set n d') σ (upd H p o) := by
  obtain ⟨q, hq, ow, l1⟩ := r.cl n d e
  rw [ev] at hq
  cases hq
  have keep : ∀ {x}, x ≠ p → upd H p o x = H x := fun h => upd_ne h
  have hn : n < S.length := (List.getElem?_eq_some_iff.mp e).1
  refine ⟨fun x u q => (keep (ne_of_none q l1)).trans (r.fr x u q), by simpa using r.cn, fun m d1 e1 => ?_, r.nd, r.f0, r.fn, r.i0, fun x u q hm => (keep fun z => ?_).trans (r.kp x u q hm), r.ln, fun j own' d'' e' => ?_, r.dj⟩
  · by_cases hm : n = m
    · subst hm
      rw [List.getElem?_set_self hn] at e1
      cases e1
      exact ⟨p, ev, w, l1⟩
    · rw [List.getElem?_set_ne hm] at e1
      obtain ⟨x, c1, c2, c3⟩ := r.cl m d1 e1
      refine ⟨x, c1, c2.mono (Gh.le.refl G) (keep fun z => hm ?_), c3⟩
      subst z
      exact (List.getElem?_inj (by rw [r.cn]; exact hn) r.nd).mp (ev.trans c1.symm)
  · subst z
    obtain ⟨t, e2, ht⟩ := r.i0
    have hp : x ∈ b.ι0 ++ t := by rw [← e2]; exact List.mem_of_getElem? ev
    rcases List.mem_append.mp hp with h | h
    · exact hm h
    · rw [ht x h] at q; cases q
  · obtain ⟨v', g1, g2, g3⟩ := r.vs j own' d'' e'
    refine ⟨v', g1, g2, fun z => ?_⟩
    obtain ⟨x, gx, go, gl⟩ := g3 z
    exact ⟨x, gx, go.mono (Gh.le.refl G) (keep fun z => gl.2.1 (z ▸ List.mem_of_getElem? ev)), gl⟩
/-- an own object becomes a cell -/
theorem R.toCell (r : R K b G ρ S σ H) (o : Own K G H p d) (l : Loose b G p) (nv : ∀ (i : Nat) (d' : D), ρ[i]? = some (some (true, d')) → σ[i]? ≠ some (some (V.ref p))) :
    R K b ⟨G.F, G.ι ++ [p]⟩ ρ (S ++ [d]) σ H ∧ G.le ⟨G.F, G.ι ++ [p]⟩ := by
  have le : G.le ⟨G.F, G.ι ++ [p]⟩ := ⟨Sub.refl _, [p], rfl⟩
  refine ⟨⟨r.fr, by simp [r.cn], fun n d1 e => ?_, ?_, r.f0, r.fn, ?_, r.kp, r.ln, fun j own' d'' e' => ?_, r.dj⟩, le⟩
  · by_cases hn : n < S.length
    · rw [List.getElem?_append_left hn] at e
      obtain ⟨x, c1, c2, c3⟩ := r.cl n d1 e
      exact ⟨x, le.at c1, c2.mono le rfl, c3⟩
    · have : n = S.length := by
        have h := (List.getElem?_eq_some_iff.mp e).1
        simp at h; omega
      subst this
      simp at e
      subst e
      exact ⟨p, by show (G.ι ++ [p])[S.length]? = _; rw [← r.cn]; simp, o.mono le rfl, l.1⟩
  · rw [List.nodup_append]
    exact ⟨r.nd, by simp, fun x hx y hy z => by simp at hy; subst hy; subst z; exact l.2.1 hx⟩
  · obtain ⟨t, e, ht⟩ := r.i0
    refine ⟨t ++ [p], by show G.ι ++ [p] = _; rw [e, List.append_assoc], fun x hx => ?_⟩
    rcases List.mem_append.mp hx with h | h
    · exact ht x h
    · simp at h; subst h; exact l.2.2
  · obtain ⟨v', g1, g2, g3⟩ := r.vs j own' d'' e'
    refine ⟨v', g1, fun z => (g2 z).mono le, fun z => ?_⟩
    obtain ⟨x, gx, go, gl⟩ := g3 z
    subst z
    refine ⟨x, gx, go.mono le rfl, gl.1, fun hx => ?_, gl.2.2⟩
    rcases List.mem_append.mp hx with h | h
    · exact gl.2.1 h
    · simp at h; subst h; exact nv j _ e' (by rw [g1, gx])
/-- into a callee -/
theorem R.into (r : R K b G ρ S σ H) : R K ⟨H, G.F, G.ι⟩ G [] S [] H :=
  ⟨r.fr, r.cn, r.cl, r.nd, Sub.refl _, fun a e _ => e, ⟨[], by simp, fun a h => by simp at h⟩, fun a o e _ => e, rfl, fun i own d e => by simp at e, fun i j d d' a n e1 => by simp at e1⟩
/-- behind a callee -/
theorem R.behind {G' : Gh} {S' : List D} {H' : Hp} {ρ' : Rho} {σ' : L2.St} (r : R K b G ρ S σ H) (c : R K ⟨H, G.F, G.ι⟩ G' ρ' S' σ' H') : R K b G' ρ S' σ H' ∧ G.le G' := by
  obtain ⟨t, et, ht⟩ := c.i0
  have le : G.le G' := ⟨c.f0, t, et⟩
  have keep : ∀ {x u}, H x = some u → x ∉ G.ι → H' x = some u := fun e h => c.kp _ _ e h
  refine ⟨⟨c.fr, c.cn, c.cl, c.nd, r.f0.trans c.f0, fun a e1 e2 => ?_, ?_, fun a o e h => ?_, r.ln, fun i own d e => ?_, r.dj⟩, le⟩
  · have h1 := r.fn a e1 e2
    cases q : H a with
    | some u => exact c.fn a h1 (by show H a ≠ none; rw [q]; exact fun z => nomatch z)
    | none => exact absurd (r.newB q) e2
  · obtain ⟨t0, e0, h0⟩ := r.i0
    refine ⟨t0 ++ t, by rw [et]; show G.ι ++ t = _; rw [e0, List.append_assoc], fun a h => ?_⟩
    rcases List.mem_append.mp h with h | h
    · exact h0 a h
    · exact r.newB (ht a h)
  · refine keep (r.kp a o e h) fun hm => ?_
    obtain ⟨t0, e0, h0⟩ := r.i0
    rw [e0] at hm
    rcases List.mem_append.mp hm with z | z
    · exact h z
    · rw [h0 a z] at e; cases e
  · obtain ⟨v, e1, h1, h2⟩ := r.vs i own d e
    refine ⟨v, e1, fun z => (h1 z).mono le, fun z => ?_⟩
    obtain ⟨x, q, w, l1, l2, l3⟩ := h2 z
    obtain ⟨u, hu⟩ := w.some
    refine ⟨x, q, w.mono le ((keep hu l2).trans hu.symm), c.fn x l1 (by show H x ≠ none; rw [hu]; exact fun z => nomatch z), fun hm => ?_, l3⟩
    rw [et] at hm
    rcases List.mem_append.mp hm with z | z
    · exact l2 z
    · have := ht x z
      rw [show (⟨H, G.F, G.ι⟩ : Bs).B = H from rfl, hu] at this
      cases this
end
end Mi

namespace Mi
open PySem PySem.Spec PyProof.Rows L2

/-! ### runs over data -/
inductive Res (α : Type) where
  | ok (a : α) (ρ : Rho) (S : List D)
  | exc (c : Nat) (vs : List D) (ρ : Rho) (S : List D)
  | err
def M (α : Type) := Rho → List D → Res α
def M.pur {α : Type} (a : α) : M α := fun ρ S => .ok a ρ S
def M.bnd {α β : Type} (m : M α) (f : α → M β) : M β := fun ρ S => match m ρ S with
  | .ok a ρ' S' => f a ρ' S'
  | .exc c vs ρ' S' => .exc c vs ρ' S'
  | .err => .err
instance : Monad M where
  pure := M.pur
  bind := M.bnd
def M.err {α : Type} : M α := fun _ _ => .err
theorem pure_ap {α : Type} (a : α) (ρ : Rho) (S : List D) : (pure a : M α) ρ S = .ok a ρ S := rfl
theorem bind_ap {α β : Type} (m : M α) (f : α → M β) (ρ : Rho) (S : List D) : (m >>= f) ρ S = match m ρ S with
  | .ok a ρ' S' => f a ρ' S'
  | .exc c vs ρ' S' => .exc c vs ρ' S'
  | .err => .err := rfl
/-- what cannot raise (within a comprehension) -/
def M.quiet {α : Type} (m : M α) : M α := fun ρ S => match m ρ S with
  | .exc _ _ _ _ => .err
  | r => r
/-- the value alone -/
abbrev OD := Bool × D
def M.val (m : M OD) : M D := do let x ← m; pure x.2
def gives (d : D) : M OD := pure (false, d)
def fresh (d : D) : M OD := pure (true, d)
def asBool : D → M Bool
  | .bl b => pure b
  | _ => M.err
def ofBool (b : Bool) : M OD := gives (.bl b)
def M.test (m : M OD) : M Bool := do let d ← m.val; asBool d

structure Pm where
  K : KW
  b : Bs
  cv : Nat → Value × Str
  W : WX
def XRep (P : Pm) (G : Gh) (H : Hp) (c : Nat) (vs : List D) (cls : Value) (dd : Option Addr) : Prop :=
  cls = (P.K.cv c).1 ∧ match vs with
    | [] => dd = none
    | d :: ds => ds = [] ∧ ∃ dx v, dd = some dx ∧ H dx = some (.xd [((P.K.cv c).2, v)]) ∧ Rep P.K G.F G.ι v d ∧ P.b.B dx = none
abbrev Rl (α ν : Type) := Gh → Rho → L2.St → Hp → α → ν → Prop
section
variable {α β ν μ : Type}
def Post (P : Pm) (rel : Rl α ν) (G : Gh) (σ : L2.St) (r : Res α) (Q : ν → Hp → Prop) : Prop := match r with
  | .ok a ρ S => ∀ (v : ν) (H : Hp) (G' : Gh), G.le G' → R P.K P.b G' ρ S σ H → rel G' ρ σ H a v → Q v H
  | .exc c vs ρ S => ∀ (cls : Value) (dd : Option Addr) (H : Hp) (G' : Gh), G.le G' → R P.K P.b G' ρ S σ H → XRep P G' H c vs cls dd → P.W cls dd σ H
  | .err => False
def tmG (P : Pm) (rel : Rl α ν) (m : M α) : L2.St → Hp → (ν → Hp → Prop) → Prop := fun σ H Q => ∃ G ρ S, R P.K P.b G ρ S σ H ∧ Post P rel G σ (m ρ S) Q
def relO (P : Pm) : Rl OD V := fun G ρ σ H x v => VOk P.K P.b G ρ σ H x.1 x.2 v
def relV (P : Pm) : Rl D V := fun G _ _ _ d v => Rep P.K G.F G.ι v d
def relB : Rl Bool Bool := fun _ _ _ _ a v => v = a
def relL (P : Pm) : Rl (List D) (List V) := fun G _ _ _ ds vs => RepL P.K G.F G.ι vs ds
def relI : Rl (Option Int) (Option Int) := fun _ _ _ _ a v => v = a
abbrev tmO (P : Pm) (m : M OD) : TE := tmG P (relO P) m
abbrev tmV (P : Pm) (m : M D) : TE := tmG P (relV P) m
abbrev tmB (P : Pm) (m : M Bool) : TT := tmG P relB m
abbrev tmL (P : Pm) (m : M (List D)) : TA := tmG P (relL P) m
abbrev tmI (P : Pm) (m : M (Option Int)) : TO := tmG P relI m
variable {P : Pm} {G G1 : Gh} {σ : L2.St} {ρ : Rho} {S : List D} {H : Hp}
theorem Post.weak {rel : Rl α ν} {r : Res α} {Q : ν → Hp → Prop} (h : Post P rel G σ r Q) (le : G.le G1) : Post P rel G1 σ r Q := by
  cases r with
  | ok a ρ S => exact fun v H G' l => h v H G' (le.trans l)
  | exc c vs ρ S => exact fun cls dd H G' l => h cls dd H G' (le.trans l)
  | err => exact h
theorem Post.bind {rel : Rl β μ} {rel1 : Rl α ν} {m : M α} {f : α → M β} {Q : μ → Hp → Prop} (h : Post P rel G σ ((m >>= f) ρ S) Q) :
    Post P rel1 G σ (m ρ S) fun v H => ∃ G1 ρ1 S1 a, R P.K P.b G1 ρ1 S1 σ H ∧ rel1 G1 ρ1 σ H a v ∧ G.le G1 ∧ Post P rel G1 σ (f a ρ1 S1) Q := by
  rw [bind_ap] at h
  cases e : m ρ S with
  | ok a ρ1 S1 =>
    rw [e] at h
    exact fun v H G1 le r w => ⟨G1, ρ1, S1, a, r, w, le, Post.weak h le⟩
  | exc c vs ρ1 S1 => rw [e] at h; exact h
  | err => rw [e] at h; exact h.elim
/-- one after the other -/
theorem tm_bind {rel : Rl β μ} {rel1 : Rl α ν} {m : M α} {f : α → M β} {Q : μ → Hp → Prop} (h : tmG P rel (m >>= f) σ H Q) :
    tmG P rel1 m σ H fun v H1 => ∃ G1 ρ1 S1 a, R P.K P.b G1 ρ1 S1 σ H1 ∧ rel1 G1 ρ1 σ H1 a v ∧ Post P rel G1 σ (f a ρ1 S1) Q := by
  obtain ⟨G, ρ, S, r, h⟩ := h
  refine ⟨G, ρ, S, r, ?_⟩
  have h2 := Post.bind (rel1 := rel1) h
  generalize m ρ S = x at h2
  cases x with
  | ok a ρ1 S1 => exact fun v H G' l r w => let ⟨G1, ρ1, S1, a, r1, w1, _, q⟩ := h2 v H G' l r w; ⟨G1, ρ1, S1, a, r1, w1, q⟩
  | exc c vs ρ1 S1 => exact h2
  | err => exact h2
theorem tm_at {rel : Rl β μ} {rel1 : Rl α ν} {m : M α} {f : α → M β} {Q : μ → Hp → Prop} (r : R P.K P.b G ρ S σ H) (h : Post P rel G σ ((m >>= f) ρ S) Q) :
    tmG P rel1 m σ H fun v H1 => ∃ G1 ρ1 S1 a, R P.K P.b G1 ρ1 S1 σ H1 ∧ rel1 G1 ρ1 σ H1 a v ∧ G.le G1 ∧ Post P rel G1 σ (f a ρ1 S1) Q := by
  refine ⟨G, ρ, S, r, ?_⟩
  have h2 := Post.bind (rel1 := rel1) h
  generalize m ρ S = x at h2
  cases x with
  | ok a ρ1 S1 => exact fun v H G' l r w => let ⟨G1, ρ1, S1, a, r1, w1, l1, q⟩ := h2 v H G' l r w; ⟨G1, ρ1, S1, a, r1, w1, l1, q⟩
  | exc c vs ρ1 S1 => exact h2
  | err => exact h2
theorem tm_two {α' ν' : Type} {rel : Rl β μ} {rel1 : Rl α ν} {rel2 : Rl α' ν'} {m : M α} {n : M α'} {f : α → α' → M β} {Q : μ → Hp → Prop}
    (mono : ∀ {G G' ρ ρ' H H' a v}, Gh.le G G' → rel1 G ρ σ H a v → rel1 G' ρ' σ H' a v) (h : tmG P rel (m >>= fun a => n >>= fun c => f a c) σ H Q) :
    tmG P rel1 m σ H fun v H1 => tmG P rel2 n σ H1 fun u H2 => ∃ G2 ρ2 S2 a c, R P.K P.b G2 ρ2 S2 σ H2 ∧ rel1 G2 ρ2 σ H2 a v ∧ rel2 G2 ρ2 σ H2 c u ∧ Post P rel G2 σ (f a c ρ2 S2) Q := by
  obtain ⟨G, ρ, S, r, h⟩ := h
  refine ⟨G, ρ, S, r, ?_⟩
  have h2 := Post.bind (rel1 := rel1) h
  generalize m ρ S = x at h2
  cases x with
  | ok a ρ1 S1 =>
    intro v H G' l r w
    obtain ⟨G1, ρ1, S1, a, r1, w1, _, q⟩ := h2 v H G' l r w
    refine ⟨G1, ρ1, S1, r1, ?_⟩
    have h3 := Post.bind (rel1 := rel2) q
    generalize n ρ1 S1 = y at h3
    cases y with
    | ok c ρ2 S2 =>
      intro u H2 G'' l2 r2 w2
      obtain ⟨G2, ρ2, S2, c, r3, w3, l3, q3⟩ := h3 u H2 G'' l2 r2 w2
      exact ⟨G2, ρ2, S2, a, c, r3, mono l3 w1, w3, q3⟩
    | exc c vs ρ1 S1 => exact h3
    | err => exact h3
  | exc c vs ρ1 S1 => exact h2
  | err => exact h2
theorem tm_imp {rel : Rl α ν} {m : M α} {Q Q' : ν → Hp → Prop} (h : tmG P rel m σ H Q) (k : ∀ v H, Q v H → Q' v H) : tmG P rel m σ H Q' := by
  obtain ⟨G, ρ, S, r, h⟩ := h
  refine ⟨G, ρ, S, r, ?_⟩
  generalize m ρ S = x at h
  cases x with
  | ok a ρ1 S1 => exact fun v H G' l r w => k v H (h v H G' l r w)
  | exc c vs ρ1 S1 => exact h
  | err => exact h
theorem monoV {G G' : Gh} {ρ ρ' : Rho} {H H' : Hp} {d : D} {v : V} (l : Gh.le G G') (h : relV P G ρ σ H d v) : relV P G' ρ' σ H' d v := Rep.mono l h
theorem monoB {G G' : Gh} {ρ ρ' : Rho} {H H' : Hp} {d : Bool} {v : Bool} (l : Gh.le G G') (h : relB G ρ σ H d v) : relB G' ρ' σ H' d v := h
/-- the value frozen -/
theorem val_of {m : M OD} {Q : VK} (h : tmV P m.val σ H Q) : tmO P m σ H Q := by
  refine tm_imp (tm_bind (rel1 := relO P) h) fun v H1 ⟨G1, ρ1, S1, a, r, w, q⟩ => ?_
  obtain ⟨G', le, r', rp⟩ := r.frz w
  exact q v H1 G' le r' rp
theorem ok_at {rel : Rl α ν} {a : α} {Q : ν → Hp → Prop} {v : ν} (h : Post P rel G σ (.ok a ρ S) Q) (le : G.le G1) (r : R P.K P.b G1 ρ S σ H) (w : rel G1 ρ σ H a v) : Q v H := h v H G1 le r w
end
theorem _root_.L2.PE.imp {X : Cx} {e : Expr} {t t' : TE} (h : PE X e t) (k : ∀ σ H Q, t' σ H Q → t σ H Q) : PE X e t' := ⟨fun pins s σ H Q I q => h.run pins s σ H Q I (k _ _ _ q)⟩
theorem _root_.L2.PT.imp {X : Cx} {e : Expr} {t t' : TT} (h : PT X e t) (k : ∀ σ H Q, t' σ H Q → t σ H Q) : PT X e t' := ⟨fun pins s σ H Q I q => h.run pins s σ H Q I (k _ _ _ q)⟩
theorem _root_.L2.PW.imp {X : Cx} {e : Expr} {t t' : TT} (h : PW X e t) (k : ∀ σ H Q, t' σ H Q → t σ H Q) : PW X e t' := ⟨fun wh pins s σ H Q I q => h.run wh pins s σ H Q I (k _ _ _ q)⟩
theorem _root_.L2.PA.imp {X : Cx} {e : List Expr} {t t' : TA} (h : PA X e t) (k : ∀ σ H Q, t' σ H Q → t σ H Q) : PA X e t' := ⟨fun ps pins s σ H Q I q => h.run ps pins s σ H Q I (k _ _ _ q)⟩
theorem _root_.L2.PO.imp {X : Cx} {e : Option Expr} {t t' : TO} (h : PO X e t) (k : ∀ σ H Q, t' σ H Q → t σ H Q) : PO X e t' := ⟨fun pins s σ H Q I q => h.run pins s σ H Q I (k _ _ _ q)⟩
theorem _root_.L2.PS.imp {X : Cx} {e : Stmt} {t t' : TS} (h : PS X e t) (k : ∀ D σ H, t' D σ H → t D σ H) : PS X e t' := ⟨fun pins s σ H Q I q => h.run pins s σ H Q I (k _ _ _ q)⟩
theorem _root_.L2.PSs.imp {X : Cx} {e : List Stmt} {t t' : TS} (h : PSs X e t) (k : ∀ D σ H, t' D σ H → t D σ H) : PSs X e t' := ⟨fun pins s σ H Q I q => h.run pins s σ H Q I (k _ _ _ q)⟩

/-! ### operands: a variable is read late, and stays one's own -/
abbrev Opd := Nat ⊕ D
def chkM (i : Nat) : M Opd := fun ρ S => match ρ[i]? with
  | some (some _) => .ok (.inl i) ρ S
  | _ => .err
/-- a cell is seen through -/
def derM (d : D) : M D := fun ρ S => match d with
  | .cell n => (match S[n]? with
    | some e => .ok e ρ S
    | none => .err)
  | e => .ok e ρ S
def resM (o : Opd) : M D := fun ρ S => match o with
  | .inl i => match ρ[i]? with
    | some (some x) => derM x.2 ρ S
    | _ => .err
  | .inr d => derM d ρ S
theorem resM_l (i : Nat) (ρ : Rho) (S : List D) : resM (.inl i) ρ S = match ρ[i]? with
    | some (some x) => derM x.2 ρ S
    | _ => .err := rfl
theorem resM_r (d : D) (ρ : Rho) (S : List D) : resM (.inr d) ρ S = derM d ρ S := rfl
def M.opd (m : M OD) : M Opd := do let d ← m.val; pure (.inr d)
def relP (P : Pm) : Rl Opd V := fun G _ σ _ o v => match o with
  | .inl i => σ[i]? = some (some v)
  | .inr d => Rep P.K G.F G.ι v d
abbrev tmP (P : Pm) (m : M Opd) : TE := tmG P (relP P) m
/-- what may be looked at now -/
def Peek (K : KW) (G : Gh) (H : Hp) (v : V) (d : D) : Prop := Rep K G.F G.ι v d ∨ ∃ a, v = .ref a ∧ Own K G H a d
theorem monoP {P : Pm} {σ : L2.St} {G G' : Gh} {ρ ρ' : Rho} {H H' : Hp} {d : Opd} {v : V} (l : Gh.le G G') (h : relP P G ρ σ H d v) : relP P G' ρ' σ H' d v := by
  cases d with
  | inl i => exact h
  | inr d => exact Rep.mono l h
section
variable {X : Cx} {P : Pm} {e a b : Expr} {m ma mb : M OD} {pos : Pos}
theorem PE.val (h : PE X e (tmO P m)) : PE X e (tmV P m.val) := h.imp fun _ _ _ q => val_of q
theorem PE.opd (h : PE X e (tmO P m)) : PE X e (tmP P m.opd) := (PE.val h).imp fun σ H Q q =>
  tm_imp (tm_bind (rel1 := relV P) q) fun v H1 ⟨G1, ρ1, S1, a, r, w, q⟩ => q v H1 G1 (Gh.le.refl _) r w
theorem der_ev {d : D} {G : Gh} {ρ : Rho} {S : List D} {σ : L2.St} {H : Hp} {v : V} (r : R P.K P.b G ρ S σ H) (w : Peek P.K G H v d) : (∃ e, derM d ρ S = .ok e ρ S ∧ Peek P.K G H v e) ∨ derM d ρ S = .err := by
  cases d with
  | cell n =>
    cases e : S[n]? with
    | none => exact .inr (by show (match S[n]? with | some e => Res.ok e ρ S | none => .err) = _; rw [e])
    | some d' =>
      refine .inl ⟨d', by show (match S[n]? with | some e => Res.ok e ρ S | none => .err) = _; rw [e], ?_⟩
      obtain ⟨a, e1, o, _⟩ := r.cl n d' e
      rcases w with w | ⟨a', rfl, o'⟩
      · obtain ⟨a', rfl, e2⟩ := w.toCell
        rw [e1] at e2
        cases e2
        exact .inr ⟨a, rfl, o⟩
      · exact (o'.no rfl).elim
  | _ => exact .inl ⟨_, rfl, w⟩
theorem resM_ev {o : Opd} {G : Gh} {ρ : Rho} {S : List D} {σ : L2.St} {H : Hp} {v : V} (r : R P.K P.b G ρ S σ H) (w : relP P G ρ σ H o v) : (∃ d, resM o ρ S = .ok d ρ S ∧ Peek P.K G H v d) ∨ resM o ρ S = .err := by
  cases o with
  | inl i =>
    rw [resM_l]
    cases e : ρ[i]? with
    | none => exact .inr rfl
    | some x =>
      cases x with
      | none => exact .inr rfl
      | some x =>
        obtain ⟨own, d⟩ := x
        obtain ⟨v', e1, h1, h2⟩ := r.vs i own d e
        have e2 : σ[i]? = some (some v) := w
        rw [e2] at e1
        cases e1
        refine der_ev r (d := d) ?_
        cases own with
        | false => exact .inl (h1 rfl)
        | true =>
          obtain ⟨a, q, o, _⟩ := h2 rfl
          exact .inr ⟨a, q, o⟩
  | inr d => exact der_ev r (.inl w)
theorem res_of {α ν : Type} {rel : Rl α ν} {o : Opd} {f : D → M α} {G : Gh} {ρ : Rho} {S : List D} {σ : L2.St} {H : Hp} {v : V} {Q : ν → Hp → Prop} (r : R P.K P.b G ρ S σ H) (w : relP P G ρ σ H o v)
    (h : Post P rel G σ ((resM o >>= f) ρ S) Q) : ∃ d, Peek P.K G H v d ∧ Post P rel G σ (f d ρ S) Q := by
  rw [bind_ap] at h
  rcases resM_ev r w with ⟨d, e, p⟩ | e
  · rw [e] at h
    exact ⟨d, p, h⟩
  · rw [e] at h
    exact h.elim
def op2M (oa ob : M Opd) (g : D → D → M OD) : M OD := do
  let x ← oa
  let y ← ob
  let d ← resM x
  let e ← resM y
  g d e
variable {oa ob : M Opd}
/-- by operators -/
theorem two_of {r : R2} {g : D → D → M OD} {σ : L2.St} {H : Hp} {Q : VK}
    (h : ∀ {G ρ S σ H x y d e Q}, R P.K P.b G ρ S σ H → Peek P.K G H x d → Peek P.K G H y e → Post P (relO P) G σ (g d e ρ S) Q → r x y H Q) (q : tmO P (op2M oa ob g) σ H Q) :
    tmP P oa σ H fun x H1 => tmP P ob σ H1 fun y H2 => r x y H2 Q := by
  refine tm_imp (tm_two (rel1 := relP P) (rel2 := relP P) monoP q) fun x H1 q1 => tm_imp q1 fun y H2 ⟨G, ρ, S, d, e, r, w1, w2, q2⟩ => ?_
  obtain ⟨d', p1, q3⟩ := res_of r w1 q2
  obtain ⟨e', p2, q4⟩ := res_of r w2 q3
  exact h r p1 p2 q4
theorem pe_op2 {op : Operator} {r : R2} {g : D → D → M OD} (ho : OpR X (binaryOp op) r)
    (h : ∀ {G ρ S σ H x y d e Q}, R P.K P.b G ρ S σ H → Peek P.K G H x d → Peek P.K G H y e → Post P (relO P) G σ (g d e ρ S) Q → r x y H Q) (ha : PE X a (tmP P oa)) (hb : PE X b (tmP P ob)) :
    PE X (.BinOp a op b pos) (tmO P (op2M oa ob g)) := (pe_op ho ha hb).imp fun _ _ _ q => two_of h q
theorem pe_cmp2 {op : CmpOp} {r : R2} {g : D → D → M OD} (ho : OpR X (compareOp op) r)
    (h : ∀ {G ρ S σ H x y d e Q}, R P.K P.b G ρ S σ H → Peek P.K G H x d → Peek P.K G H y e → Post P (relO P) G σ (g d e ρ S) Q → r x y H Q) (hm : behindInMarks op b = false) (ha : PE X a (tmP P oa)) (hb : PE X b (tmP P ob)) :
    PE X (.Compare a [op] [b] pos) (tmO P (op2M oa ob g)) := (pe_cmpR ho ha hb hm).imp fun _ _ _ q => two_of h q
/-- a bool's value -/
theorem tm_test {m : M OD} {σ : L2.St} {H : Hp} {Q : Bool → Hp → Prop} (h : tmB P m.test σ H Q) : tmO P m σ H fun x H1 => ∃ k, x = .bl k ∧ Q k H1 := by
  refine val_of (tm_imp (tm_bind (rel1 := relV P) h) fun v H1 ⟨G1, ρ1, S1, a, r, w, q⟩ => ?_)
  have w : Rep P.K G1.F G1.ι v a := w
  cases a with
  | bl b => cases w.toBl; exact ⟨b, rfl, q b H1 G1 (Gh.le.refl _) r rfl⟩
  | _ => exact q.elim
theorem pt_cmp2 {op : CmpOp} {r : R2} {g : D → D → M OD} (ho : OpR X (compareOp op) r)
    (h : ∀ {G ρ S σ H x y d e Q}, R P.K P.b G ρ S σ H → Peek P.K G H x d → Peek P.K G H y e → Post P (relO P) G σ (g d e ρ S) Q → r x y H Q) (hm : behindInMarks op b = false) (ha : PE X a (tmP P oa)) (hb : PE X b (tmP P ob)) :
    PT X (.Compare a [op] [b] pos) (tmB P (M.test (op2M oa ob g))) := (pt_cmpR ho ha hb hm).imp fun _ _ _ q => two_of h (tm_test q)
end
section
variable {K : KW} {G : Gh} {H : Hp} {v : V}
theorem Peek.mono {G' : Gh} {H' : Hp} {d : D} (h : Peek K G H v d) (l : G.le G') (s : Sub H H') : Peek K G' H' v d := by
  rcases h with h | ⟨a, e, o⟩
  · exact .inl (h.mono l)
  · obtain ⟨u, q⟩ := o.some
    exact .inr ⟨a, e, o.mono l ((s _ _ q).trans q.symm)⟩
theorem Peek.int {i : Int} (h : Peek K G H v (.int i)) : v = .int i := by
  rcases h with h | ⟨a, _, o⟩
  · exact h.toInt
  · exact (o.no rfl).elim
theorem Peek.bl {i : Bool} (h : Peek K G H v (.bl i)) : v = .bl i := by
  rcases h with h | ⟨a, _, o⟩
  · exact h.toBl
  · exact (o.no rfl).elim
theorem Peek.non (h : Peek K G H v .non) : v = .non := by
  rcases h with h | ⟨a, _, o⟩
  · exact h.toNon
  · exact (o.no rfl).elim
theorem Peek.str {s : List Nat} (h : Peek K G H v (.str s)) : v = .str ⟨s.toArray⟩ ∧ s.all (· < 1114112) = true := by
  rcases h with h | ⟨a, _, o⟩
  · exact h.toStr
  · exact (o.no rfl).elim
theorem Peek.lst (s : Sub G.F H) {ds : List D} (h : Peek K G H v (.lst ds)) : ∃ a vs, v = .ref a ∧ H a = some (.lst vs) ∧ RepL K G.F G.ι vs ds := by
  rcases h with h | ⟨a, e, o⟩
  · obtain ⟨a, vs, e, q, r⟩ := h.toLst
    exact ⟨a, vs, e, s _ _ q, r⟩
  · obtain ⟨vs, q, r⟩ := own_lst o
    exact ⟨a, vs, e, q, r⟩
theorem Peek.tup (s : Sub G.F H) {ds : List D} (h : Peek K G H v (.tup ds)) : ∃ a vs, v = .ref a ∧ SqT K.fr H a vs ∧ RepL K G.F G.ι vs ds := by
  rcases h with h | ⟨a, e, o⟩
  · obtain ⟨a, vs, e, q, r⟩ := h.toTup
    exact ⟨a, vs, e, sub_t s q, r⟩
  · exact (o.no rfl).elim
theorem Peek.rep {d : D} (hd : d.flat = true) (h : Peek K G H v d) : Rep K G.F G.ι v d := by
  rcases h with h | ⟨a, e, o⟩
  · exact h
  · exact (o.no hd).elim
theorem Peek.scr (s : Sub G.F H) {ns : List Int} (h : Peek K G H v (.scr ns)) : ∃ a, v = .ref a ∧ SqL K.fr H a (ns.map V.int) := by
  rcases h with h | ⟨a, e, o⟩
  · obtain ⟨a, e, q⟩ := h.toScr
    exact ⟨a, e, sub_l s q⟩
  · exact (o.no rfl).elim
theorem Peek.cell {n : Nat} (h : Peek K G H v (.cell n)) : ∃ a, v = .ref a ∧ G.ι[n]? = some a := by
  rcases h with h | ⟨a, e, o⟩
  · exact h.toCell
  · exact (o.no rfl).elim
/-- an object, frozen or one's own -/
theorem Peek.ob (s : Sub G.F H) {d : D} (hd : d.flat = false) (h : Peek K G H v d) : ∃ a o, v = .ref a ∧ H a = some o ∧ ORep K G.F G.ι a o d := by
  rcases h with h | ⟨a, e, o⟩
  · cases h with
    | ob q r => exact ⟨_, _, rfl, s _ _ q, r⟩
    | _ => cases hd
  · obtain ⟨o, q, r⟩ := o
    exact ⟨a, o, e, q, r⟩
end

/-! ### the size of things -/
@[reducible] def LN : Nat := 16777216
theorem LN_eq : sizeLine = LN := sizeLine_eq

/-! ### plain data -/
mutual
def D.dle : Nat → D → Bool
  | _, .non => true
  | _, .bl _ => true
  | _, .int _ => true
  | _, .str _ => true
  | n, .tup xs => D.dleL n xs
  | n, .lst xs => D.dleL n xs
  | _, .scr _ => true
  | _, _ => false
def D.dleL : Nat → List D → Bool
  | _, [] => true
  | 0, _ :: _ => false
  | n + 1, x :: xs => D.dle n x && D.dleL (n + 1) xs
end
mutual
def D.py : D → PyData
  | .non => .none
  | .bl b => .bool b
  | .int i => .int i
  | .str s => .str ⟨s.toArray⟩
  | .tup xs => .tuple (D.pyL xs)
  | .lst xs => .list (D.pyL xs)
  | .scr ns => .list (ns.map .int)
  | _ => .none
def D.pyL : List D → List PyData
  | [] => []
  | x :: xs => D.py x :: D.pyL xs
end
theorem dpInts {K : PySem.W.Frag} {H : Hp} : ∀ ns : List Int, DpAll K H (ns.map V.int) (ns.map PyData.int)
  | [] => .nil
  | n :: ns => .cons (.int n) (dpInts ns)
mutual
theorem Rep.dp {K : KW} {F H : Hp} {ι : List Addr} (s : Sub F H) : ∀ {v : V} {d : D} {n : Nat}, Rep K F ι v d → D.dle n d = true → Dp K H v d.py
  | _, _, _, .non, _ => by simp only [D.py]; exact .non
  | _, _, _, .bl b, _ => by simp only [D.py]; exact .bl b
  | _, _, _, .int i, _ => by simp only [D.py]; exact .int i
  | _, _, _, .str x _, _ => by simp only [D.py]; exact .str _
  | _, _, n, .tup q r, h => by
    simp only [D.py]
    exact .tup (sub_t s q) (RepL.dp s r (n := n) (by simpa only [D.dle] using h))
  | _, _, _, .scr q, _ => by simp only [D.py]; exact .lst (sub_l s q) (dpInts _)
  | _, _, _, .cell q, h => by simp only [D.dle] at h; cases h
  | _, _, _, .ob q r, h => ORep.dp s r (s _ _ q) h
theorem ORep.dp {K : KW} {F H : Hp} {ι : List Addr} (s : Sub F H) : ∀ {a : Addr} {o : HO} {d : D} {n : Nat}, ORep K F ι a o d → H a = some o → D.dle n d = true → Dp K H (.ref a) d.py
  | _, _, _, n, .lst r, q, h => by
    simp only [D.py]
    exact .lst (SqL.of q) (RepL.dp s r (n := n) (by simpa only [D.dle] using h))
  | _, _, _, _, .dct0 _ _, _, h => by simp only [D.dle] at h; cases h
  | _, _, _, _, .dct1 _ _ _, _, h => by simp only [D.dle] at h; cases h
  | _, _, _, _, .dct2 _ _, _, h => by simp only [D.dle] at h; cases h
  | _, _, _, _, .dct3 _ _ _, _, h => by simp only [D.dle] at h; cases h
  | _, _, _, _, .ins _ _, _, h => by simp only [D.dle] at h; cases h
  | _, _, _, _, .exn0, _, h => by simp only [D.dle] at h; cases h
  | _, _, _, _, .exn1 _ _, _, h => by simp only [D.dle] at h; cases h
  | _, _, _, _, .tbl _ _ _, _, h => by simp only [D.dle] at h; cases h
theorem RepL.dp {K : KW} {F H : Hp} {ι : List Addr} (s : Sub F H) : ∀ {vs : List V} {ds : List D} {n : Nat}, RepL K F ι vs ds → D.dleL n ds = true → DpAll K H vs (D.pyL ds)
  | _, _, _, .nil, _ => by simp only [D.pyL]; exact .nil
  | _, _, 0, .cons a t, h => by simp only [D.dleL] at h; cases h
  | _, _, n + 1, .cons a t, h => by
    simp only [D.dleL, Bool.and_eq_true] at h
    simp only [D.pyL]
    exact .cons (Rep.dp s a h.1) (RepL.dp s t h.2)
end
theorem lay_ints : ∀ ns : List Int, PyData.canLayAll0 (ns.map PyData.int) = true
  | [] => rfl
  | n :: ns => by simp only [List.map_cons, PyData.canLayAll0, PyData.canLay0, lay_ints ns, Bool.and_self]
theorem dep_ints : ∀ ns : List Int, PyData.depthAll (ns.map PyData.int) = 0
  | [] => rfl
  | n :: ns => by simp only [List.map_cons, PyData.depthAll, PyData.depth, dep_ints ns]; rfl
mutual
theorem Rep.lay {K : KW} {F : Hp} {ι : List Addr} : ∀ {v : V} {d : D} {n : Nat}, Rep K F ι v d → D.dle n d = true → d.py.canLay0 = true ∧ d.py.depth ≤ n + 1
  | _, _, _, .non, _ => by simp [D.py, PyData.canLay0, PyData.depth]
  | _, _, _, .bl b, _ => by simp [D.py, PyData.canLay0, PyData.depth]
  | _, _, _, .int i, _ => by simp [D.py, PyData.canLay0, PyData.depth]
  | _, _, _, .str x h, _ => by
    simp only [D.py, PyData.canLay0, PyData.depth, Nat.zero_le, and_true, PyData.strOk]
    simp only [List.all_toArray]
    exact h
  | _, _, n, .tup q r, h => by
    have w := RepL.lay r (n := n) (by simpa only [D.dle] using h)
    simp only [D.py, PyData.canLay0, PyData.depth]
    exact ⟨w.1, Nat.succ_le_succ w.2⟩
  | _, _, _, .ob q r, h => ORep.lay r h
  | _, _, _, .scr q, _ => by simp only [D.py, PyData.canLay0, PyData.depth, lay_ints, dep_ints]; exact ⟨trivial, by omega⟩
  | _, _, _, .cell q, h => by simp only [D.dle] at h; cases h
theorem ORep.lay {K : KW} {F : Hp} {ι : List Addr} : ∀ {a : Addr} {o : HO} {d : D} {n : Nat}, ORep K F ι a o d → D.dle n d = true → d.py.canLay0 = true ∧ d.py.depth ≤ n + 1
  | _, _, _, n, .lst r, h => by
    have w := RepL.lay r (n := n) (by simpa only [D.dle] using h)
    simp only [D.py, PyData.canLay0, PyData.depth]
    exact ⟨w.1, Nat.succ_le_succ w.2⟩
  | _, _, _, _, .dct0 _ _, h => by simp only [D.dle] at h; cases h
  | _, _, _, _, .dct1 _ _ _, h => by simp only [D.dle] at h; cases h
  | _, _, _, _, .dct2 _ _, h => by simp only [D.dle] at h; cases h
  | _, _, _, _, .dct3 _ _ _, h => by simp only [D.dle] at h; cases h
  | _, _, _, _, .ins _ _, h => by simp only [D.dle] at h; cases h
  | _, _, _, _, .exn0, h => by simp only [D.dle] at h; cases h
  | _, _, _, _, .exn1 _ _, h => by simp only [D.dle] at h; cases h
  | _, _, _, _, .tbl _ _ _, h => by simp only [D.dle] at h; cases h
theorem RepL.lay {K : KW} {F : Hp} {ι : List Addr} : ∀ {vs : List V} {ds : List D} {n : Nat}, RepL K F ι vs ds → D.dleL n ds = true → PyData.canLayAll0 (D.pyL ds) = true ∧ PyData.depthAll (D.pyL ds) ≤ n
  | _, _, _, .nil, _ => by simp [D.pyL, PyData.canLayAll0, PyData.depthAll]
  | _, _, 0, .cons a t, h => by simp only [D.dleL] at h; cases h
  | _, _, n + 1, .cons a t, h => by
    simp only [D.dleL, Bool.and_eq_true] at h
    have w1 := Rep.lay a h.1
    have w2 := RepL.lay t h.2
    simp only [D.pyL, PyData.canLayAll0, PyData.depthAll, w1.1, w2.1, Bool.and_self, true_and]
    exact Nat.max_le.mpr ⟨w1.2, w2.2⟩
end
theorem Peek.dp {K : KW} {G : Gh} {H : Hp} {v : V} {d : D} (s : Sub G.F H) (p : Peek K G H v d) (h : D.dle 60 d = true) : Dp K H v d.py ∧ SeqAt.shaped d.py = true := by
  have fin : d.py.canLay0 = true ∧ d.py.depth ≤ 61 → SeqAt.shaped d.py = true := fun w => by
    unfold SeqAt.shaped
    rw [w.1, Bool.true_and, decide_eq_true_eq]
    exact Nat.le_trans w.2 (by decide)
  rcases p with p | ⟨a, rfl, o⟩
  · exact ⟨p.dp s h, fin (p.lay h)⟩
  · obtain ⟨o, q, r⟩ := o
    exact ⟨r.dp s q h, fin (r.lay h)⟩

/-! ### operators -/
def D.eqb (d e : D) : Bool := PyData.eqv d.py e.py
def eqD (d e : D) : M OD := if D.dle 60 d && D.dle 60 e then ofBool (D.eqb d e) else M.err
def neD (d e : D) : M OD := if D.dle 60 d && D.dle 60 e then ofBool (!D.eqb d e) else M.err
def addD : D → D → M OD
  | .int i, .int j => gives (.int (i + j))
  | .str x, .str y => if x.length + y.length ≤ LN then gives (.str (x ++ y)) else M.err
  | .lst xs, .lst ys => if xs.length + ys.length ≤ LN then fresh (.lst (xs ++ ys)) else M.err
  | .tup xs, .tup ys => if xs.length + ys.length ≤ LN then gives (.tup (xs ++ ys)) else M.err
  | _, _ => M.err
def subD : D → D → M OD
  | .int i, .int j => gives (.int (i - j))
  | _, _ => M.err
def mulD : D → D → M OD
  | .int i, .int j => if (-(2 ^ 64) < i ∧ i < 2 ^ 64) ∨ (-(2 ^ 64) < j ∧ j < 2 ^ 64) then gives (.int (i * j)) else M.err
  | .lst xs, .int k => if -(2 ^ 62) ≤ k ∧ k < 2 ^ 62 ∧ xs.length * k.toNat ≤ LN then fresh (.lst (List.replicate k.toNat xs).flatten) else M.err
  | .str s, .int k => if -(2 ^ 62) ≤ k ∧ k ≤ 1000000 ∧ s.length ≤ 1000000 ∧ s.length * k.toNat ≤ 1000000 then gives (.str (List.replicate k.toNat s).flatten) else M.err
  | _, _ => M.err
def Huge : Int := ((2 ^ 9000 : Nat) : Int)
def divD : D → D → M OD
  | .int i, .int j => if 0 < j ∧ j < Huge then gives (.int (i / j)) else M.err
  | _, _ => M.err
def modD : D → D → M OD
  | .int i, .int j => if 0 < j then gives (.int (i % j)) else M.err
  | _, _ => M.err
def powD : D → D → M OD
  | .int i, .int j => if 0 ≤ j ∧ j ≤ 1000000 ∧ i.natAbs < 2 ^ 64 then gives (.int (i ^ j.toNat)) else M.err
  | _, _ => M.err
def ltD : D → D → M OD
  | .int i, .int j => ofBool (decide (i < j))
  | .str x, .str y => ofBool (decide (x < y))
  | _, _ => M.err
def leD : D → D → M OD
  | .int i, .int j => ofBool (decide (i ≤ j))
  | _, _ => M.err
def gtD : D → D → M OD
  | .int i, .int j => ofBool (decide (j < i))
  | _, _ => M.err
def geD : D → D → M OD
  | .int i, .int j => ofBool (decide (j ≤ i))
  | _, _ => M.err
section
variable {X : Cx} {P : Pm} {G : Gh} {ρ : Rho} {S : List D} {σ : L2.St} {H : Hp} {x y : V} {d e : D} {Q : VK}
theorem R.newOwn (r : R P.K P.b G ρ S σ H) {p : Addr} {vs : List V} {ds : List D} (h : H p = none) (l : RepL P.K G.F G.ι vs ds) : R P.K P.b G ρ S σ (upd H p (.lst vs)) ∧ VOk P.K P.b G ρ σ (upd H p (.lst vs)) true (.lst ds) (.ref p) :=
  ⟨r.new h _, ⟨fun z => (nomatch z), fun _ => ⟨p, rfl, own_mk upd_same l, r.loose h, r.noVar h⟩⟩⟩
theorem R.newTup (r : R P.K P.b G ρ S σ H) {p : Addr} {vs : List V} {ds : List D} (h : H p = none) (l : RepL P.K G.F G.ι vs ds) :
    ∃ G', G.le G' ∧ R P.K P.b G' ρ S σ (upd H p (.tup vs)) ∧ Rep P.K G'.F G'.ι (.ref p) (.tup ds) := by
  obtain ⟨r', le⟩ := (r.new h (.tup vs)).freeze (r.loose h) upd_same (r.noVar h)
  exact ⟨_, le, r', .tup (SqT.of upd_same) (l.mono le)⟩
theorem post_gives (h : Post P (relO P) G σ (gives d ρ S) Q) (r : R P.K P.b G ρ S σ H) (w : Rep P.K G.F G.ι x d) : Q x H := h x H G (Gh.le.refl _) r (VOk.fz w)
theorem post_gives' (h : Post P (relO P) G σ (gives d ρ S) Q) {G1 : Gh} (le : G.le G1) (r : R P.K P.b G1 ρ S σ H) (w : Rep P.K G1.F G1.ι x d) : Q x H := h x H G1 le r (VOk.fz w)
theorem post_fresh {p : Addr} {vs : List V} {ds : List D} (h : Post P (relO P) G σ (fresh (.lst ds) ρ S) Q) (r : R P.K P.b G ρ S σ H) (hp : H p = none) (l : RepL P.K G.F G.ι vs ds) : Q (.ref p) (upd H p (.lst vs)) :=
  let ⟨r', w⟩ := r.newOwn hp l
  h _ _ G (Gh.le.refl _) r' w
theorem post_tup {p : Addr} {vs : List V} {ds : List D} (h : Post P (relO P) G σ (gives (.tup ds) ρ S) Q) (r : R P.K P.b G ρ S σ H) (hp : H p = none) (l : RepL P.K G.F G.ι vs ds) : Q (.ref p) (upd H p (.tup vs)) :=
  let ⟨G1, le, r', w⟩ := r.newTup hp l
  h _ _ G1 le r' (VOk.fz w)
theorem post_if {c : Prop} [Decidable c] {m : M OD} (h : Post P (relO P) G σ ((if c then m else M.err) ρ S) Q) : c ∧ Post P (relO P) G σ (m ρ S) Q := by
  by_cases hc : c
  · rw [if_pos hc] at h; exact ⟨hc, h⟩
  · rw [if_neg hc] at h; exact h.elim
theorem okStr {s t : List Nat} (h : s.all (· < 1114112) = true) (g : t.all (· < 1114112) = true) : (s ++ t).all (· < 1114112) = true := by
  rw [List.all_append, h, g]; rfl
def rAddD (K : PySem.W.Frag) : R2 := fun x y H Q => (rI0 fun i j => .int (i + j)) x y H Q ∨ (∃ i j, x = .str i ∧ y = .str j ∧ i.length + j.length ≤ sizeLine ∧ Q (.str (i ++ j)) H) ∨ rCat x y H Q ∨ rCatA K x y H Q
theorem op_addD : OpR X (binaryOp .Add) (rAddD X.K) := OpR.or op_add (OpR.or op_add_str (OpR.or op_cat op_catA))
theorem q_add (hK : X.K = P.K) (r : R P.K P.b G ρ S σ H) (w1 : Peek P.K G H x d) (w2 : Peek P.K G H y e) (h : Post P (relO P) G σ (addD d e ρ S) Q) : rAddD X.K x y H Q := by
  unfold addD at h
  split at h
  · rename_i i j
    cases w1.int; cases w2.int
    exact .inl ⟨i, j, rfl, rfl, post_gives h r (.int _)⟩
  · rename_i s t
    obtain ⟨rfl, hs⟩ := w1.str
    obtain ⟨rfl, ht⟩ := w2.str
    obtain ⟨hl, h⟩ := post_if h
    refine .inr (.inl ⟨_, _, rfl, rfl, by rw [LN_eq]; simpa [Str.length] using hl, ?_⟩)
    have e : ((⟨s.toArray⟩ : Str) ++ ⟨t.toArray⟩) = ⟨(s ++ t).toArray⟩ := by
      show (⟨s.toArray ++ t.toArray⟩ : Str) = _
      simp
    rw [e]
    exact post_gives h r (.str _ (okStr hs ht))
  · obtain ⟨a, vs, rfl, q1, l1⟩ := w1.lst r.fr
    obtain ⟨a2, ws, rfl, q2, l2⟩ := w2.lst r.fr
    obtain ⟨hl, h⟩ := post_if h
    exact .inr (.inr (.inl ⟨_, _, _, _, rfl, rfl, q1, q2, by rw [LN_eq, l1.length, l2.length]; exact hl, fun p hp => post_fresh h r hp (l1.append l2)⟩))
  · rename_i xs ys
    have p1 := w1.rep rfl
    have p2 := w2.rep rfl
    obtain ⟨a, vs, rfl, q1, l1⟩ := w1.tup r.fr
    obtain ⟨a2, ws, rfl, q2, l2⟩ := w2.tup r.fr
    obtain ⟨hl, h⟩ := post_if h
    refine .inr (.inr (.inr ⟨_, _, _, _, rfl, rfl, by rw [hK]; exact q1, by rw [hK]; exact q2, by rw [LN_eq, l1.length, l2.length]; exact hl, fun z => ?_, fun _ z => ?_, fun _ _ p hp => post_tup h r hp (l1.append l2)⟩))
    · have := l1.length
      rw [z] at this
      have e := List.length_eq_zero_iff.mp this.symm
      subst e
      exact post_gives h r p2
    · have := l2.length
      rw [z] at this
      have e := List.length_eq_zero_iff.mp this.symm
      subst e
      rw [List.append_nil] at h
      exact post_gives h r p1
  · exact h.elim
theorem q_sub (r : R P.K P.b G ρ S σ H) (w1 : Peek P.K G H x d) (w2 : Peek P.K G H y e) (h : Post P (relO P) G σ (subD d e ρ S) Q) : (rI0 fun i j => .int (i - j)) x y H Q := by
  unfold subD at h
  split at h
  · cases w1.int; cases w2.int
    exact ⟨_, _, rfl, rfl, post_gives h r (.int _)⟩
  · exact h.elim
theorem RepL.rep {K : KW} {F : Hp} {ι : List Addr} {vs : List V} {ds : List D} (r : RepL K F ι vs ds) : ∀ n : Nat, RepL K F ι (List.replicate n vs).flatten (List.replicate n ds).flatten
  | 0 => .nil
  | n + 1 => by
    rw [List.replicate_succ, List.replicate_succ, List.flatten_cons, List.flatten_cons]
    exact r.append (RepL.rep r n)
/-- a text, so many times -/
def rStM : R2 := fun x y H Q => ∃ s k, x = .str s ∧ y = .int k ∧ MulOk s k ∧ Q (.str (Txt.mul s k)) H
theorem op_stM : OpR X (binaryOp .Mult) rStM := by
  intro pins s σ H x y v u Q I rx ry h
  obtain ⟨i, j, rfl, rfl, hz, q⟩ := h
  obtain ⟨t, rfl⟩ := rx
  obtain ⟨t', rfl⟩ := ry
  exact SB.mul hz (fun t' tk => ⟨.str (Txt.mul i j), H, I.tok _, ⟨_, rfl⟩, q⟩)
theorem reps_flat (s : List Nat) : ∀ (n : Nat) (acc : Array Nat), (List.replicate n s.toArray).foldl (· ++ ·) acc = acc ++ ((List.replicate n s).flatten).toArray
  | 0, acc => by simp
  | n + 1, acc => by
    rw [List.replicate_succ, List.foldl_cons, reps_flat s n, List.replicate_succ, List.flatten_cons]
    simp
theorem mul_txt (s : List Nat) (k : Int) : Txt.mul ⟨s.toArray⟩ k = ⟨((List.replicate k.toNat s).flatten).toArray⟩ := by
  unfold Txt.mul
  by_cases h1 : k < 1
  · rw [if_pos h1, show k.toNat = 0 by omega]
    rfl
  · rw [if_neg h1]
    split
    · rename_i hc
      rw [Bool.or_eq_true, beq_iff_eq, beq_iff_eq] at hc
      rcases hc with h | h
      · rw [h]; simp [List.replicate_succ]
      · have : s = [] := by
          have h' : s.toArray.size = 0 := h
          simpa using h'
        subst this
        simp
    · rw [reps_flat]
      simp
theorem rep_chars {s : List Nat} (h : s.all (· < 1114112) = true) : ∀ n : Nat, (List.replicate n s).flatten.all (· < 1114112) = true
  | 0 => rfl
  | n + 1 => by rw [List.replicate_succ, List.flatten_cons]; exact okStr h (rep_chars h n)
def rMulD : R2 := fun x y H Q => (rI CMul fun i j => .int (i * j)) x y H Q ∨ rRep x y H Q ∨ rStM x y H Q
theorem op_mulD : OpR X (binaryOp .Mult) rMulD := OpR.or op_mul (OpR.or op_rep op_stM)
theorem q_mul (r : R P.K P.b G ρ S σ H) (w1 : Peek P.K G H x d) (w2 : Peek P.K G H y e) (h : Post P (relO P) G σ (mulD d e ρ S) Q) : rMulD x y H Q := by
  unfold mulD at h
  split at h
  · rename_i i j
    cases w1.int; cases w2.int
    obtain ⟨hc, h⟩ := post_if h
    exact .inl ⟨i, j, rfl, rfl, hc, post_gives h r (.int _)⟩
  · rename_i xs k
    obtain ⟨a, vs, rfl, e1, l⟩ := w1.lst r.fr
    cases w2.int
    obtain ⟨⟨h1, h2, h3⟩, h⟩ := post_if h
    exact .inr (.inl ⟨a, k, vs, rfl, rfl, e1, by omega, by omega, by rw [LN_eq, l.length]; exact h3, fun p hp => post_fresh h r hp (l.rep _)⟩)
  · rename_i s k
    obtain ⟨rfl, hs⟩ := w1.str
    cases w2.int
    obtain ⟨⟨h1, h2, h4, h3⟩, h⟩ := post_if h
    refine .inr (.inr ⟨_, k, rfl, rfl, ?_, ?_⟩)
    · refine ⟨?_, fun h5 h6 => ?_, fun h5 _ => ?_⟩
      · have a1 : ¬ k < -(2 ^ 63 : Int) := by omega
        have a2 : ¬ k ≥ (2 ^ 63 : Int) := by omega
        rw [decide_eq_false a1, decide_eq_false a2]; rfl
      · have hk : 0 < k := by omega
        have g := (Int.le_ediv_iff_mul_le (a := 1000000) (b := (2 ^ 63 - 1 : Int)) hk).mpr (by omega)
        show ¬ (((s.toArray.size : Nat) : Int) > _)
        simp only [List.size_toArray]
        omega
      · refine short24 ?_
        show s.toArray.size * k.toNat ≤ _
        simp only [List.size_toArray]
        omega
    · rw [mul_txt]
      exact post_gives h r (.str _ (rep_chars hs _))
  · exact h.elim
theorem q_div (r : R P.K P.b G ρ S σ H) (w1 : Peek P.K G H x d) (w2 : Peek P.K G H y e) (h : Post P (relO P) G σ (divD d e ρ S) Q) : (rI CDivW fun i j => .int (i / j)) x y H Q := by
  unfold divD at h
  split at h
  · rename_i i j
    cases w1.int; cases w2.int
    obtain ⟨⟨c1, c2⟩, h⟩ := post_if h
    refine ⟨i, j, rfl, rfl, wide_div (b := 9000) c1 ?_ (by decide) (by decide), post_gives h r (.int _)⟩
    have e : ((j.natAbs : Nat) : Int) = j := by omega
    have h2 : ((j.natAbs : Nat) : Int) < ((2 ^ 9000 : Nat) : Int) := by rw [e]; exact c2
    exact Int.ofNat_lt.mp h2
  · exact h.elim
theorem q_mod (r : R P.K P.b G ρ S σ H) (w1 : Peek P.K G H x d) (w2 : Peek P.K G H y e) (h : Post P (relO P) G σ (modD d e ρ S) Q) : (rI (fun _ j => 0 < j) fun i j => .int (i % j)) x y H Q := by
  unfold modD at h
  split at h
  · cases w1.int; cases w2.int
    obtain ⟨c, h⟩ := post_if h
    exact ⟨_, _, rfl, rfl, c, post_gives h r (.int _)⟩
  · exact h.elim
theorem q_pow (r : R P.K P.b G ρ S σ H) (w1 : Peek P.K G H x d) (w2 : Peek P.K G H y e) (h : Post P (relO P) G σ (powD d e ρ S) Q) : (rI CPow fun i j => .int (i ^ j.toNat)) x y H Q := by
  unfold powD at h
  split at h
  · cases w1.int; cases w2.int
    obtain ⟨c, h⟩ := post_if h
    exact ⟨_, _, rfl, rfl, c, post_gives h r (.int _)⟩
  · exact h.elim
theorem q_eq (hK : X.K = P.K) (r : R P.K P.b G ρ S σ H) (w1 : Peek P.K G H x d) (w2 : Peek P.K G H y e) (h : Post P (relO P) G σ (eqD d e ρ S) Q) : rEqD X.K x y H Q := by
  obtain ⟨c, h⟩ := post_if h
  simp only [Bool.and_eq_true] at c
  obtain ⟨a1, a2⟩ := w1.dp r.fr c.1
  obtain ⟨b1, b2⟩ := w2.dp r.fr c.2
  exact ⟨d.py, e.py, by rw [hK]; exact a1, by rw [hK]; exact b1, a2, b2, post_gives h r (.bl _)⟩
theorem q_ne (hK : X.K = P.K) (r : R P.K P.b G ρ S σ H) (w1 : Peek P.K G H x d) (w2 : Peek P.K G H y e) (h : Post P (relO P) G σ (neD d e ρ S) Q) : rNeD X.K x y H Q := by
  obtain ⟨c, h⟩ := post_if h
  simp only [Bool.and_eq_true] at c
  obtain ⟨a1, a2⟩ := w1.dp r.fr c.1
  obtain ⟨b1, b2⟩ := w2.dp r.fr c.2
  exact ⟨d.py, e.py, by rw [hK]; exact a1, by rw [hK]; exact b1, a2, b2, post_gives h r (.bl _)⟩
def rLtD : R2 := fun x y H Q => (rI0 fun i j => .bl (decide (i < j))) x y H Q ∨ (∃ i j, x = .str i ∧ y = .str j ∧ Q (.bl (decide (i.cps.toList < j.cps.toList))) H)
theorem op_ltDD : OpR X (compareOp .Lt) rLtD := OpR.or op_lt op_lt_str
theorem q_lt (r : R P.K P.b G ρ S σ H) (w1 : Peek P.K G H x d) (w2 : Peek P.K G H y e) (h : Post P (relO P) G σ (ltD d e ρ S) Q) : rLtD x y H Q := by
  unfold ltD at h
  split at h
  · cases w1.int; cases w2.int
    exact .inl ⟨_, _, rfl, rfl, post_gives h r (.bl _)⟩
  · obtain ⟨rfl, hs⟩ := w1.str
    obtain ⟨rfl, ht⟩ := w2.str
    exact .inr ⟨_, _, rfl, rfl, post_gives h r (.bl _)⟩
  · exact h.elim
theorem q_le (r : R P.K P.b G ρ S σ H) (w1 : Peek P.K G H x d) (w2 : Peek P.K G H y e) (h : Post P (relO P) G σ (leD d e ρ S) Q) : (rI0 fun i j => .bl (decide (i ≤ j))) x y H Q := by
  unfold leD at h
  split at h
  · cases w1.int; cases w2.int
    exact ⟨_, _, rfl, rfl, post_gives h r (.bl _)⟩
  · exact h.elim
theorem q_gt (r : R P.K P.b G ρ S σ H) (w1 : Peek P.K G H x d) (w2 : Peek P.K G H y e) (h : Post P (relO P) G σ (gtD d e ρ S) Q) : (rI0 fun i j => .bl (decide (j < i))) x y H Q := by
  unfold gtD at h
  split at h
  · cases w1.int; cases w2.int
    exact ⟨_, _, rfl, rfl, post_gives h r (.bl _)⟩
  · exact h.elim
theorem q_ge (r : R P.K P.b G ρ S σ H) (w1 : Peek P.K G H x d) (w2 : Peek P.K G H y e) (h : Post P (relO P) G σ (geD d e ρ S) Q) : (rI0 fun i j => .bl (decide (j ≤ i))) x y H Q := by
  unfold geD at h
  split at h
  · cases w1.int; cases w2.int
    exact ⟨_, _, rfl, rfl, post_gives h r (.bl _)⟩
  · exact h.elim
end
end Mi

namespace Mi
open PySem PySem.Spec PyProof.Rows L2

/-! ### lists of operands -/
def consM (m : M Opd) (ms : M (List Opd)) : M (List Opd) := do
  let x ← m
  let xs ← ms
  pure (x :: xs)
def consV (m : M OD) (ms : M (List D)) : M (List D) := do
  let x ← m.val
  let xs ← ms
  pure (x :: xs)
def resL : List Opd → M (List D)
  | [] => pure []
  | x :: xs => do
    let d ← resM x
    let ds ← resL xs
    pure (d :: ds)
def relPL (P : Pm) : Rl (List Opd) (List V) := fun G ρ σ H xs vs => Paired (fun v x => relP P G ρ σ H x v) vs xs
inductive PeekL (K : KW) (G : Gh) (H : Hp) : List V → List D → Prop
  | nil : PeekL K G H [] []
  | cons {v : V} {d : D} {vs : List V} {ds : List D} : Peek K G H v d → PeekL K G H vs ds → PeekL K G H (v :: vs) (d :: ds)
section
variable {X : Cx} {P : Pm} {e : Expr} {es : List Expr} {pos : Pos} {m : M OD} {o : M Opd} {os : M (List Opd)} {ms : M (List D)}
theorem pa0 {α : Type} {rel : Rl (List α) (List V)} (h0 : ∀ G ρ σ H, rel G ρ σ H [] []) : PA X [] (tmG P rel (pure [])) := pa_nil.imp fun σ H Q ⟨G, ρ, S, r, h⟩ => h [] H G (Gh.le.refl _) r (h0 _ _ _ _)
theorem pa0P : PA X [] (tmG P (relPL P) (pure [])) := pa0 fun _ _ _ _ => .nil
theorem pa0V : PA X [] (tmL P (pure [])) := pa0 fun _ _ _ _ => .nil
theorem paP (ha : PE X e (tmP P o)) (hr : PA X es (tmG P (relPL P) os)) (hs : starEach (e :: es) X.env = (false, eval e X.env) :: starEach es X.env) : PA X (e :: es) (tmG P (relPL P) (consM o os)) := by
  refine (pa_cons ha hr hs).imp fun σ H Q q => ?_
  refine tm_imp (tm_two (rel1 := relP P) (rel2 := relPL P) monoP q) fun x H1 q1 => tm_imp q1 fun xs H2 ⟨G, ρ, S, d, ds, r, w1, w2, q2⟩ => ?_
  exact q2 _ _ G (Gh.le.refl _) r (.cons w1 w2)
theorem paV (ha : PE X e (tmO P m)) (hr : PA X es (tmL P ms)) (hs : starEach (e :: es) X.env = (false, eval e X.env) :: starEach es X.env) : PA X (e :: es) (tmL P (consV m ms)) := by
  refine (pa_cons (PE.val ha) hr hs).imp fun σ H Q q => ?_
  refine tm_imp (tm_two (rel1 := relV P) (rel2 := relL P) monoV q) fun x H1 q1 => tm_imp q1 fun xs H2 ⟨G, ρ, S, d, ds, r, w1, w2, q2⟩ => ?_
  exact q2 _ _ G (Gh.le.refl _) r (.cons w1 w2)
theorem resL_of {α ν : Type} {rel : Rl α ν} {G : Gh} {ρ : Rho} {S : List D} {σ : L2.St} {H : Hp} {Q : ν → Hp → Prop} (r : R P.K P.b G ρ S σ H) :
    ∀ {xs : List Opd} {vs : List V} (f : List D → M α), relPL P G ρ σ H xs vs → Post P rel G σ ((resL xs >>= f) ρ S) Q → ∃ ds, PeekL P.K G H vs ds ∧ Post P rel G σ (f ds ρ S) Q
  | [], _, f, w, h => by cases w; exact ⟨[], .nil, h⟩
  | x :: xs, _, f, w, h => by
    cases w with
    | cons w1 w2 =>
      have h' : Post P rel G σ ((resM x >>= fun d => resL xs >>= fun ds => f (d :: ds)) ρ S) Q := by
        have e : (resL (x :: xs) >>= f) ρ S = (resM x >>= fun d => resL xs >>= fun ds => f (d :: ds)) ρ S := by
          show M.bnd (M.bnd (resM x) fun d => M.bnd (resL xs) fun ds => M.pur (d :: ds)) f ρ S = M.bnd (resM x) (fun d => M.bnd (resL xs) fun ds => f (d :: ds)) ρ S
          unfold M.bnd M.pur
          cases resM x ρ S with
          | ok a ρ1 S1 =>
            dsimp only
            cases resL xs ρ1 S1 <;> rfl
          | exc => rfl
          | err => rfl
        rw [← e]; exact h
      obtain ⟨d, p, h2⟩ := res_of r w1 h'
      obtain ⟨ds, p2, h3⟩ := resL_of r (fun ds => f (d :: ds)) w2 h2
      exact ⟨d :: ds, .cons p p2, h3⟩
/-- (a, b, ..), [a, b, ..] -/
def tupM (ms : M (List D)) : M OD := do
  let ds ← ms
  if ds.length ≤ LN then gives (.tup ds) else M.err
def lstM (ms : M (List D)) : M OD := do
  let ds ← ms
  if ds.length ≤ LN then fresh (.lst ds) else M.err
theorem s_tup {x1} (h : PA X es (tmL P ms)) : PE X (.Tuple es x1 pos) (tmO P (tupM ms)) := by
  refine (pe_tup h).imp fun σ H Q q => tm_imp (tm_bind (rel1 := relL P) q) fun vs H1 ⟨G1, ρ1, S1, ds, r, w, q⟩ => ?_
  obtain ⟨hl, q⟩ := post_if q
  have w : RepL P.K G1.F G1.ι vs ds := w
  exact ⟨by rw [LN_eq, w.length]; exact hl, fun p hp => post_tup q r hp w⟩
theorem s_lst (h : PA X es (tmL P ms)) : PE X (.List es pos) (tmO P (lstM ms)) := by
  refine (pe_lst h).imp fun σ H Q q => tm_imp (tm_bind (rel1 := relL P) q) fun vs H1 ⟨G1, ρ1, S1, ds, r, w, q⟩ => ?_
  obtain ⟨hl, q⟩ := post_if q
  have w : RepL P.K G1.F G1.ι vs ds := w
  exact ⟨by rw [LN_eq, w.length]; exact hl, fun p hp => post_fresh q r hp w⟩
end

/-! ### names, constants -/
def varM (i : Nat) : M OD := fun ρ S => match ρ[i]? with
  | some (some (own, d)) => .ok (false, d) (if own then ρ.set i (some (false, d)) else ρ) S
  | _ => .err
/-- the last look at a variable -/
def movM (i : Nat) : M OD := fun ρ S => match ρ[i]? with
  | some (some (own, d)) => .ok (own, d) (if own then ρ.set i none else ρ) S
  | _ => .err
section
variable {X : Cx} {P : Pm} {i : Nat} {x : Str} {pos : Pos}
theorem s_var (hN : X.N[i]? = some x) (hv : Vis X.env.scope x) (hd : (x == ("__debug__" : Str)) = false) (hcd : (x == ("__classdict__" : Str)) = false) : PE X (.Name x pos) (tmO P (varM i)) := by
  refine (pe_var hN hv hd hcd).imp fun σ H Q ⟨G, ρ, S, r, h⟩ => ?_
  unfold varM at h
  cases e : ρ[i]? with
  | none => rw [e] at h; exact h.elim
  | some y =>
    cases y with
    | none => rw [e] at h; exact h.elim
    | some y =>
      obtain ⟨own, d⟩ := y
      rw [e] at h
      cases own with
      | false =>
        obtain ⟨v, e1, h1, _⟩ := r.vs i false d e
        exact ⟨v, e1, h v H G (Gh.le.refl _) r (VOk.fz (h1 rfl))⟩
      | true =>
        obtain ⟨G', v, le, e1, r', w⟩ := r.frzVar e
        exact ⟨v, e1, h v H G' le r' (VOk.fz w)⟩
theorem s_mov (hN : X.N[i]? = some x) (hv : Vis X.env.scope x) (hd : (x == ("__debug__" : Str)) = false) (hcd : (x == ("__classdict__" : Str)) = false) : PE X (.Name x pos) (tmO P (movM i)) := by
  refine (pe_var hN hv hd hcd).imp fun σ H Q ⟨G, ρ, S, r, h⟩ => ?_
  unfold movM at h
  cases e : ρ[i]? with
  | none => rw [e] at h; exact h.elim
  | some y =>
    cases y with
    | none => rw [e] at h; exact h.elim
    | some y =>
      obtain ⟨own, d⟩ := y
      rw [e] at h
      obtain ⟨v, e1, h1, h2⟩ := r.vs i own d e
      cases own with
      | false => exact ⟨v, e1, h v H G (Gh.le.refl _) r (VOk.fz (h1 rfl))⟩
      | true =>
        refine ⟨v, e1, h v H G (Gh.le.refl _) (r.forget (by simp) fun j y z => ?_) ⟨fun z => (nomatch z), fun _ => ?_⟩⟩
        · by_cases hj : i = j
          · subst hj
            by_cases hl : i < ρ.length
            · rw [if_pos rfl, List.getElem?_set_self hl] at z; cases z
            · rw [if_pos rfl, List.getElem?_eq_none (by simpa using hl)] at z; cases z
          · rw [if_pos rfl, List.getElem?_set_ne hj] at z; exact z
        · obtain ⟨a, q, o, l⟩ := h2 rfl
          subst q
          refine ⟨a, rfl, o, l, fun j d' z => ?_⟩
          by_cases hj : i = j
          · subst hj
            have hl := (List.getElem?_eq_some_iff.mp e).1
            rw [if_pos rfl, List.getElem?_set_self hl] at z; cases z
          · rw [if_pos rfl, List.getElem?_set_ne hj] at z
            exact r.dj i j d d' a hj e z e1
theorem s_opd (hN : X.N[i]? = some x) (hv : Vis X.env.scope x) (hd : (x == ("__debug__" : Str)) = false) (hcd : (x == ("__classdict__" : Str)) = false) : PE X (.Name x pos) (tmP P (chkM i)) := by
  refine (pe_var hN hv hd hcd).imp fun σ H Q ⟨G, ρ, S, r, h⟩ => ?_
  unfold chkM at h
  cases e : ρ[i]? with
  | none => rw [e] at h; exact h.elim
  | some y =>
    cases y with
    | none => rw [e] at h; exact h.elim
    | some y =>
      obtain ⟨own, d⟩ := y
      rw [e] at h
      obtain ⟨v, e1, _, _⟩ := r.vs i own d e
      exact ⟨v, e1, h v H G (Gh.le.refl _) r e1⟩
theorem tm_const {σ : L2.St} {H : Hp} {Q : VK} {v : V} {d : D} (w : ∀ G : Gh, Rep P.K G.F G.ι v d) (h : tmO P (gives d) σ H Q) : tC v σ H Q := by
  obtain ⟨G, ρ, S, r, h⟩ := h
  exact post_gives h r (w G)
theorem s_int {k : Int} {j} : PE X (.Constant (.int k) j pos) (tmO P (gives (.int k))) := pe_int.imp fun _ _ _ h => tm_const (fun _ => .int k) h
theorem s_bl {k : Bool} {j} : PE X (.Constant (.bool k) j pos) (tmO P (gives (.bl k))) := pe_bl.imp fun _ _ _ h => tm_const (fun _ => .bl k) h
theorem s_non {j} : PE X (.Constant .none j pos) (tmO P (gives .non)) := pe_non.imp fun _ _ _ h => tm_const (fun _ => .non) h
theorem s_str {k : List Nat} {z : Str} {j} (e : z.cps.toList = k) (h : k.all (· < 1114112) = true) : PE X (.Constant (.str z) j pos) (tmO P (gives (.str k))) := by
  have hz : z = ⟨k.toArray⟩ := by
    cases z with
    | mk c => simp only at e; rw [← e]
  rw [hz]
  exact pe_str.imp fun _ _ _ q => tm_const (fun _ => .str k h) q
/-- a module's constant -/
structure GlobV (K : KW) (mg : Str → Option Value) (x : Str) (d : D) : Prop where
  at_ : ∃ v u, mg x = some u ∧ RelV v u ∧ ∀ G : Gh, Rep K G.F G.ι v d
theorem s_glob {d : D} (g : GlobV P.K X.mg x d) (hg : Gl X x) (hd : (x == ("__debug__" : Str)) = false) : PE X (.Name x pos) (tmO P (gives d)) := by
  obtain ⟨v, u, e, r, w⟩ := g.at_
  exact (pe_glob hg e r hd).imp fun _ _ _ h => tm_const w h
end

/-! ### not, and, or, if -/
def notM (m : M OD) : M OD := do let b ← m.test; ofBool (!b)
def andM (m n : M OD) : M OD := do
  let b ← m.test
  if b then n else ofBool false
def orM (m n : M OD) : M OD := do
  let b ← m.test
  if b then ofBool true else n
def blM (m : M OD) : M OD := do let b ← m.test; ofBool b
def iteM (t m n : M OD) : M OD := do
  let b ← t.test
  if b then m else n
theorem test_bind {α : Type} (m : M OD) (f : OD → M OD) (k : Bool → M OD) (g : Bool → M α) : True := trivial
section
variable {X : Cx} {P : Pm} {a b e : Expr} {rest : List Expr} {m n t : M OD} {pos : Pos} {σ : L2.St} {H : Hp}
theorem test_ofBool (b : Bool) : M.test (ofBool b) = pure b := by
  funext ρ S; rfl
theorem test_bnd {α : Type} (m : M α) (f : α → M OD) : M.test (m >>= f) = m >>= fun a => M.test (f a) := by
  funext ρ S
  show M.bnd (M.bnd (M.bnd m f) _) asBool ρ S = M.bnd m (fun a => M.bnd (M.bnd (f a) _) asBool) ρ S
  unfold M.bnd
  cases m ρ S <;> rfl
theorem bnd_pure {α : Type} (m : M α) : (m >>= fun a => pure a) = m := by
  funext ρ S
  show M.bnd m (fun a => M.pur a) ρ S = _
  unfold M.bnd M.pur
  cases m ρ S <;> rfl
theorem pure_bnd {α β : Type} (a : α) (f : α → M β) : ((pure a : M α) >>= f) = f a := rfl
theorem bnd_bnd {α β γ : Type} (m : M α) (f : α → M β) (g : β → M γ) : ((m >>= f) >>= g) = m >>= fun a => f a >>= g := by
  funext ρ S
  show M.bnd (M.bnd m f) g ρ S = M.bnd m (fun a => M.bnd (f a) g) ρ S
  unfold M.bnd
  cases m ρ S <;> rfl
theorem ite_ap {α : Type} (c : Bool) (m n : M α) (ρ : Rho) (S : List D) : (if c = true then m else n) ρ S = if c = true then m ρ S else n ρ S := by cases c <;> rfl
theorem test_ite (c : Bool) (m n : M OD) : M.test (if c = true then m else n) = if c = true then m.test else n.test := by cases c <;> rfl
/-- as a test an expression of no own form -/
theorem s_ptval (h : PE X e (tmO P m)) (he : ∀ whole, isTrue e X.env whole = (do let v ← whole; standAt e.pos; holding [v] (truthy v))) : PT X e (tmB P m.test) :=
  (pt_val h he).imp fun σ H Q q => tm_test q
theorem s_not (h : PT X a (tmB P m.test)) : PT X (.UnaryOp .Not a pos) (tmB P (M.test (notM m))) := by
  refine (pt_not h).imp fun σ H Q q => ?_
  unfold notM at q
  rw [test_bnd] at q
  refine tm_imp (tm_bind (rel1 := relB) q) fun c H1 ⟨G1, ρ1, S1, k, r, w, q⟩ => ?_
  cases w
  rw [test_ofBool] at q
  exact q _ H1 G1 (Gh.le.refl _) r rfl
theorem s_notV (h : PE X a (tmO P m)) : PE X (.UnaryOp .Not a pos) (tmO P (notM m)) := by
  refine (pe_not h).imp fun σ H Q q => ?_
  refine tm_imp (tm_test (tm_imp (tm_bind (rel1 := relB) q) fun c H1 ⟨G1, ρ1, S1, k, r, w, q⟩ => ?_)) fun x H1 ⟨k, e, q⟩ => ⟨k, e, q⟩
  cases w
  exact post_gives q r (.bl _)
theorem s_and1 (h : PT X a (tmB P m.test)) : PW X (.BoolOp .And [a] pos) (tmB P (M.test (blM m))) := by
  refine (pw_and1 h).imp fun σ H Q q => ?_
  unfold blM at q
  rw [test_bnd, show (fun a => M.test (ofBool a)) = fun a => pure a from funext test_ofBool, bnd_pure] at q
  exact q
theorem s_or1 (h : PT X a (tmB P m.test)) : PW X (.BoolOp .Or [a] pos) (tmB P (M.test (blM m))) := by
  refine (pw_or1 h).imp fun σ H Q q => ?_
  unfold blM at q
  rw [test_bnd, show (fun a => M.test (ofBool a)) = fun a => pure a from funext test_ofBool, bnd_pure] at q
  exact q
theorem s_and (h : PT X a (tmB P m.test)) (g : PW X (.BoolOp .And (b :: rest) pos) (tmB P n.test)) : PW X (.BoolOp .And (a :: b :: rest) pos) (tmB P (M.test (andM m n))) := by
  refine (pw_and h g).imp fun σ H Q q => ?_
  unfold andM at q
  rw [test_bnd] at q
  refine tm_imp (tm_bind (rel1 := relB) q) fun c H1 ⟨G1, ρ1, S1, k, r, w, q⟩ => ?_
  cases w
  rw [test_ite, ite_ap] at q
  cases c with
  | true => exact ⟨G1, ρ1, S1, r, q⟩
  | false => exact q _ H1 G1 (Gh.le.refl _) r rfl
theorem s_or (h : PT X a (tmB P m.test)) (g : PW X (.BoolOp .Or (b :: rest) pos) (tmB P n.test)) : PW X (.BoolOp .Or (a :: b :: rest) pos) (tmB P (M.test (orM m n))) := by
  refine (pw_or h g).imp fun σ H Q q => ?_
  unfold orM at q
  rw [test_bnd] at q
  refine tm_imp (tm_bind (rel1 := relB) q) fun c H1 ⟨G1, ρ1, S1, k, r, w, q⟩ => ?_
  cases w
  rw [test_ite, ite_ap] at q
  cases c with
  | false => exact ⟨G1, ρ1, S1, r, q⟩
  | true => exact q _ H1 G1 (Gh.le.refl _) r rfl
/-- as values -/
theorem s_oneV {op} (h : PE X a (tmO P m)) : PE X (.BoolOp op [a] pos) (tmO P (blM m)) := by
  refine (pe_one h).imp fun σ H Q q => ?_
  have q2 : tmB P m.test σ H fun k H1 => Q (.bl k) H1 := tm_imp (tm_bind (rel1 := relB) q) fun c H1 ⟨G1, ρ1, S1, k, r, w, q⟩ => by
    cases w
    exact post_gives q r (.bl _)
  exact tm_imp (tm_test q2) fun x H1 ⟨k, e, q⟩ => by rw [e]; exact q
theorem s_andV (h : PE X a (tmO P m)) (g : PE X (.BoolOp .And (b :: rest) pos) (tmO P n)) : PE X (.BoolOp .And (a :: b :: rest) pos) (tmO P (andM m n)) := by
  refine (pe_and h g).imp fun σ H Q q => ?_
  refine tm_imp (tm_test (tm_imp (tm_bind (rel1 := relB) q) fun c H1 ⟨G1, ρ1, S1, k, r, w, q⟩ => ?_)) fun x H1 (q : ∃ k, x = .bl k ∧ if k = true then tmO P n σ H1 Q else Q (.bl false) H1) => q
  cases w
  rw [ite_ap] at q
  cases c with
  | true => exact ⟨G1, ρ1, S1, r, q⟩
  | false => exact post_gives q r (.bl _)
theorem s_orV (h : PE X a (tmO P m)) (g : PE X (.BoolOp .Or (b :: rest) pos) (tmO P n)) : PE X (.BoolOp .Or (a :: b :: rest) pos) (tmO P (orM m n)) := by
  refine (pe_or h g).imp fun σ H Q q => ?_
  refine tm_imp (tm_test (tm_imp (tm_bind (rel1 := relB) q) fun c H1 ⟨G1, ρ1, S1, k, r, w, q⟩ => ?_)) fun x H1 (q : ∃ k, x = .bl k ∧ if k = true then Q (.bl true) H1 else tmO P n σ H1 Q) => q
  cases w
  rw [ite_ap] at q
  cases c with
  | false => exact ⟨G1, ρ1, S1, r, q⟩
  | true => exact post_gives q r (.bl _)
theorem s_ite (hc : PT X e (tmB P t.test)) (ha : PE X a (tmO P m)) (hb : PE X b (tmO P n)) : PE X (.IfExp e a b pos) (tmO P (iteM t m n)) := by
  refine (pe_ifExp hc ha hb).imp fun σ H Q q => ?_
  refine tm_imp (tm_bind (rel1 := relB) q) fun c H1 ⟨G1, ρ1, S1, k, r, w, q⟩ => ?_
  cases w
  rw [ite_ap] at q
  cases c with
  | true => exact ⟨G1, ρ1, S1, r, q⟩
  | false => exact ⟨G1, ρ1, S1, r, q⟩
end
/-! ### a <= b < c, is None -/
def chainM (oa ob oc : M Opd) (g g' : D → D → M OD) : M OD := do
  let x ← oa
  let y ← ob
  let d ← resM x
  let e ← resM y
  let b ← M.test (g d e)
  if b then do
    let z ← oc
    let e' ← resM y
    let f ← resM z
    g' e' f
  else ofBool false
def isNonM (o : M Opd) (neg : Bool) : M OD := do
  let x ← o
  let d ← resM x
  match d with
  | .non => ofBool (!neg)
  | _ => ofBool neg
section
variable {X : Cx} {P : Pm} {a b c : Expr} {oa ob oc : M Opd} {pos : Pos} {σ : L2.St} {H : Hp}
abbrev QOk (P : Pm) (r : R2) (g : D → D → M OD) : Prop := ∀ {G ρ S σ H x y d e Q}, R P.K P.b G ρ S σ H → Peek P.K G H x d → Peek P.K G H y e → Post P (relO P) G σ (g d e ρ S) Q → r x y H Q
theorem test_bind_eq {α : Type} (m : M OD) (f : Bool → M α) : (M.test m >>= f) = m >>= fun x => asBool x.2 >>= f := by
  show ((m >>= fun x => pure x.2) >>= asBool) >>= f = _
  rw [bnd_bnd, bnd_bnd]
  rfl
theorem bool_at {α ν : Type} {rel : Rl α ν} {f : Bool → M α} {G : Gh} {ρ : Rho} {S : List D} {od : OD} {v : V} {Q : ν → Hp → Prop} (w : VOk P.K P.b G ρ σ H od.1 od.2 v) (h : Post P rel G σ ((asBool od.2 >>= f) ρ S) Q) :
    ∃ k, v = .bl k ∧ Post P rel G σ (f k ρ S) Q := by
  obtain ⟨own, d⟩ := od
  cases d with
  | bl k =>
    cases own with
    | false =>
      exact ⟨k, (w.1 rfl).toBl, h⟩
    | true =>
      obtain ⟨a, _, o, _⟩ := w.2 rfl
      exact (o.no rfl).elim
  | _ => exact h.elim
theorem three_of {r r' : R2} {g g' : D → D → M OD} (h : QOk P r g) (h' : QOk P r' g') {Q : VK} (q : tmO P (chainM oa ob oc g g') σ H Q) : tChain r r' (tmP P oa) (tmP P ob) (tmP P oc) σ H Q := by
  refine tm_imp (tm_two (rel1 := relP P) (rel2 := relP P) monoP q) fun x H1 q1 => tm_imp q1 fun y H2 ⟨G, ρ, S, d, e, r1, w1, w2, q2⟩ => ?_
  obtain ⟨d', p1, q3⟩ := res_of r1 w1 q2
  obtain ⟨e', p2, q4⟩ := res_of r1 w2 q3
  rw [test_bind_eq] at q4
  refine h r1 p1 p2 ?_
  have h3 := Post.bind (rel1 := relO P) q4
  generalize g d' e' ρ S = z at h3
  cases z with
  | ok od ρ2 S2 =>
    intro z H3 G'' l2 r2 w2'
    obtain ⟨G3, ρ3, S3, od, r3, w3, l3, q5⟩ := h3 z H3 G'' l2 r2 w2'
    have l3' := Gh.le.refl G
    obtain ⟨k, rfl, q6⟩ := bool_at w3 q5
    refine ⟨k, rfl, ?_⟩
    rw [ite_ap] at q6
    cases k with
    | false => exact post_gives q6 r3 (.bl _)
    | true =>
      refine tm_imp (tm_at (rel1 := relP P) r3 q6) fun u H4 ⟨G4, ρ4, S4, o, r4, w4, l4, q7⟩ => ?_
      obtain ⟨e2, p3, q8⟩ := res_of r4 (monoP (P := P) (ρ := ρ) (H := H2) (H' := H4) (ρ' := ρ4) (l3'.trans (l3.trans l4)) w2) q7
      obtain ⟨f2, p4, q9⟩ := res_of r4 w4 q8
      exact h' r4 p3 p4 q9
  | exc c vs ρ1 S1 => exact h3
  | err => exact h3
theorem isN_key {neg : Bool} {Q : VK} (q : tmO P (isNonM oa neg) σ H Q) : tmP P oa σ H fun x H1 => Q (.bl (if neg then !decide (x = .non) else decide (x = .non))) H1 := by
    refine tm_imp (tm_bind (rel1 := relP P) q) fun x H1 ⟨G, ρ, S, d, r, w, q2⟩ => ?_
    obtain ⟨d', p, q3⟩ := res_of r w q2
    cases d' with
    | non =>
      cases p.non
      have := post_gives (x := .bl (!neg)) q3 r (.bl _)
      cases neg <;> exact this
    | _ =>
      have hx : x ≠ .non := fun z => by
        subst z
        rcases p with p | ⟨a, e, _⟩
        · cases p
        · cases e
      have := post_gives (x := .bl neg) q3 r (.bl _)
      cases neg <;> (simp only [hx, decide_false, Bool.not_false, if_true, if_false, Bool.false_eq_true]; exact this)
theorem s_isN {neg : Bool} {j} {pos' : Pos} (ha : PE X a (tmP P oa)) : PE X (.Compare a [if neg then .IsNot else .Is] [.Constant .none j pos'] pos) (tmO P (isNonM oa neg)) := by
  cases neg with
  | true => exact (pe_cmp (pc_notN ha)).imp fun σ H Q q => isN_key q
  | false => exact (pe_cmp (pc_isN ha)).imp fun σ H Q q => isN_key q
theorem s_isNT {neg : Bool} {j} {pos' : Pos} (ha : PE X a (tmP P oa)) : PT X (.Compare a [if neg then .IsNot else .Is] [.Constant .none j pos'] pos) (tmB P (M.test (isNonM oa neg))) := by
  cases neg with
  | true => exact (pt_cmp (pc_notN ha)).imp fun σ H Q q => isN_key (tm_test q)
  | false => exact (pt_cmp (pc_isN ha)).imp fun σ H Q q => isN_key (tm_test q)
end
end Mi

namespace Mi
open PySem PySem.Spec PyProof.Rows L2

/-! ### dicts over data -/
def keyOk (k : Nat) (d : D) : Bool := match d with
  | .int _ => decide (k = 0 ∨ k = 2)
  | .str _ => decide (k = 0 ∨ k = 2)
  | .tup _ => decide (k = 1 ∨ k = 3) && (match D.nk d with
    | some q => decide (q.depth ≤ 8)
    | none => false)
  | _ => false
/-- which keys go: of the dict's own kind; of either, where it is empty -/
def kOk (k : Nat) (es : List (D × D)) (d : D) : Bool := keyOk k d || (es.isEmpty && (keyOk 0 d || keyOk 1 d))
def kindOf (d : D) : Nat := if keyOk 0 d = true then 0 else 1
def findE (es : List (D × D)) (d : D) : Option D := (es.find? fun e => decide (D.nk e.1 = D.nk d)).map (·.2)
def putE (es : List (D × D)) (d v : D) : List (D × D) := if (es.any fun e => decide (D.nk e.1 = D.nk d)) = true then es.map (fun e => if D.nk e.1 = D.nk d then (e.1, v) else e) else es ++ [(d, v)]

/-! ### keys in the heap -/
section
variable {X : Cx} {pins : List (Addr × Obj)} {σ : L2.St} {H : Hp} {s : Shared} {K : KW} {F : Hp} {ι : List Addr}
mutual
theorem Rep.nest (I : L2.Inv X pins σ H s) (hK : X.K = K.fr) (sub : Sub F H) : ∀ {v : V} {d : D} {q : NestedKey} {u : Value}, Rep K F ι v d → D.nk d = some q → RelV v u → NestedIs s.heap q u
  | _, _, _, _, .non, h, r => by
    cases (show _ = Value.none from r)
    cases h
    exact .none
  | _, _, _, _, .bl b, h, r => by simp [D.nk] at h
  | _, _, _, _, .int i, h, r => by
    obtain ⟨t, rfl⟩ := r
    simp only [D.nk, Option.some.injEq] at h
    subst h
    exact .int _ _
  | _, _, _, _, .str z _, h, r => by
    obtain ⟨t, rfl⟩ := r
    simp only [D.nk, Option.some.injEq] at h
    subst h
    exact .text _ _
  | _, _, _, _, .tup (a := a) (vs := vs) (ds := ds) w l, h, r => by
    cases (show _ = Value.ref a from r)
    simp only [D.nk] at h
    obtain ⟨ks, hk, rfl⟩ := Option.map_eq_some_iff.mp h
    obtain ⟨its, rv, pl, hz⟩ := I.tuple (by rw [hK]; exact sub_t sub w)
    obtain ⟨⟨oc, od, dt, sl⟩, ho, hc, n, hd⟩ := pl
    dsimp only at hc hd
    subst hc hd
    exact .tup ho rfl rfl (by simpa using RepL.nest I hK sub l hk rv)
  | _, _, _, _, .scr _, h, r => by simp [D.nk] at h
  | _, _, _, _, .cell _, h, r => by simp [D.nk] at h
  | _, _, _, _, .ob _ w, h, r => by cases w <;> simp [D.nk] at h
theorem RepL.nest (I : L2.Inv X pins σ H s) (hK : X.K = K.fr) (sub : Sub F H) : ∀ {vs : List V} {ds : List D} {qs : List NestedKey} {us : List Value}, RepL K F ι vs ds → D.nkL ds = some qs → Vals vs us → NestedAll s.heap qs us
  | _, _, _, _, .nil, h, .nil => by
    simp only [D.nkL, Option.some.injEq] at h
    subst h
    exact .nil
  | _, _, _, _, .cons a t, h, .cons r1 r2 => by
    simp only [D.nkL] at h
    split at h
    · rename_i k ks h1 h2
      cases h
      exact .cons (Rep.nest I hK sub a h1 r1) (RepL.nest I hK sub t h2 r2)
    · cases h
end
end
/-- what stands for the key q, whatever the state -/
def NkV (X : Cx) (H : Hp) (y : V) (q : NestedKey) : Prop := ∀ (pins : List (Addr × Obj)) (σ : L2.St) (s : Shared) (u : Value), L2.Inv X pins σ H s → RelV y u → NestedIs s.heap q u
theorem Rep.nkv {X : Cx} {H : Hp} {K : KW} {F : Hp} {ι : List Addr} {v : V} {d : D} {q : NestedKey} (r : Rep K F ι v d) (hK : X.K = K.fr) (sub : Sub F H) (h : D.nk d = some q) : NkV X H v q := fun _ _ _ _ I ru => r.nest I hK sub h ru
abbrev kvN (xs : List (NestedKey × Addr × V)) : List (NestedKey × V) := xs.map fun x => (x.1, x.2.2)
section
variable {X : Cx} {pins : List (Addr × Obj)} {σ : L2.St} {H : Hp} {s : Shared} {a b : Addr} {xs : List (NestedKey × Addr × V)} {q : NestedKey}
theorem kv_zip : ∀ {xs : List (NestedKey × Addr × V)} {us : List Value}, Vals (xs.map (·.2.2)) us →
    KV (kvN xs) (pairsH ((xs.zip us).map fun z => (z.1.1, z.1.2.1, z.2))) ∧ ((xs.zip us).map fun z => (z.1.1, z.1.2.1, z.2)).map (fun y : NestedKey × Addr × Value => (y.1, y.2.1)) = xs.map fun x => (x.1, x.2.1)
  | [], _, r => by
    cases r
    exact ⟨.nil, rfl⟩
  | x :: xs, _, r => by
    rw [List.map_cons] at r
    cases r with
    | cons h t =>
      obtain ⟨h1, h2⟩ := kv_zip t
      exact ⟨.cons ⟨rfl, h⟩ h1, by simp only [List.zip_cons_cons, List.map_cons]; exact congrArg _ h2⟩
/-- the dict as the library has it -/
theorem nO_at (I : L2.Inv X pins σ H s) (e : Rd H a (nO X.w a xs)) (hk : ∀ x ∈ xs, NkV X H (.ref x.2.1) x.1) : ∃ ys : List (NestedKey × Addr × Value), s.heap.DictOfH (nestedKind X.prog X.w) a ys ∧ KV (kvN xs) (pairsH ys) ∧
    ys.map (fun y => (y.1, y.2.1)) = xs.map (fun x => (x.1, x.2.1)) ∧ (a == sysModules) = false ∧ xs.length ≤ sizeLine ∧ ys.length = xs.length ∧ ∀ x ∈ xs, x.1.depth ≤ 8 := by
  have z : ObjOk X.prog X.w H s.heap a (.ext _) := rd_of I.hok e
  obtain ⟨⟨h1, h2, h3, hd, us, r, o, es, ep, g1, g2, g3, g4⟩, _, _⟩ := z
  obtain ⟨k1, k2⟩ := kv_zip r
  have hl : ((xs.zip us).map fun z => (z.1.1, z.1.2.1, z.2)).length = xs.length := by
    have := congrArg List.length k2
    simpa using this
  refine ⟨_, ⟨o, es, ep, g1, g2, g3, ?_, fun y hy => ?_, ?_⟩, k1, k2, h1, h2, hl, hd⟩
  · rw [g4, List.map_map]
    rfl
  · have hm : (y.1, y.2.1) ∈ xs.map fun x => (x.1, x.2.1) := by
      rw [← k2]
      exact List.mem_map.mpr ⟨y, hy, rfl⟩
    obtain ⟨x, hx, ex⟩ := List.mem_map.mp hm
    have e1 := congrArg Prod.fst ex
    have e2 := congrArg Prod.snd ex
    dsimp only at e1 e2
    refine ⟨?_, ?_⟩
    · rw [← e1, ← e2]
      exact hk x hx _ _ _ _ I rfl
    · rw [← e1]
      exact hd x hx
  · have e1 := congrArg (fun l => l.map Prod.fst) k2
    simp only [List.map_map, Function.comp_def] at e1
    simp only [List.map_map, Function.comp_def]
    rw [e1]
    simpa [Function.comp_def] using h3
theorem nO_ok {P : Program} {w : World} {H' : Hp} {h : Heap} {ys : List (NestedKey × Addr × Value)} (dd : h.DictOfH (nestedKind P w) a ys) (hs : (a == sysModules) = false) (hl : xs.length ≤ sizeLine) (k1 : KV (kvN xs) (pairsH ys))
    (k2 : ys.map (fun y => (y.1, y.2.1)) = xs.map (fun x => (x.1, x.2.1))) : ObjOk P w H' h a (nO w a xs) := by
  obtain ⟨o, es, ep, g1, g2, g3, g4, g5, g6⟩ := dd
  have e1 := congrArg (fun l => l.map Prod.fst) k2
  simp only [List.map_map, Function.comp_def] at e1
  have rel : ∀ {xs : List (NestedKey × Addr × V)} {ys : List (NestedKey × Addr × Value)}, KV (kvN xs) (pairsH ys) → ys.map (fun y => (y.1, y.2.1)) = xs.map (fun x => (x.1, x.2.1)) →
      Vals (xs.map (·.2.2)) (ys.map (·.2.2)) ∧ ys.map (entryOfKey (nestedKind P w)) = (xs.zip (ys.map (·.2.2))).map fun z => (⟨z.1.1.hash w, .ref z.1.2.1, z.2⟩ : DictEntry) := by
    intro xs
    induction xs with
    | nil =>
      intro ys k1 k2
      cases ys with
      | nil => exact ⟨.nil, rfl⟩
      | cons y ys => simp at k2
    | cons x xs ih =>
      intro ys k1 k2
      cases ys with
      | nil => simp at k2
      | cons y ys =>
        have k1 : KV ((x.1, x.2.2) :: kvN xs) ((y.1, y.2.2) :: pairsH ys) := k1
        cases k1 with
        | cons h t =>
          simp only [List.map_cons, List.cons.injEq, Prod.mk.injEq] at k2
          obtain ⟨h1, h2⟩ := ih t k2.2
          refine ⟨.cons h.2 h1, ?_⟩
          simp only [List.map_cons, List.zip_cons_cons, List.cons.injEq]
          refine ⟨?_, h2⟩
          show (⟨y.1.hash w, .ref y.2.1, y.2.2⟩ : DictEntry) = _
          rw [k2.1.1, k2.1.2]
  obtain ⟨r1, r2⟩ := rel k1 k2
  refine ⟨⟨hs, hl, by rw [← e1]; exact g6, fun x hx => ?_, _, r1, o, es, ep, g1, g2, g3, by rw [g4, r2]⟩, ⟨o, g1⟩, fun _ _ ⟨q1, q2, q3, q4, us, q5, o', es', ep', q6, q7⟩ keep => ⟨q1, q2, q3, q4, us, q5, o', es', ep', keep _ q6, q7⟩⟩
  have hm : (x.1, x.2.1) ∈ ys.map fun y => (y.1, y.2.1) := by
    rw [k2]
    exact List.mem_map.mpr ⟨x, hx, rfl⟩
  obtain ⟨y, hy, ey⟩ := List.mem_map.mp hm
  have := (g5 y hy).2
  rw [← congrArg Prod.fst ey]
  exact this
end
/-! ### dict operations by values -/
/-- a dict with tuples as keys stands at a; one with numbers and texts; one of none -/
structure KD (X : Cx) (H : Hp) (a : Addr) (xs : List (NestedKey × Addr × V)) : Prop where
  at_ : ∀ (pins : List (Addr × Obj)) (σ : L2.St) (s : Shared), L2.Inv X pins σ H s → ∃ ys : List (NestedKey × Addr × Value), s.heap.DictOfH (nestedKind X.prog X.w) a ys ∧ KV (kvN xs) (pairsH ys) ∧
    ys.map (fun y => (y.1, y.2.1)) = xs.map (fun x => (x.1, x.2.1)) ∧ (a == sysModules) = false ∧ xs.length ≤ sizeLine ∧ ys.length = xs.length
structure KM (X : Cx) (H : Hp) (a : Addr) (kvs : List (Key × V)) : Prop where
  at_ : ∀ (pins : List (Addr × Obj)) (σ : L2.St) (s : Shared), L2.Inv X pins σ H s → kvs.length ≤ sizeLine ∧ (a == sysModules) = false ∧ ∃ vs, KV kvs vs ∧ s.heap.DictOf (mixKind X.prog X.w) a vs
theorem KD.mk' {X : Cx} {H : Hp} {a : Addr} {xs : List (NestedKey × Addr × V)} (h : Rd H a (nO X.w a xs)) (hk : ∀ x ∈ xs, NkV X H (.ref x.2.1) x.1) : KD X H a xs := ⟨fun _ _ _ I => by
  obtain ⟨ys, h1, h2, h3, h4, h5, h6, _⟩ := nO_at I h hk
  exact ⟨ys, h1, h2, h3, h4, h5, h6⟩⟩
theorem KM.mk' {X : Cx} {H : Hp} {a : Addr} {kvs : List (Key × V)} (h : Rd H a (.dK kvs)) : KM X H a kvs := ⟨fun _ _ _ I => dk_rd I.hok h⟩
theorem KM.empty {X : Cx} {H : Hp} {a : Addr} (h : KM X H a []) : KD X H a [] := ⟨fun _ _ _ I => by
  obtain ⟨h1, h2, vs, k, o, es, ep, g1, g2, g3, g4, g5, g6⟩ := h.at_ _ _ _ I
  cases k
  refine ⟨[], ⟨o, es, ep, g1, g2, g3, ?_, fun x hx => by simp at hx, by simp⟩, .nil, rfl, h2, Nat.zero_le _, rfl⟩
  cases g : es.toList with
  | nil => rfl
  | cons e l => rw [g] at g5; cases g5⟩
theorem KD.empty {X : Cx} {H : Hp} {a : Addr} (h : KD X H a []) : KM X H a [] := ⟨fun _ _ _ I => by
  obtain ⟨ys, ⟨o, es, ep, g1, g2, g3, g4, g5, g6⟩, h2, h3, h4, h5, h6⟩ := h.at_ _ _ _ I
  cases ys with
  | cons y ys => cases h6
  | nil =>
    refine ⟨Nat.zero_le _, h4, [], .nil, o, es, ep, g1, g2, g3, ?_, ?_, by simp⟩
    · intro e he
      rw [← Array.mem_toList_iff, g4] at he
      simp at he
    · rw [g4]; first | exact .nil | trivial | (simp [Pairs])⟩
structure KK (X : Cx) (H : Hp) (b : Addr) (q : NestedKey) : Prop where
  is : NkV X H (.ref b) q
  dp : q.depth ≤ 8
def rDix (X : Cx) : R2 := fun x y H Q => (∃ a kvs k v, x = .ref a ∧ y = kV k ∧ KM X H a kvs ∧ valV kvs k = some v ∧ Q v H) ∨ ∃ a xs b q v, x = .ref a ∧ y = .ref b ∧ KD X H a xs ∧ KK X H b q ∧ valV (kvN xs) q = some v ∧ Q v H
def rDin (X : Cx) (neg : Bool) : R2 := fun y x H Q => (∃ a kvs k, x = .ref a ∧ y = kV k ∧ KM X H a kvs ∧ Q (.bl (if neg then !(valV kvs k).isSome else (valV kvs k).isSome)) H) ∨
  ∃ a xs b q, x = .ref a ∧ y = .ref b ∧ KD X H a xs ∧ KK X H b q ∧ Q (.bl (if neg then !(valV (kvN xs) q).isSome else (valV (kvN xs) q).isSome)) H
/-- a[y] = v: in its place, or at the end -/
def putN (xs : List (NestedKey × Addr × V)) (q : NestedKey) (b : Addr) (v : V) : List (NestedKey × Addr × V) :=
  if (xs.any fun x => decide (x.1 = q)) = true then xs.map (fun x => if x.1 = q then (x.1, x.2.1, v) else x) else xs ++ [(q, b, v)]
def rDset (X : Cx) : V → V → V → Hp → (Hp → Prop) → Prop := fun x y v H Q => (∃ a kvs k, x = .ref a ∧ y = kV k ∧ Mut (H a) ∧ KM X H a kvs ∧ kvs.length < sizeLine ∧ Q (upd H a (.dK (putK kvs k v)))) ∨
  ∃ a xs b q, x = .ref a ∧ y = .ref b ∧ Mut (H a) ∧ KD X H a xs ∧ KK X H b q ∧ xs.length < sizeLine ∧ Q (upd H a (nO X.w a (putN xs q b v)))
theorem kv_put : ∀ (xs : List (NestedKey × Addr × V)) (q : NestedKey) (b : Addr) (v : V), kvN (putN xs q b v) = putK (kvN xs) q v := by
  intro xs q b v
  have e : (kvN xs).any (fun kv => decide (kv.1 = q)) = xs.any fun x => decide (x.1 = q) := by
    simp [kvN, List.any_map, Function.comp_def]
  unfold putN putK
  rw [e]
  split
  · simp only [kvN, List.map_map]
    refine List.map_congr_left fun x _ => ?_
    by_cases h : x.1 = q <;> simp [h]
  · simp [kvN]
section
variable {X : Cx}
theorem stored_keys {ys : List (NestedKey × Addr × Value)} {xs : List (NestedKey × Addr × V)} {q : NestedKey} {b : Addr} {v : V} {u : Value} (k2 : ys.map (fun y => (y.1, y.2.1)) = xs.map (fun x => (x.1, x.2.1))) :
    (storedH ys q b u).map (fun y => (y.1, y.2.1)) = (putN xs q b v).map fun x => (x.1, x.2.1) := by
  have ha : (ys.any fun y => decide (y.1 = q)) = xs.any fun x => decide (x.1 = q) := by
    have e1 := congrArg (fun l => l.any fun z : NestedKey × Addr => decide (z.1 = q)) k2
    simpa [List.any_map, Function.comp_def] using e1
  have hs : (ys.any fun y => decide (y.1 = q)) = (atKey ys q).isSome := by
    have := any_pairsH ys q
    rw [← this]
    simp [pairsH, List.any_map, Function.comp_def]
  have p1 : ∀ l : List (NestedKey × Addr × Value), (l.map (putAt q u)).map (fun y => (y.1, y.2.1)) = l.map fun y => (y.1, y.2.1) := fun l => by
    rw [List.map_map]
    refine List.map_congr_left fun y _ => ?_
    by_cases h : y.1 = q <;> simp [putAt, h]
  have p2 : ∀ l : List (NestedKey × Addr × V), (l.map fun x => if x.1 = q then (x.1, x.2.1, v) else x).map (fun y => (y.1, y.2.1)) = l.map fun y => (y.1, y.2.1) := fun l => by
    rw [List.map_map]
    refine List.map_congr_left fun y _ => ?_
    by_cases h : y.1 = q <;> simp [h]
  unfold putN
  rw [← ha, hs]
  cases h : atKey ys q with
  | none =>
    rw [storedH_new h, if_neg (by simp), List.map_append, List.map_append, k2]
    rfl
  | some p =>
    rw [storedH_old h, if_pos (by simp), p1, p2, k2]
theorem room1 {P : Program} {w : World} {A : Around} (hu : A.units + 16 < cLine) : (nestedKind P w).room A.in1 := by
  have e : A.in1.units = A.units + 1 := rfl
  show A.in1.units + 8 < cLine
  omega
theorem KM.ty {pins : List (Addr × Obj)} {σ : L2.St} {H : Hp} {s : Shared} {a : Addr} {kvs : List (Key × V)} (I : L2.Inv X pins σ H s) (d : KM X H a kvs) : s.TypeIs (.ref a) "dict" := by
  obtain ⟨_, _, vs, _, dd⟩ := d.at_ _ _ _ I
  exact dd.typeIs
theorem KD.ty {pins : List (Addr × Obj)} {σ : L2.St} {H : Hp} {s : Shared} {a : Addr} {kvs : List (NestedKey × Addr × V)} (I : L2.Inv X pins σ H s) (d : KD X H a kvs) : s.TypeIs (.ref a) "dict" := by
  obtain ⟨vs, dd, _⟩ := d.at_ _ _ _ I
  exact dd.typeIs
theorem ix_dct (hu : X.A.units + 16 < cLine) : IxR X (rDix X) := by
  intro value slice pins s σ H x y v u Q I rx ry h hs
  rcases h with ⟨a, kvs, k, w, rfl, rfl, d, l, q⟩ | ⟨a, xs, b, k, w, rfl, rfl, d, kk, l, q⟩
  · cases (show v = Value.ref a from rx)
    obtain ⟨z, hd, vs, rel, dd⟩ := d.at_ _ _ _ I
    obtain ⟨w', hw, rw'⟩ := RelO.some_of (v := w) (o := valueAt vs k) (by rw [← l]; exact rel.val k)
    exact tail_any dd.typeIs slot_dict_getitem.lookup (wpAny_getItem_of (kV_is ry) dd.mapOf hw ⟨w, H, I.tok _, rw', q⟩) hs
  · cases (show v = Value.ref a from rx)
    cases (show u = Value.ref b from ry)
    obtain ⟨ys, dd, k1, _⟩ := d.at_ _ _ _ I
    obtain ⟨u', hu', ru⟩ := RelO.some_of (v := w) (o := valueAt (pairsH ys) k) (by rw [← l]; exact k1.val k)
    exact tail_any dd.typeIs slot_dict_getitem.lookup (getItem_keyed (knd := nestedKind X.prog X.w) (room1 hu) ⟨kk.is _ _ _ _ I rfl, kk.dp⟩ ⟨ys, dd, rfl⟩ hu' ⟨w, H, I.tok _, ru, q⟩) hs
theorem op_din (hu : X.A.units + 16 < cLine) : OpR X (compareOp .In) (rDin X false) := by
  intro pins s σ H y x v u Q I ry rx h
  rcases h with ⟨a, kvs, k, rfl, rfl, d, q⟩ | ⟨a, xs, b, k, rfl, rfl, d, kk, q⟩
  · cases (show u = Value.ref a from rx)
    obtain ⟨z, hd, vs, rel, dd⟩ := d.at_ _ _ _ I
    refine wpAny_in_of (kV_is ry) hd dd.mapOf ?_
    rw [← (rel.val k).isSome_eq]
    exact ⟨.bl _, H, I.tok _, rfl, q⟩
  · cases (show u = Value.ref a from rx)
    cases (show v = Value.ref b from ry)
    obtain ⟨ys, dd, k1, _, hs, _⟩ := d.at_ _ _ _ I
    refine in_keyed (knd := nestedKind X.prog X.w) (room1 hu) ⟨kk.is _ _ _ _ I rfl, kk.dp⟩ hs ⟨ys, dd, rfl⟩ ?_
    rw [← (k1.val k).isSome_eq]
    exact ⟨.bl _, H, I.tok _, rfl, q⟩
theorem op_dnin (hu : X.A.units + 16 < cLine) : OpR X (compareOp .NotIn) (rDin X true) := by
  intro pins s σ H y x v u Q I ry rx h
  rcases h with ⟨a, kvs, k, rfl, rfl, d, q⟩ | ⟨a, xs, b, k, rfl, rfl, d, kk, q⟩
  · cases (show u = Value.ref a from rx)
    obtain ⟨z, hd, vs, rel, dd⟩ := d.at_ _ _ _ I
    refine wpAny_notIn_of (kV_is ry) hd dd.mapOf ?_
    rw [← (rel.val k).isSome_eq]
    exact ⟨.bl _, H, I.tok _, rfl, q⟩
  · cases (show u = Value.ref a from rx)
    cases (show v = Value.ref b from ry)
    obtain ⟨ys, dd, k1, _, hs, _⟩ := d.at_ _ _ _ I
    refine notIn_keyed (knd := nestedKind X.prog X.w) (room1 hu) ⟨kk.is _ _ _ _ I rfl, kk.dp⟩ hs ⟨ys, dd, rfl⟩ ?_
    rw [← (k1.val k).isSome_eq]
    exact ⟨.bl _, H, I.tok _, rfl, q⟩
theorem len_putN {xs : List (NestedKey × Addr × V)} {q : NestedKey} {b : Addr} {v : V} : (putN xs q b v).length ≤ xs.length + 1 := by
  unfold putN
  split <;> simp
theorem dk_wr {pins : List (Addr × Obj)} {σ : L2.St} {H : Hp} {s : Shared} {a b : Addr} {xs : List (NestedKey × Addr × V)} {ys : List (NestedKey × Addr × Value)} {q : NestedKey} {v : V} {u : Value} {h' : Heap} {tk : Nat} (I : L2.Inv X pins σ H s) (d : Mut (H a))
    (k1 : KV (kvN xs) (pairsH ys)) (k2 : ys.map (fun y => (y.1, y.2.1)) = xs.map (fun x => (x.1, x.2.1))) (hs : (a == sysModules) = false) (hl : xs.length < sizeLine) (rv : RelV v u)
    (dd : h'.DictOfH (nestedKind X.prog X.w) a (storedH ys q b u)) (sb : Heap.SameBut a s.heap h') : L2.Inv X pins σ (upd H a (nO X.w a (putN xs q b v))) { s with heap := h', toks := tk } := by
  refine d_write I d sb (let ⟨o, _, _, g, _⟩ := dd; ⟨o, g⟩) (nO_ok dd hs (Nat.le_trans len_putN hl) ?_ (stored_keys k2))
  rw [kv_put, pairsH_storedH]
  exact k1.put q rv
theorem set_dct (hu : X.A.units + 16 < cLine) : PSet X (rDset X) := by
  intro pins s σ H o i v ov iv u Q I ro ri rv h
  rcases h with ⟨a, kvs, k, rfl, rfl, da, d, hl, q⟩ | ⟨a, xs, b, k, rfl, rfl, da, d, kk, hl, q⟩
  · cases (show ov = Value.ref a from ro)
    obtain ⟨z, hd, vs, rel, dd⟩ := d.at_ _ _ _ I
    have hz : vs.length ≤ sizeLine := by rw [← rel.length]; exact z
    have hl : (putK kvs k v).length ≤ sizeLine := by have := length_putK kvs k v; omega
    refine wpAny_setItem_pairs (hsz := hz) (kV_is ri) dd fun h' dd' hs => ⟨_, ?_, q⟩
    have he : ∃ q, h'.get? a = some q := let ⟨q, _, _, hq, _⟩ := dd'; ⟨q, hq⟩
    exact d_write I da hs he (dk_new hl hd (rel.put k rv) dd')
  · cases (show ov = Value.ref a from ro)
    cases (show iv = Value.ref b from ri)
    obtain ⟨ys, dd, k1, k2, hs, hz, hyl⟩ := d.at_ _ _ _ I
    refine wpAny_setItem_heap (hsz := by rw [hyl]; exact hz) (room1 hu) ⟨kk.is _ _ _ _ I rfl, kk.dp⟩ dd fun h' dd' sb => ?_
    exact ⟨_, dk_wr I da k1 k2 hs hl rv dd' sb, q⟩
/-- len(d) -/
def rDlen (X : Cx) : List V → Hp → VK → Prop := fun xs H Q => (∃ a kvs, xs = [.ref a] ∧ KM X H a kvs ∧ Q (.int kvs.length) H) ∨ ∃ a ys, xs = [.ref a] ∧ KD X H a ys ∧ Q (.int ys.length) H
theorem call_dlen : CallR X (.builtin "len") (rDlen X) := by
  intro pins s σ H xs us Q I r h
  rcases h with ⟨a, kvs, rfl, d, q⟩ | ⟨a, ys, rfl, d, q⟩
  · obtain rfl := Vals.ref1 r
    obtain ⟨z, hd, vs, rel, dd⟩ := d.at_ _ _ _ I
    refine call_len_dict hd dd (by rw [← rel.length]; rw [sizeLine_eq] at z; omega) ?_
    rw [← rel.length]
    exact ⟨.int kvs.length, H, I.tok _, ⟨_, rfl⟩, q⟩
  · obtain rfl := Vals.ref1 r
    obtain ⟨zs, dd, k1, k2, hs, hz, hyl⟩ := d.at_ _ _ _ I
    have := sizeLine_eq
    refine call_len_dictH hs dd (by rw [hyl]; omega) ?_
    rw [hyl]
    exact ⟨.int ys.length, H, I.tok _, ⟨_, rfl⟩, q⟩
end
/-! ### by data -/
section
variable {K : KW} {F : Hp} {ι : List Addr}
def OptR (K : KW) (F : Hp) (ι : List Addr) : Option V → Option D → Prop
  | none, none => True
  | some v, some d => Rep K F ι v d
  | _, _ => False
theorem OptR.some {o : Option V} {d : D} (h : OptR K F ι o (some d)) : ∃ v, o = some v ∧ Rep K F ι v d := by
  cases o with
  | none => exact h.elim
  | some v => exact ⟨v, rfl, h⟩
theorem OptR.isSome {o : Option V} {d : Option D} (h : OptR K F ι o d) : o.isSome = d.isSome := by
  cases o <;> cases d <;> first | rfl | exact h.elim
theorem findE_cons (e : D × D) (es : List (D × D)) (d : D) : findE (e :: es) d = if D.nk e.1 = D.nk d then some e.2 else findE es d := by
  unfold findE
  rw [List.find?_cons]
  by_cases h : D.nk e.1 = D.nk d
  · simp [h]
  · simp [h]
theorem find_n {d : D} {q : NestedKey} (hq : D.nk d = some q) : ∀ {es : List (D × D)} {xs : List (NestedKey × Addr × V)}, es.map (fun e => D.nk e.1) = xs.map (fun x => some x.1) → RepL K F ι (xs.map (·.2.2)) (es.map (·.2)) → OptR K F ι (valV (kvN xs) q) (findE es d)
  | [], [], _, _ => trivial
  | [], _ :: _, h, _ => by simp at h
  | _ :: _, [], h, _ => by simp at h
  | e :: es, x :: xs, h, r => by
    simp only [List.map_cons, List.cons.injEq] at h
    rw [List.map_cons, List.map_cons] at r
    cases r with
    | cons a t =>
      rw [findE_cons, h.1, hq]
      by_cases hx : x.1 = q
      · rw [if_pos (by rw [hx])]
        show OptR K F ι (valV ((x.1, x.2.2) :: kvN xs) q) _
        rw [valV_pos (p := (x.1, x.2.2)) hx]
        exact a
      · rw [if_neg (by simpa using hx)]
        show OptR K F ι (valV ((x.1, x.2.2) :: kvN xs) q) _
        rw [valV_neg (p := (x.1, x.2.2)) hx]
        exact find_n hq h.2 t
theorem any_n {d : D} {q : NestedKey} (hq : D.nk d = some q) : ∀ {es : List (D × D)} {xs : List (NestedKey × Addr × V)}, es.map (fun e => D.nk e.1) = xs.map (fun x => some x.1) → (es.any fun e => decide (D.nk e.1 = D.nk d)) = xs.any fun x => decide (x.1 = q)
  | [], [], _ => rfl
  | [], _ :: _, h => by simp at h
  | _ :: _, [], h => by simp at h
  | e :: es, x :: xs, h => by
    simp only [List.map_cons, List.cons.injEq] at h
    rw [List.any_cons, List.any_cons, any_n hq h.2, h.1, hq]
    simp
theorem put_n {d dv : D} {q : NestedKey} {b : Addr} {v : V} (hq : D.nk d = some q) (rk : Rep K F ι (.ref b) d) (rv : Rep K F ι v dv) {es : List (D × D)} {xs : List (NestedKey × Addr × V)} (h : es.map (fun e => D.nk e.1) = xs.map (fun x => some x.1))
    (r1 : RepL K F ι (xs.map fun x => V.ref x.2.1) (es.map (·.1))) (r2 : RepL K F ι (xs.map (·.2.2)) (es.map (·.2))) :
    (putE es d dv).map (fun e => D.nk e.1) = (putN xs q b v).map (fun x => some x.1) ∧ RepL K F ι ((putN xs q b v).map fun x => V.ref x.2.1) ((putE es d dv).map (·.1)) ∧ RepL K F ι ((putN xs q b v).map (·.2.2)) ((putE es d dv).map (·.2)) := by
  unfold putE putN
  rw [any_n hq h]
  split
  · rename_i hc
    clear hc
    have m1 : ∀ l : List (D × D), (l.map fun e => if D.nk e.1 = D.nk d then (e.1, dv) else e).map (fun e => D.nk e.1) = l.map fun e => D.nk e.1 := fun l => by
      rw [List.map_map]
      refine List.map_congr_left fun e _ => ?_
      simp only [Function.comp_apply]
      split <;> rfl
    have m2 : ∀ l : List (NestedKey × Addr × V), (l.map fun x => if x.1 = q then (x.1, x.2.1, v) else x).map (fun x => some x.1) = l.map fun x => some x.1 := fun l => by
      rw [List.map_map]
      refine List.map_congr_left fun e _ => ?_
      simp only [Function.comp_apply]
      split <;> rfl
    have m3 : ∀ l : List (D × D), (l.map fun e => if D.nk e.1 = D.nk d then (e.1, dv) else e).map (·.1) = l.map (·.1) := fun l => by
      rw [List.map_map]
      refine List.map_congr_left fun e _ => ?_
      simp only [Function.comp_apply]
      split <;> rfl
    have m4 : ∀ l : List (NestedKey × Addr × V), (l.map fun x => if x.1 = q then (x.1, x.2.1, v) else x).map (fun x => V.ref x.2.1) = l.map fun x => V.ref x.2.1 := fun l => by
      rw [List.map_map]
      refine List.map_congr_left fun e _ => ?_
      simp only [Function.comp_apply]
      split <;> rfl
    refine ⟨by rw [m1, m2, h], by rw [m3, m4]; exact r1, ?_⟩
    clear m1 m2 m3 m4 r1
    induction es generalizing xs with
    | nil => cases xs with
      | nil => exact .nil
      | cons x xs => simp at h
    | cons e es ih => cases xs with
      | nil => simp at h
      | cons x xs =>
        simp only [List.map_cons, List.cons.injEq] at h
        rw [List.map_cons, List.map_cons] at r2
        cases r2 with
        | cons a t =>
          simp only [List.map_cons]
          refine .cons ?_ (ih (xs := xs) h.2 t)
          rw [h.1, hq]
          by_cases hx : x.1 = q
          · rw [if_pos hx, if_pos (by rw [hx])]; exact rv
          · rw [if_neg hx, if_neg (by simpa using hx)]; exact a
  · refine ⟨by rw [List.map_append, List.map_append, h]; simp [hq], ?_, ?_⟩
    · rw [List.map_append, List.map_append]
      exact r1.append (.cons rk .nil)
    · rw [List.map_append, List.map_append]
      exact r2.append (.cons rv .nil)
/-- a key's data -/
def keyD : Key → D
  | .inl i => .int i
  | .inr s => .str s.cps.toList
theorem keyD_of {k : Key} {d : D} (r : Rep K F ι (kV k) d) : d = keyD k := by
  cases k with
  | inl i =>
    cases r with
    | int => rfl
  | inr s =>
    cases s with
    | mk c =>
      have r : Rep K F ι (.str ⟨c⟩) d := r
      generalize hc : (⟨c⟩ : Str) = z at r
      cases r with
      | str s h =>
        cases hc
        simp [keyD]
theorem keyD_nk {k k' : Key} : D.nk (keyD k) = D.nk (keyD k') ↔ k = k' := by
  constructor
  · intro h
    cases k <;> cases k' <;> simp [keyD, D.nk] at h ⊢
    · exact h
    · rename_i a b
      cases a; cases b
      simpa using h
  · intro h
    rw [h]
theorem keys_D : ∀ {kvs : List (Key × V)} {es : List (D × D)}, RepL K F ι (kvs.map fun p => kV p.1) (es.map (·.1)) → es.map (·.1) = kvs.map fun p => keyD p.1
  | [], [], _ => rfl
  | [], _ :: _, r => by cases r
  | _ :: _, [], r => by cases r
  | p :: kvs, e :: es, r => by
    rw [List.map_cons, List.map_cons] at r
    cases r with
    | cons a t => rw [List.map_cons, List.map_cons, keyD_of a, keys_D t]
theorem find_k {k : Key} : ∀ {kvs : List (Key × V)} {es : List (D × D)}, es.map (·.1) = (kvs.map fun p => keyD p.1) → RepL K F ι (kvs.map (·.2)) (es.map (·.2)) → OptR K F ι (valV kvs k) (findE es (keyD k))
  | [], [], _, _ => trivial
  | [], _ :: _, h, _ => by simp at h
  | _ :: _, [], h, _ => by simp at h
  | x :: xs, e :: es, h, r => by
    simp only [List.map_cons, List.cons.injEq] at h
    rw [List.map_cons, List.map_cons] at r
    cases r with
    | cons a t =>
      rw [findE_cons, h.1]
      by_cases hx : x.1 = k
      · rw [if_pos (by rw [hx]), valV_pos hx]
        exact a
      · rw [if_neg (fun z => hx (keyD_nk.mp z)), valV_neg hx]
        exact find_k h.2 t
theorem any_k {k : Key} : ∀ {kvs : List (Key × V)} {es : List (D × D)}, es.map (·.1) = (kvs.map fun p => keyD p.1) → (es.any fun e => decide (D.nk e.1 = D.nk (keyD k))) = kvs.any fun x => decide (x.1 = k)
  | [], [], _ => rfl
  | [], _ :: _, h => by simp at h
  | _ :: _, [], h => by simp at h
  | x :: xs, e :: es, h => by
    simp only [List.map_cons, List.cons.injEq] at h
    rw [List.any_cons, List.any_cons, any_k h.2, h.1]
    congr 1
    exact decide_eq_decide.mpr keyD_nk
theorem put_k {k : Key} {dv : D} {v : V} (rk : Rep K F ι (kV k) (keyD k)) (rv : Rep K F ι v dv) {kvs : List (Key × V)} {es : List (D × D)} (r1 : RepL K F ι (kvs.map fun p => kV p.1) (es.map (·.1))) (r2 : RepL K F ι (kvs.map (·.2)) (es.map (·.2))) :
    RepL K F ι ((putK kvs k v).map fun p => kV p.1) ((putE es (keyD k) dv).map (·.1)) ∧ RepL K F ι ((putK kvs k v).map (·.2)) ((putE es (keyD k) dv).map (·.2)) := by
  have h := keys_D r1
  unfold putE putK
  rw [any_k h]
  split
  · rename_i hc
    clear hc
    have m3 : ∀ l : List (D × D), (l.map fun e => if D.nk e.1 = D.nk (keyD k) then (e.1, dv) else e).map (·.1) = l.map (·.1) := fun l => by
      rw [List.map_map]
      refine List.map_congr_left fun e _ => ?_
      simp only [Function.comp_apply]
      split <;> rfl
    have m4 : ∀ l : List (Key × V), (l.map fun x => if x.1 = k then (x.1, v) else x).map (fun p => kV p.1) = l.map fun p => kV p.1 := fun l => by
      rw [List.map_map]
      refine List.map_congr_left fun e _ => ?_
      simp only [Function.comp_apply]
      split <;> rfl
    refine ⟨by rw [m3, m4]; exact r1, ?_⟩
    clear m3 m4 r1
    induction es generalizing kvs with
    | nil => cases kvs with
      | nil => exact .nil
      | cons x xs => simp at h
    | cons e es ih => cases kvs with
      | nil => simp at h
      | cons x xs =>
        simp only [List.map_cons, List.cons.injEq] at h
        rw [List.map_cons, List.map_cons] at r2
        cases r2 with
        | cons a t =>
          simp only [List.map_cons]
          refine .cons ?_ (ih (kvs := xs) t h.2)
          rw [h.1]
          by_cases hx : x.1 = k
          · rw [if_pos hx, if_pos (by rw [hx])]; exact rv
          · rw [if_neg hx, if_neg (fun z => hx (keyD_nk.mp z))]; exact a
  · constructor
    · rw [List.map_append, List.map_append]
      exact r1.append (.cons rk .nil)
    · rw [List.map_append, List.map_append]
      exact r2.append (.cons rv .nil)
/-- what a dict is -/
theorem Peek.dct {G : Gh} {H : Hp} {v : V} {k : Nat} {es : List (D × D)} (s : Sub G.F H) (h : Peek K G H v (.dct k es)) : ∃ a, v = .ref a ∧
    ((k = 0 ∧ ∃ kvs : List (Key × V), H a = some (.dK kvs) ∧ RepL K G.F G.ι (kvs.map fun p => kV p.1) (es.map (·.1)) ∧ RepL K G.F G.ι (kvs.map (·.2)) (es.map (·.2))) ∨
     (k = 2 ∧ ∃ od, ∃ kvs : List (Key × V), H a = some (.frz od (.dK kvs)) ∧ RepL K G.F G.ι (kvs.map fun p => kV p.1) (es.map (·.1)) ∧ RepL K G.F G.ι (kvs.map (·.2)) (es.map (·.2))) ∨
     (k = 3 ∧ ∃ od, ∃ xs : List (NestedKey × Addr × V), H a = some (.frz od (nO K.w a xs)) ∧ es.map (fun e => D.nk e.1) = xs.map (fun x => some x.1) ∧ RepL K G.F G.ι (xs.map fun x => V.ref x.2.1) (es.map (·.1)) ∧ RepL K G.F G.ι (xs.map (·.2.2)) (es.map (·.2))) ∨
     (k = 1 ∧ ∃ xs : List (NestedKey × Addr × V), H a = some (nO K.w a xs) ∧ es.map (fun e => D.nk e.1) = xs.map (fun x => some x.1) ∧ RepL K G.F G.ι (xs.map fun x => V.ref x.2.1) (es.map (·.1)) ∧ RepL K G.F G.ι (xs.map (·.2.2)) (es.map (·.2)))) := by
  obtain ⟨a, o, rfl, q, r⟩ := h.ob s rfl
  refine ⟨a, rfl, ?_⟩
  cases r with
  | dct0 r1 r2 => exact .inl ⟨rfl, _, q, r1, r2⟩
  | dct2 r1 r2 => exact .inr (.inl ⟨rfl, _, _, q, r1, r2⟩)
  | dct3 e r1 r2 => exact .inr (.inr (.inl ⟨rfl, _, _, q, e, r1, r2⟩))
  | dct1 e r1 r2 => exact .inr (.inr (.inr ⟨rfl, _, q, e, r1, r2⟩))
theorem keys_nk {X : Cx} {G : Gh} {H : Hp} (hK : X.K = K.fr) (s : Sub G.F H) : ∀ {es : List (D × D)} {xs : List (NestedKey × Addr × V)}, es.map (fun e => D.nk e.1) = xs.map (fun x => some x.1) → RepL K G.F G.ι (xs.map fun x => V.ref x.2.1) (es.map (·.1)) → ∀ x ∈ xs, NkV X H (.ref x.2.1) x.1
  | [], [], _, _, x, h => by simp at h
  | [], _ :: _, h, _, _, _ => by simp at h
  | _ :: _, [], h, _, _, _ => by simp at h
  | e :: es, y :: ys, h, r, x, hx => by
    simp only [List.map_cons, List.cons.injEq] at h
    rw [List.map_cons, List.map_cons] at r
    cases r with
    | cons a t =>
      rcases List.mem_cons.mp hx with rfl | hx
      · exact a.nkv hK s h.1
      · exact keys_nk hK s h.2 t x hx
theorem KD.of {X : Cx} {G : Gh} {H : Hp} {a : Addr} (hK : X.K = K.fr) (hw : X.w = K.w) (s : Sub G.F H) {es : List (D × D)} {xs : List (NestedKey × Addr × V)} (q : H a = some (nO K.w a xs)) (e : es.map (fun e => D.nk e.1) = xs.map (fun x => some x.1)) (r : RepL K G.F G.ι (xs.map fun x => V.ref x.2.1) (es.map (·.1))) : KD X H a xs :=
  .mk' (.inl (by rw [hw]; exact q)) (keys_nk hK s e r)
theorem KD.of' {X : Cx} {G : Gh} {H : Hp} {a : Addr} {od : Obj} (hK : X.K = K.fr) (hw : X.w = K.w) (s : Sub G.F H) {es : List (D × D)} {xs : List (NestedKey × Addr × V)} (q : H a = some (.frz od (nO K.w a xs))) (e : es.map (fun e => D.nk e.1) = xs.map (fun x => some x.1)) (r : RepL K G.F G.ι (xs.map fun x => V.ref x.2.1) (es.map (·.1))) : KD X H a xs :=
  .mk' (.inr ⟨od, by rw [hw]; exact q⟩) (keys_nk hK s e r)
/-- a key of the first kind, of the second -/
theorem key0 {G : Gh} {H : Hp} {y : V} {d : D} (w : Peek K G H y d) (h : keyOk 0 d = true) : ∃ k, y = kV k ∧ d = keyD k ∧ Rep K G.F G.ι y d := by
  cases d with
  | int i => exact ⟨.inl i, w.int, rfl, by rw [w.int]; exact .int i⟩
  | str z =>
    obtain ⟨rfl, hz⟩ := w.str
    exact ⟨.inr ⟨z.toArray⟩, rfl, by simp [keyD], .str z hz⟩
  | tup _ => simp [keyOk] at h
  | _ => cases h
theorem key1 {X : Cx} {G : Gh} {H : Hp} {y : V} {d : D} (hK : X.K = K.fr) (s : Sub G.F H) (w : Peek K G H y d) (h : keyOk 1 d = true) : ∃ b q, y = .ref b ∧ D.nk d = some q ∧ KK X H b q ∧ Rep K G.F G.ι y d := by
  cases d with
  | int i => simp [keyOk] at h
  | str z => simp [keyOk] at h
  | tup xs =>
    have hr : Rep K G.F G.ι y (.tup xs) := by
      rcases w with w | ⟨a, _, o⟩
      · exact w
      · exact (o.no rfl).elim
    obtain ⟨b, vs, rfl, _⟩ := hr.toTup
    simp only [keyOk, decide_true, Bool.true_and] at h
    cases e : D.nk (.tup xs) with
    | none => rw [e] at h; cases h
    | some q =>
      rw [e] at h
      exact ⟨b, q, rfl, rfl, ⟨hr.nkv hK s e, of_decide_eq_true h⟩, hr⟩
  | _ => cases h
theorem keyOk_two {d : D} (h0 : keyOk 0 d = true) : keyOk 1 d = false := by
  cases d <;> simp [keyOk] at h0 ⊢
/-- the two looks at a dict that may stand empty -/
theorem Peek.dlook {X : Cx} {G : Gh} {H : Hp} {x : V} {k : Nat} {es : List (D × D)} (hK : X.K = K.fr) (hw : X.w = K.w) (s : Sub G.F H) (w1 : Peek K G H x (.dct k es)) : ∃ a, x = .ref a ∧
    ((k = 0 ∨ k = 2 ∨ es = []) → ∃ kvs : List (Key × V), KM X H a kvs ∧ RepL K G.F G.ι (kvs.map fun p => kV p.1) (es.map (·.1)) ∧ RepL K G.F G.ι (kvs.map (·.2)) (es.map (·.2))) ∧
    ((k = 1 ∨ k = 3 ∨ es = []) → ∃ xs : List (NestedKey × Addr × V), KD X H a xs ∧ es.map (fun e => D.nk e.1) = xs.map (fun x => some x.1) ∧ RepL K G.F G.ι (xs.map fun x => V.ref x.2.1) (es.map (·.1)) ∧ RepL K G.F G.ι (xs.map (·.2.2)) (es.map (·.2))) ∧
    (k ≤ 1 → (∀ o, H a = some o → Mut (some o)) ∧ ∃ o, H a = some o) ∧ k ≤ 3 := by
  have h0 : ∀ {a : Addr} {kvs : List (Key × V)}, Rd H a (.dK kvs) → RepL K G.F G.ι (kvs.map fun p => kV p.1) (es.map (·.1)) → RepL K G.F G.ι (kvs.map (·.2)) (es.map (·.2)) → es = [] →
      ∃ xs : List (NestedKey × Addr × V), KD X H a xs ∧ es.map (fun e => D.nk e.1) = xs.map (fun x => some x.1) ∧ RepL K G.F G.ι (xs.map fun x => V.ref x.2.1) (es.map (·.1)) ∧ RepL K G.F G.ι (xs.map (·.2.2)) (es.map (·.2)) := fun q r1 r2 h => by
    subst h
    rename_i kvs
    cases kvs with
    | cons p kvs => cases r1
    | nil => exact ⟨[], (KM.mk' (X := X) q).empty, rfl, .nil, .nil⟩
  have h1 : ∀ {a : Addr} {xs : List (NestedKey × Addr × V)}, KD X H a xs → RepL K G.F G.ι (xs.map fun x => V.ref x.2.1) (es.map (·.1)) → es = [] →
      ∃ kvs : List (Key × V), KM X H a kvs ∧ RepL K G.F G.ι (kvs.map fun p => kV p.1) (es.map (·.1)) ∧ RepL K G.F G.ι (kvs.map (·.2)) (es.map (·.2)) := fun q r1 h => by
    subst h
    rename_i xs
    cases xs with
    | cons p kvs => cases r1
    | nil => exact ⟨[], q.empty, .nil, .nil⟩
  obtain ⟨a, rfl, ⟨rfl, kvs, q, r1, r2⟩ | ⟨rfl, od, kvs, q, r1, r2⟩ | ⟨rfl, od, xs, q, e, r1, r2⟩ | ⟨rfl, xs, q, e, r1, r2⟩⟩ := w1.dct s
  · refine ⟨a, rfl, fun _ => ⟨kvs, .mk' (.inl q), r1, r2⟩, fun h => ?_, fun _ => ⟨fun o ho => by rw [q] at ho; cases ho; trivial, _, q⟩, by decide⟩
    rcases h with h | h | h
    · cases h
    · cases h
    · exact h0 (.inl q) r1 r2 h
  · refine ⟨a, rfl, fun _ => ⟨kvs, .mk' (.inr ⟨od, q⟩), r1, r2⟩, fun h => ?_, fun h => absurd h (by decide), by decide⟩
    rcases h with h | h | h
    · cases h
    · cases h
    · exact h0 (.inr ⟨od, q⟩) r1 r2 h
  · refine ⟨a, rfl, fun h => ?_, fun _ => ⟨xs, .of' hK hw s q e r1, e, r1, r2⟩, fun h => absurd h (by decide), by decide⟩
    rcases h with h | h | h
    · cases h
    · cases h
    · exact h1 (.of' hK hw s q e r1) r1 h
  · refine ⟨a, rfl, fun h => ?_, fun _ => ⟨xs, .of hK hw s q e r1, e, r1, r2⟩, fun _ => ⟨fun o ho => by rw [q] at ho; cases ho; trivial, _, q⟩, by decide⟩
    rcases h with h | h | h
    · cases h
    · cases h
    · exact h1 (.of hK hw s q e r1) r1 h
theorem kind_02 {k : Nat} {q : Prop} (h : k ≤ 3) : (k = 0 ∨ k = 2 ∨ q) ∨ (k = 1 ∨ k = 3 ∨ q) := by
  rcases (by omega : k = 0 ∨ k = 2 ∨ k = 1 ∨ k = 3) with h | h | h | h
  · exact .inl (.inl h)
  · exact .inl (.inr (.inl h))
  · exact .inr (.inl h)
  · exact .inr (.inr (.inl h))
theorem keyOk_02 {k : Nat} {d : D} (hk : k ≤ 3) (h : keyOk k d = true) : ((k = 0 ∨ k = 2) ∧ keyOk 0 d = true) ∨ ((k = 1 ∨ k = 3) ∧ keyOk 1 d = true) := by
  cases d <;> simp [keyOk] at h ⊢ <;> first | exact h | omega
theorem kOk_cases {k : Nat} {es : List (D × D)} {d : D} (hk : k ≤ 3) (h : kOk k es d = true) : ((k = 0 ∨ k = 2 ∨ es = []) ∧ keyOk 0 d = true) ∨ ((k = 1 ∨ k = 3 ∨ es = []) ∧ keyOk 1 d = true) := by
  unfold kOk at h
  simp only [Bool.or_eq_true, Bool.and_eq_true, List.isEmpty_iff] at h
  rcases h with h | ⟨h, h1 | h1⟩
  · rcases keyOk_02 hk h with ⟨h0 | h0, h1⟩ | ⟨h0 | h0, h1⟩
    · exact .inl ⟨.inl h0, h1⟩
    · exact .inl ⟨.inr (.inl h0), h1⟩
    · exact .inr ⟨.inl h0, h1⟩
    · exact .inr ⟨.inr (.inl h0), h1⟩
  · exact .inl ⟨.inr (.inr h), h1⟩
  · exact .inr ⟨.inr (.inr h), h1⟩
/-- d[y], y in d, d.get(y) -/
theorem Peek.dget {X : Cx} {G : Gh} {H : Hp} {x y : V} {k : Nat} {es : List (D × D)} {d : D} (hK : X.K = K.fr) (hw : X.w = K.w) (s : Sub G.F H) (w1 : Peek K G H x (.dct k es)) (w2 : Peek K G H y d) (h : kOk k es d = true) : ∃ a o, x = .ref a ∧ OptR K G.F G.ι o (findE es d) ∧
    ((∃ kvs k, y = kV k ∧ KM X H a kvs ∧ o = valV kvs k) ∨ ∃ xs b q, y = .ref b ∧ KD X H a xs ∧ KK X H b q ∧ o = valV (kvN xs) q) := by
  obtain ⟨a, rfl, l0, l1, _, hk⟩ := w1.dlook (X := X) hK hw s
  rcases kOk_cases hk h with ⟨h0, h⟩ | ⟨h0, h⟩
  · obtain ⟨kvs, km, r1, r2⟩ := l0 h0
    obtain ⟨k, rfl, rfl, _⟩ := key0 w2 h
    exact ⟨a, _, rfl, find_k (keys_D r1) r2, .inl ⟨kvs, k, rfl, km, rfl⟩⟩
  · obtain ⟨xs, kd, e, r1, r2⟩ := l1 h0
    obtain ⟨b, n, rfl, hn, kk, _⟩ := key1 hK s w2 h
    exact ⟨a, _, rfl, find_n hn e r2, .inr ⟨xs, b, n, rfl, kd, kk, rfl⟩⟩
/-- d[y] = v -/
theorem Own.dput {X : Cx} {G : Gh} {H : Hp} {a : Addr} {y v : V} {k : Nat} {es : List (D × D)} {d dv : D} (hK : X.K = K.fr) (hw : X.w = K.w) (s : Sub G.F H) (w1 : Own K G H a (.dct k es)) (w2 : Rep K G.F G.ι y d) (w3 : Rep K G.F G.ι v dv) (h : kOk k es d = true) (hl : es.length < LN) (hk1 : k ≤ 1) :
    ∃ o, (∀ Q : Hp → Prop, Q (upd H a o) → rDset X (.ref a) y v H Q) ∧ Own K G (upd H a o) a (.dct (kindOf d) (putE es d dv)) := by
  obtain ⟨a', e', l0, l1, mo, hk⟩ := Peek.dlook (X := X) hK hw s (.inr ⟨a, rfl, w1⟩)
  cases e'
  obtain ⟨mu, o, ho⟩ := mo hk1
  have mu' : Mut (H a) := by rw [ho]; exact mu o ho
  rcases kOk_cases hk h with ⟨h0, h⟩ | ⟨h0, h⟩
  · obtain ⟨kvs, km, r1, r2⟩ := l0 h0
    have ek : kindOf d = 0 := by unfold kindOf; rw [if_pos h]
    obtain ⟨k, rfl, rfl, rk⟩ := key0 (H := H) (.inl w2) h
    have hz : kvs.length < sizeLine := by
      have := r2.length
      rw [List.length_map, List.length_map] at this
      rw [LN_eq, this]; exact hl
    obtain ⟨p1, p2⟩ := put_k rk w3 r1 r2
    exact ⟨_, fun Q hq => .inl ⟨a, kvs, k, rfl, rfl, mu', km, hz, hq⟩, _, upd_same, by rw [ek]; exact .dct0 p1 p2⟩
  · obtain ⟨xs, kd, e, r1, r2⟩ := l1 h0
    have ek : kindOf d = 1 := by
      unfold kindOf
      rw [if_neg]
      intro h2
      rw [keyOk_two h2] at h
      cases h
    obtain ⟨b, n, rfl, hn, kk, rk⟩ := key1 hK s (.inl w2) h
    have hz : xs.length < sizeLine := by
      have := r2.length
      rw [List.length_map, List.length_map] at this
      rw [LN_eq, this]; exact hl
    obtain ⟨p0, p1, p2⟩ := put_n hn rk w3 e r1 r2
    exact ⟨nO X.w a (putN xs n b v), fun Q hq => .inr ⟨a, xs, b, n, rfl, rfl, mu', kd, kk, hz, hq⟩, _, upd_same, by rw [hw, ek]; exact .dct1 p0 p1 p2⟩
end
end Mi

namespace Mi
open PySem PySem.Spec PyProof.Rows L2

/-! ### x[i], x[a:b] -/
def optM {α : Type} (o : Option α) (f : α → M OD) : M OD := fun ρ S => match o with
  | some d => f d ρ S
  | none => .err
theorem optM_some {α : Type} (a : α) (f : α → M OD) : optM (some a) f = f a := rfl
theorem optM_none {α : Type} (f : α → M OD) : optM none f = M.err := rfl
/-- a cell's list -/
def cellL (n : Nat) (f : List D → M OD) : M OD := fun ρ S => match S[n]? with
  | some (.lst xs) => f xs ρ S
  | _ => .err
def ixD : D → D → M OD
  | .lst xs, .int i => optM (atI xs i) gives
  | .tup xs, .int i => optM (atI xs i) gives
  | .scr xs, .int i => optM (atI xs i) fun n => gives (.int n)
  | .str s, .int i => if s.length ≤ LN then optM (atI s i) fun c => gives (.str [c]) else M.err
  | .cell n, .int i => cellL n fun xs => optM (atI xs i) gives
  | .dct k es, d => if kOk k es d = true then optM (findE es d) gives else M.err
  | _, _ => M.err
theorem post_opt {P : Pm} {α : Type} {G : Gh} {σ : L2.St} {ρ : Rho} {S : List D} {o : Option α} {f : α → M OD} {Q : VK} (h : Post P (relO P) G σ (optM o f ρ S) Q) : ∃ a, o = some a ∧ Post P (relO P) G σ (f a ρ S) Q := by
  cases o with
  | none => exact h.elim
  | some a => exact ⟨a, rfl, h⟩
theorem post_cell {P : Pm} {G : Gh} {σ : L2.St} {ρ : Rho} {S : List D} {n : Nat} {f : List D → M OD} {Q : VK} (h : Post P (relO P) G σ (cellL n f ρ S) Q) : ∃ xs, S[n]? = some (.lst xs) ∧ Post P (relO P) G σ (f xs ρ S) Q := by
  unfold cellL at h
  cases e : S[n]? with
  | none => rw [e] at h; exact h.elim
  | some d =>
    rw [e] at h
    cases d with
    | lst xs => exact ⟨xs, rfl, h⟩
    | _ => exact h.elim
def cut {α : Type} (xs : List α) (lo hi : Option Int) : List α := (xs.drop (HT.sIx xs.length 0 lo)).take (HT.sIx xs.length xs.length hi - HT.sIx xs.length 0 lo)
def slD (d : D) (lo hi : Option Int) : M OD := match d with
  | .lst xs => fresh (.lst (cut xs lo hi))
  | .str s => if s.length ≤ LN then gives (.str (cut s lo hi)) else M.err
  | .tup xs => gives (.tup (cut xs lo hi))
  | .scr ns => fresh (.lst ((cut ns lo hi).map .int))
  | _ => M.err
def partM (m : M OD) : M (Option Int) := do
  let d ← m.val
  match d with
  | .int i => pure (some i)
  | _ => M.err
def slM (o : M Opd) (lo hi : M (Option Int)) : M OD := do
  let x ← o
  let l ← lo
  let h ← hi
  let d ← resM x
  slD d l h
section
variable {X : Cx} {P : Pm} {G : Gh} {ρ : Rho} {S : List D} {σ : L2.St} {H : Hp} {x y : V} {d e : D} {Q : VK}
theorem RepL.atI {K : KW} {F : Hp} {ι : List Addr} {vs : List V} {ds : List D} {i : Int} {d : D} (r : RepL K F ι vs ds) (h : L2.atI ds i = some d) : ∃ v, L2.atI vs i = some v ∧ Rep K F ι v d := by
  unfold L2.atI at h ⊢
  rw [r.length]
  cases q : ixN ds.length i with
  | none => rw [q] at h; cases h
  | some j => rw [q] at h; exact r.at h
theorem atI_map {α β : Type} (f : α → β) (xs : List α) (i : Int) : L2.atI (xs.map f) i = (L2.atI xs i).map f := by
  unfold L2.atI
  rw [List.length_map]
  cases ixN xs.length i with
  | none => rfl
  | some j => simp
theorem all_atI {s : List Nat} {i : Int} {c : Nat} (hs : s.all (· < 1114112) = true) (h : L2.atI s i = some c) : c < 1114112 := by
  obtain ⟨j, _, hj, _⟩ := atI_get h
  exact of_decide_eq_true (List.all_eq_true.mp hs c (List.mem_of_getElem? hj))
theorem q_ix (hK : X.K = P.K) (hw : X.w = P.K.w) : QOk P (fun x y H Q => rIx X.K x y H Q ∨ rDix X x y H Q) ixD := fun {G ρ S σ H x y d e Q} r w1 w2 h => by
  unfold ixD at h
  split at h
  · rename_i xs i
    cases w2.int
    obtain ⟨a, vs, rfl, q, l⟩ := w1.lst r.fr
    obtain ⟨z, hz, h⟩ := post_opt h
    obtain ⟨v, e1, e2⟩ := l.atI hz
    exact .inl (.inl ⟨a, vs, i, v, rfl, rfl, SqL.of q, e1, post_gives h r e2⟩)
  · rename_i xs i
    cases w2.int
    obtain ⟨a, vs, rfl, q, l⟩ := w1.tup r.fr
    obtain ⟨z, hz, h⟩ := post_opt h
    obtain ⟨v, e1, e2⟩ := l.atI hz
    exact .inl (.inr (.inl ⟨a, vs, i, v, rfl, rfl, by rw [hK]; exact q, e1, post_gives h r e2⟩))
  · rename_i ns i
    cases w2.int
    obtain ⟨a, rfl, q⟩ := w1.scr r.fr
    obtain ⟨z, hz, h⟩ := post_opt h
    exact .inl (.inl ⟨a, _, i, .int z, rfl, rfl, by rw [hK]; exact q, by rw [atI_map, hz]; rfl, post_gives h r (.int _)⟩)
  · rename_i s i
    cases w2.int
    obtain ⟨rfl, hs⟩ := w1.str
    obtain ⟨hl, h⟩ := post_if h
    obtain ⟨c, hc, h⟩ := post_opt h
    refine .inl (.inr (.inr ⟨_, i, c, rfl, rfl, by rw [LN_eq]; simpa [Str.length] using hl, by simpa using hc, ?_⟩))
    exact post_gives (x := .str ⟨[c].toArray⟩) h r (.str [c] (by simp [all_atI hs hc]))
  · rename_i n i
    cases w2.int
    obtain ⟨a, rfl, q⟩ := w1.cell
    obtain ⟨xs, hn, h⟩ := post_cell h
    obtain ⟨a', q', ow, _⟩ := r.cl n _ hn
    rw [q] at q'
    cases q'
    obtain ⟨vs, q2, l⟩ := own_lst ow
    obtain ⟨z, hz, h⟩ := post_opt h
    obtain ⟨v, e1, e2⟩ := l.atI hz
    exact .inl (.inl ⟨a, vs, i, v, rfl, rfl, SqL.of q2, e1, post_gives h r e2⟩)
  · obtain ⟨ok, h⟩ := post_if h
    obtain ⟨z, hz, h⟩ := post_opt h
    obtain ⟨a, o, rfl, oo, hx⟩ := w1.dget (X := X) (by rw [hK]) hw r.fr w2 ok
    rw [hz] at oo
    obtain ⟨v, rfl, rv⟩ := oo.some
    have q := post_gives h r rv
    rcases hx with ⟨kvs, k, rfl, km, e⟩ | ⟨xs, b, n, rfl, d, kk, e⟩
    · exact .inr (.inl ⟨a, kvs, k, v, rfl, rfl, km, e.symm, q⟩)
    · exact .inr (.inr ⟨a, xs, b, n, v, rfl, rfl, d, kk, e.symm, q⟩)
  · exact h.elim
theorem plainIx {b : Expr} (h : (match b with | .Slice .. => false | _ => true) = true) : PlainIx b := by
  intro o i
  cases b <;> first | rfl | cases h
theorem s_ix (hK : X.K = P.K) (hw : X.w = P.K.w) (hu : X.A.units + 16 < cLine) {a b : Expr} {oa ob : M Opd} {pos : Pos} (hb' : (match b with | .Slice .. => false | _ => true) = true) (ha : PE X a (tmP P oa)) (hb : PE X b (tmP P ob)) : PE X (.Subscript a b pos) (tmO P (op2M oa ob ixD)) :=
  (pe_ix (IxR.or ix_seq (ix_dct hu)) ha hb (plainIx hb')).imp fun _ _ _ q => two_of (q_ix hK hw) q
theorem po0 : PO X none (tmI P (pure none)) := po_none.imp fun σ H Q ⟨G, ρ, S, r, h⟩ => h none H G (Gh.le.refl _) r rfl
theorem po1 {e : Expr} {m : M OD} (h : PE X e (tmO P m)) : PO X (some e) (tmI P (partM m)) := by
  refine (po_some (PE.val h)).imp fun σ H Q q => tm_imp (tm_bind (rel1 := relV P) q) fun v H1 ⟨G1, ρ1, S1, a, r, w, q⟩ => ?_
  have w : Rep P.K G1.F G1.ι v a := w
  cases a with
  | int i => exact ⟨i, w.toInt, q _ H1 G1 (Gh.le.refl _) r rfl⟩
  | _ => exact q.elim
theorem monoI {G G' : Gh} {ρ ρ' : Rho} {H H' : Hp} {d v : Option Int} (l : Gh.le G G') (h : relI G ρ σ H d v) : relI G' ρ' σ H' d v := h
theorem RepL.cut {K : KW} {F : Hp} {ι : List Addr} {vs : List V} {ds : List D} (r : RepL K F ι vs ds) (lo hi : Option Int) : RepL K F ι (cutV vs lo hi) (Mi.cut ds lo hi) := by
  unfold cutV Mi.cut
  rw [r.length]
  exact (r.drop _).take _
theorem all_cut {s : List Nat} (hs : s.all (· < 1114112) = true) (lo hi : Option Int) : (Mi.cut s lo hi).all (· < 1114112) = true := by
  unfold Mi.cut
  rw [List.all_eq_true] at hs ⊢
  exact fun c hc => hs c (List.mem_of_mem_drop (List.mem_of_mem_take hc))
theorem RepL.intL {K : KW} {F : Hp} {ι : List Addr} : ∀ ns : List Int, RepL K F ι (ns.map V.int) (ns.map D.int)
  | [] => .nil
  | n :: t => .cons (.int n) (RepL.intL t)
theorem cutV_ints (ns : List Int) (lo hi : Option Int) : cutV (ns.map V.int) lo hi = (Mi.cut ns lo hi).map V.int := by
  unfold cutV Mi.cut
  rw [List.length_map, List.map_take, List.map_drop]
def rSlD (K : PySem.W.Frag) : V → Option Int → Option Int → Hp → VK → Prop := fun x lo hi H Q => rSlL K x lo hi H Q ∨ rSlA K x lo hi H Q ∨ rSlS x lo hi H Q
theorem sl_D : SlR X (rSlD X.K) := SlR.or sl_list (SlR.or sl_tupA sl_str)
theorem q_sl (hK : X.K = P.K) {lo hi : Option Int} (r : R P.K P.b G ρ S σ H) (w : Peek P.K G H x d) (h : Post P (relO P) G σ (slD d lo hi ρ S) Q) : rSlD X.K x lo hi H Q := by
  unfold slD at h
  split at h
  · obtain ⟨a, vs, rfl, q, l⟩ := w.lst r.fr
    exact .inl ⟨a, vs, rfl, SqL.of q, fun p hp => post_fresh h r hp (l.cut lo hi)⟩
  · rename_i z
    obtain ⟨rfl, hs⟩ := w.str
    obtain ⟨hl, h⟩ := post_if h
    refine .inr (.inr ⟨_, rfl, by rw [LN_eq]; simpa [Str.length] using hl, ?_⟩)
    have e : cutS ⟨z.toArray⟩ lo hi = ⟨(Mi.cut z lo hi).toArray⟩ := by unfold cutS Mi.cut; simp [Str.length]
    rw [e]
    exact post_gives h r (.str _ (all_cut hs lo hi))
  · rename_i xs
    have w0 := w.rep rfl
    obtain ⟨a, vs, rfl, q, l⟩ := w.tup r.fr
    refine .inr (.inl ⟨a, vs, rfl, by rw [hK]; exact q, fun hc => ?_, fun _ p hp => post_tup h r hp (l.cut lo hi)⟩)
    rw [l.length] at hc
    have e : cut xs lo hi = xs := by
      unfold cut
      rw [hc.1, hc.2, List.drop_zero, Nat.sub_zero, List.take_of_length_le (Nat.le_refl _)]
    rw [e] at h
    exact post_gives h r w0
  · rename_i ns
    obtain ⟨a, rfl, q⟩ := w.scr r.fr
    exact .inl ⟨a, ns.map V.int, rfl, by rw [hK]; exact q, fun p hp => by rw [cutV_ints]; exact post_fresh h r hp (RepL.intL _)⟩
  · exact h.elim
theorem s_sl (hK : X.K = P.K) {a : Expr} {lo hi : Option Expr} {o : M Opd} {ml mh : M (Option Int)} {pos p2 : Pos} (ha : PE X a (tmP P o)) (hl : PO X lo (tmI P ml)) (hh : PO X hi (tmI P mh)) :
    PE X (.Subscript a (.Slice lo hi none p2) pos) (tmO P (slM o ml mh)) := by
  refine (pe_slice sl_D ha hl hh).imp fun σ H Q q => ?_
  obtain ⟨G, ρ, S, r, q⟩ := q
  refine tm_imp (tm_at (rel1 := relP P) r q) fun x H1 ⟨G1, ρ1, S1, o1, r1, w1, l1, q1⟩ => ?_
  refine tm_imp (tm_at (rel1 := relI) r1 q1) fun l H2 ⟨G2, ρ2, S2, o2, r2, w2, l2, q2⟩ => ?_
  cases w2
  refine tm_imp (tm_at (rel1 := relI) r2 q2) fun u H3 ⟨G3, ρ3, S3, o3, r3, w3, l3, q3⟩ => ?_
  cases w3
  obtain ⟨d, p, q4⟩ := res_of r3 (monoP (P := P) (ρ := ρ1) (ρ' := ρ3) (H := H1) (H' := H3) (l2.trans l3) w1) q3
  exact q_sl hK r3 p q4
end

/-! ### built-in functions and types -/
inductive BI where
  | len | max | min | int | str | list | tuple | all | any | sum
  deriving DecidableEq
def BI.name : BI → Str
  | .len => "len" | .max => "max" | .min => "min" | .int => "int" | .str => "str" | .list => "list" | .tuple => "tuple" | .all => "all" | .any => "any" | .sum => "sum"
def BI.val : BI → Value
  | .len => .builtin "len" | .max => .builtin "max" | .min => .builtin "min" | .int => .type "int" | .str => .type "str" | .list => .type "list" | .tuple => .type "tuple" | .all => .builtin "all" | .any => .builtin "any" | .sum => .builtin "sum"
def decI (i : Int) : List Nat := (toString i).toList.map Char.toNat
def intsOf : List D → Option (List Int)
  | [] => some []
  | .int i :: r => (intsOf r).map (i :: ·)
  | _ => none
def blsOf : List D → Option (List Bool)
  | [] => some []
  | .bl i :: r => (blsOf r).map (i :: ·)
  | _ => none
def maxM : List Int → M OD
  | n :: ns => gives (.int (ns.foldl Max.max n))
  | [] => M.err
def minM : List Int → M OD
  | n :: ns => gives (.int (ns.foldl Min.min n))
  | [] => M.err
def BI.sem : BI → List D → M OD
  | .len, [.str s] => if s.length ≤ LN then gives (.int s.length) else M.err
  | .len, [.lst xs] => gives (.int xs.length)
  | .len, [.tup xs] => gives (.int xs.length)
  | .len, [.scr xs] => gives (.int xs.length)
  | .len, [.dct _ es] => gives (.int es.length)
  | .max, [.int i, .int j] => gives (.int (if j > i then j else i))
  | .max, [.lst xs] => optM (intsOf xs) maxM
  | .min, [.int i, .int j] => gives (.int (if j < i then j else i))
  | .min, [.lst xs] => optM (intsOf xs) minM
  | .int, [.int i] => gives (.int i)
  | .int, [.bl b] => gives (.int (if b then 1 else 0))
  | .int, [.str s] => optM (PySem.intText? ⟨s.toArray⟩) fun n => if s.length ≤ 640 then gives (.int n) else M.err
  | .str, [.int i] => if i.natAbs.log2 < 1920 then gives (.str (decI i)) else M.err
  | .list, [.lst xs] => fresh (.lst xs)
  | .list, [.tup xs] => fresh (.lst xs)
  | .tuple, [.lst xs] => gives (.tup xs)
  | .tuple, [.tup xs] => gives (.tup xs)
  | .all, [.lst xs] => optM (blsOf xs) fun bs => ofBool (bs.all id)
  | .any, [.lst xs] => optM (blsOf xs) fun bs => ofBool (bs.any id)
  | .sum, [.lst xs] => optM (intsOf xs) fun ns => gives (.int ns.sum)
  | _, _ => M.err
def biM (os : M (List Opd)) (g : List D → M OD) : M OD := do
  let xs ← os
  let ds ← resL xs
  g ds
section
variable {X : Cx} {P : Pm} {G : Gh} {ρ : Rho} {S : List D} {σ : L2.St} {H : Hp} {x y : V} {d e : D} {Q : VK}
theorem okChars (s : String) : (s.toList.map Char.toNat).all (· < 1114112) = true := by
  rw [List.all_eq_true]
  intro c hc
  obtain ⟨k, _, rfl⟩ := List.mem_map.mp hc
  have h := k.valid
  simp only [UInt32.isValidChar, Nat.isValidChar] at h
  have : k.toNat = k.val.toNat := rfl
  rw [decide_eq_true_eq, this]
  omega
theorem str_decI (i : Int) : ((toString i : String) : Str) = ⟨(decI i).toArray⟩ := Str.ofString_eq_toList _
theorem ints_of : ∀ {ds : List D} {ns : List Int}, intsOf ds = some ns → ds = ns.map D.int
  | [], ns, h => by simp [intsOf] at h; subst h; rfl
  | .int i :: r, ns, h => by
    simp only [intsOf, Option.map_eq_some_iff] at h
    obtain ⟨ms, h1, rfl⟩ := h
    rw [ints_of h1]; rfl
  | .non :: _, _, h => nomatch h
  | .bl _ :: _, _, h => nomatch h
  | .str _ :: _, _, h => nomatch h
  | .tup _ :: _, _, h => nomatch h
  | .lst _ :: _, _, h => nomatch h
  | .scr _ :: _, _, h => nomatch h
  | .cell _ :: _, _, h => nomatch h
theorem bls_of : ∀ {ds : List D} {ns : List Bool}, blsOf ds = some ns → ds = ns.map D.bl
  | [], ns, h => by simp [blsOf] at h; subst h; rfl
  | .bl i :: r, ns, h => by
    simp only [blsOf, Option.map_eq_some_iff] at h
    obtain ⟨ms, h1, rfl⟩ := h
    rw [bls_of h1]; rfl
  | .non :: _, _, h => nomatch h
  | .int _ :: _, _, h => nomatch h
  | .str _ :: _, _, h => nomatch h
  | .tup _ :: _, _, h => nomatch h
  | .lst _ :: _, _, h => nomatch h
  | .scr _ :: _, _, h => nomatch h
  | .cell _ :: _, _, h => nomatch h
theorem RepL.bls {K : KW} {F : Hp} {ι : List Addr} : ∀ {vs : List V} {ns : List Bool}, RepL K F ι vs (ns.map D.bl) → vs = ns.map V.bl
  | _, [], h => by cases h; rfl
  | _, n :: ns, h => by
    cases h with
    | cons a t => rw [a.toBl, RepL.bls t]; rfl
theorem foldl_max (n : Int) : ∀ ns : List Int, (∀ y ∈ n :: ns, y ≤ ns.foldl Max.max n) ∧ ns.foldl Max.max n ∈ n :: ns := by
  intro ns
  induction ns generalizing n with
  | nil => simp
  | cons m ms ih =>
    have h := ih (Max.max n m)
    rw [List.foldl_cons]
    refine ⟨fun y hy => ?_, ?_⟩
    · have h0 := h.1 (Max.max n m) (by simp)
      rcases List.mem_cons.mp hy with rfl | hy
      · omega
      · rcases List.mem_cons.mp hy with rfl | hy
        · omega
        · exact h.1 y (by simp [hy])
    · rcases List.mem_cons.mp h.2 with q | q
      · rw [q]
        by_cases hc : n ≤ m
        · rw [Int.max_eq_right hc]; simp
        · rw [Int.max_eq_left (by omega)]; simp
      · simp [q]
theorem foldl_min (n : Int) : ∀ ns : List Int, (∀ y ∈ n :: ns, ns.foldl Min.min n ≤ y) ∧ ns.foldl Min.min n ∈ n :: ns := by
  intro ns
  induction ns generalizing n with
  | nil => simp
  | cons m ms ih =>
    have h := ih (Min.min n m)
    rw [List.foldl_cons]
    refine ⟨fun y hy => ?_, ?_⟩
    · have h0 := h.1 (Min.min n m) (by simp)
      rcases List.mem_cons.mp hy with rfl | hy
      · omega
      · rcases List.mem_cons.mp hy with rfl | hy
        · omega
        · exact h.1 y (by simp [hy])
    · rcases List.mem_cons.mp h.2 with q | q
      · rw [q]
        by_cases hc : n ≤ m
        · rw [Int.min_eq_left hc]; simp
        · rw [Int.min_eq_right (by omega)]; simp
      · simp [q]
def BI.r (X : Cx) : BI → List V → Hp → VK → Prop
  | .len => fun xs H Q => ((∃ p ys, xs = [.ref p] ∧ (SqL X.K H p ys ∨ SqT X.K H p ys) ∧ Q (.int ys.length) H) ∨ (∃ z, xs = [.str z] ∧ z.length ≤ sizeLine ∧ Q (.int z.length) H)) ∨ rDlen X xs H Q
  | .max => fun xs H Q => (∃ i j, xs = [.int i, .int j] ∧ Q (.int (if j > i then j else i)) H) ∨ rMax X.K xs H Q
  | .min => fun xs H Q => (∃ i j, xs = [.int i, .int j] ∧ Q (.int (if j < i then j else i)) H) ∨ rMin X.K xs H Q
  | .int => fun xs H Q => ((∃ i, xs = [.int i] ∧ Q (.int i) H) ∨ ∃ k, xs = [.bl k] ∧ Q (.int (if k then 1 else 0)) H) ∨ (∃ a n, xs = [.str a] ∧ PySem.intText? a = some n ∧ a.length ≤ 640 ∧ Q (.int n) H)
  | .str => fun xs H Q => ∃ i, xs = [.int i] ∧ i.natAbs.log2 < 1920 ∧ Q (.str (toString i)) H
  | .list => fun xs H Q => ∃ p ys, xs = [.ref p] ∧ (SqL X.K H p ys ∨ SqT X.K H p ys) ∧ ∀ l, H l = none → Q (.ref l) (upd H l (.lst ys))
  | .tuple => fun xs H Q => ∃ p ys, xs = [.ref p] ∧ ((SqL X.K H p ys ∧ ∀ l, H l = none → Q (.ref l) (upd H l (.tup ys))) ∨ (SqT X.K H p ys ∧ Q (.ref p) H))
  | .all => rAll X.K
  | .any => rAny X.K
  | .sum => rSum X.K
theorem BI.ok (hc : X.calm = true) : ∀ f : BI, CallR X f.val (f.r X)
  | .len => CallR.or (CallR.or call_len_seq call_len_str) call_dlen
  | .max => CallR.or (call_max2 hc) (cr_max hc)
  | .min => CallR.or (call_min2 hc) (cr_min hc)
  | .int => CallR.or call_int1 call_int_str
  | .str => call_str_int
  | .list => call_list_of
  | .tuple => call_tuple_of
  | .all => cr_all hc
  | .any => cr_any hc
  | .sum => cr_sum hc
theorem PeekL.one {K : KW} {G : Gh} {H : Hp} {vs : List V} {d : D} (w : PeekL K G H vs [d]) : ∃ x, vs = [x] ∧ Peek K G H x d := by
  cases w with
  | cons a t => cases t; exact ⟨_, rfl, a⟩
theorem PeekL.two {K : KW} {G : Gh} {H : Hp} {vs : List V} {d e : D} (w : PeekL K G H vs [d, e]) : ∃ x y, vs = [x, y] ∧ Peek K G H x d ∧ Peek K G H y e := by
  cases w with
  | cons a t =>
    obtain ⟨y, rfl, h⟩ := t.one
    exact ⟨_, _, rfl, a, h⟩
theorem BI.q (hK : X.K = P.K) (hw : X.w = P.K.w) (f : BI) {vs : List V} {ds : List D} (r : R P.K P.b G ρ S σ H) (ws : PeekL P.K G H vs ds) (h : Post P (relO P) G σ (f.sem ds ρ S) Q) : f.r X vs H Q := by
  unfold BI.sem at h
  split at h
  · obtain ⟨x, rfl, w⟩ := ws.one
    obtain ⟨rfl, hs⟩ := w.str
    obtain ⟨hl, h⟩ := post_if h
    exact .inl (.inr ⟨_, rfl, by rw [LN_eq]; simpa [Str.length] using hl, post_gives h r (.int _)⟩)
  · obtain ⟨x, rfl, w⟩ := ws.one
    obtain ⟨a, us, rfl, q, l⟩ := w.lst r.fr
    exact .inl (.inl ⟨a, us, rfl, .inl (SqL.of q), by rw [l.length]; exact post_gives h r (.int _)⟩)
  · obtain ⟨x, rfl, w⟩ := ws.one
    obtain ⟨a, us, rfl, q, l⟩ := w.tup r.fr
    exact .inl (.inl ⟨a, us, rfl, .inr (by rw [hK]; exact q), by rw [l.length]; exact post_gives h r (.int _)⟩)
  · obtain ⟨x, rfl, w⟩ := ws.one
    obtain ⟨a, rfl, q⟩ := w.scr r.fr
    exact .inl (.inl ⟨a, _, rfl, .inl (by rw [hK]; exact q), by rw [List.length_map]; exact post_gives h r (.int _)⟩)
  · obtain ⟨x, rfl, w⟩ := ws.one
    obtain ⟨a, rfl, l0, l1, _, hk⟩ := w.dlook (X := X) (by rw [hK]) hw r.fr
    rcases kind_02 hk with hk | hk
    · obtain ⟨kvs, km, r1, r2⟩ := l0 hk
      have hl := r2.length
      rw [List.length_map, List.length_map] at hl
      exact .inr (.inl ⟨a, kvs, rfl, km, by rw [hl]; exact post_gives h r (.int _)⟩)
    · obtain ⟨xs, kd, e, r1, r2⟩ := l1 hk
      have hl := r2.length
      rw [List.length_map, List.length_map] at hl
      exact .inr (.inr ⟨a, xs, rfl, kd, by rw [hl]; exact post_gives h r (.int _)⟩)
  · obtain ⟨x, y, rfl, w1, w2⟩ := ws.two
    cases w1.int; cases w2.int
    exact .inl ⟨_, _, rfl, post_gives h r (.int _)⟩
  · obtain ⟨x, rfl, w⟩ := ws.one
    obtain ⟨a, us, rfl, q, l⟩ := w.lst r.fr
    obtain ⟨ns, hn, h⟩ := post_opt h
    cases ns with
    | nil => exact h.elim
    | cons n ns =>
      rw [ints_of hn] at l
      have e := l.ints
      refine .inr ⟨a, n :: ns, rfl, by rw [← e]; exact SqL.of q, by simp, fun m h1 h2 => ?_⟩
      have f := foldl_max n ns
      have : m = ns.foldl Max.max n := Int.le_antisymm (f.1 m h1) (h2 _ f.2)
      rw [this]
      exact post_gives h r (.int _)
  · obtain ⟨x, y, rfl, w1, w2⟩ := ws.two
    cases w1.int; cases w2.int
    exact .inl ⟨_, _, rfl, post_gives h r (.int _)⟩
  · obtain ⟨x, rfl, w⟩ := ws.one
    obtain ⟨a, us, rfl, q, l⟩ := w.lst r.fr
    obtain ⟨ns, hn, h⟩ := post_opt h
    cases ns with
    | nil => exact h.elim
    | cons n ns =>
      rw [ints_of hn] at l
      have e := l.ints
      refine .inr ⟨a, n :: ns, rfl, by rw [← e]; exact SqL.of q, by simp, fun m h1 h2 => ?_⟩
      have f := foldl_min n ns
      have : m = ns.foldl Min.min n := Int.le_antisymm (h2 _ f.2) (f.1 m h1)
      rw [this]
      exact post_gives h r (.int _)
  · obtain ⟨x, rfl, w⟩ := ws.one
    cases w.int
    exact .inl (.inl ⟨_, rfl, post_gives h r (.int _)⟩)
  · obtain ⟨x, rfl, w⟩ := ws.one
    cases w.bl
    exact .inl (.inr ⟨_, rfl, post_gives h r (.int _)⟩)
  · obtain ⟨x, rfl, w⟩ := ws.one
    obtain ⟨rfl, hs⟩ := w.str
    obtain ⟨n, hn, h⟩ := post_opt h
    obtain ⟨hl, h⟩ := post_if h
    exact .inr ⟨_, n, rfl, hn, by simpa [Str.length] using hl, post_gives h r (.int _)⟩
  · obtain ⟨x, rfl, w⟩ := ws.one
    cases w.int
    obtain ⟨hl, h⟩ := post_if h
    refine ⟨_, rfl, hl, ?_⟩
    rw [str_decI]
    exact post_gives h r (.str _ (okChars _))
  · obtain ⟨x, rfl, w⟩ := ws.one
    obtain ⟨a, us, rfl, q, l⟩ := w.lst r.fr
    exact ⟨a, us, rfl, .inl (SqL.of q), fun p hp => post_fresh h r hp l⟩
  · obtain ⟨x, rfl, w⟩ := ws.one
    obtain ⟨a, us, rfl, q, l⟩ := w.tup r.fr
    exact ⟨a, us, rfl, .inr (by rw [hK]; exact q), fun p hp => post_fresh h r hp l⟩
  · obtain ⟨x, rfl, w⟩ := ws.one
    obtain ⟨a, us, rfl, q, l⟩ := w.lst r.fr
    exact ⟨a, us, rfl, .inl ⟨SqL.of q, fun p hp => post_tup h r hp l⟩⟩
  · obtain ⟨x, rfl, w⟩ := ws.one
    rcases w with w | ⟨a, _, o⟩
    · obtain ⟨a, us, rfl, q, l⟩ := w.toTup
      exact ⟨_, _, rfl, .inr ⟨by rw [hK]; exact sub_t r.fr q, post_gives h r (.tup q l)⟩⟩
    · exact (o.no rfl).elim
  · obtain ⟨x, rfl, w⟩ := ws.one
    obtain ⟨a, us, rfl, q, l⟩ := w.lst r.fr
    obtain ⟨bs, hb, h⟩ := post_opt h
    rw [bls_of hb] at l
    exact ⟨a, bs, rfl, by rw [← l.bls]; exact SqL.of q, post_gives h r (.bl _)⟩
  · obtain ⟨x, rfl, w⟩ := ws.one
    obtain ⟨a, us, rfl, q, l⟩ := w.lst r.fr
    obtain ⟨bs, hb, h⟩ := post_opt h
    rw [bls_of hb] at l
    exact ⟨a, bs, rfl, by rw [← l.bls]; exact SqL.of q, post_gives h r (.bl _)⟩
  · obtain ⟨x, rfl, w⟩ := ws.one
    obtain ⟨a, us, rfl, q, l⟩ := w.lst r.fr
    obtain ⟨bs, hb, h⟩ := post_opt h
    rw [ints_of hb] at l
    exact ⟨a, bs, rfl, by rw [← l.ints]; exact SqL.of q, post_gives h r (.int _)⟩
  · exact h.elim
/-- f(e, ..), f a built-in -/
theorem call_of {r : List V → Hp → VK → Prop} {g : List D → M OD} {os : M (List Opd)} (h : ∀ {G ρ S H vs ds Q}, R P.K P.b G ρ S σ H → PeekL P.K G H vs ds → Post P (relO P) G σ (g ds ρ S) Q → r vs H Q)
    (q : tmO P (biM os g) σ H Q) : tCB r (tmG P (relPL P) os) σ H Q := by
  refine tm_imp (tm_bind (rel1 := relPL P) q) fun vs H1 ⟨G, ρ, S, xs, r1, w, q1⟩ => ?_
  obtain ⟨ds, p, q2⟩ := resL_of r1 g w q1
  exact h r1 p q2
theorem boot_BI : ∀ f : BI, bootBuiltins f.name = some f.val ∧ f.name ≠ "__name__" ∧ (f.name == ("__debug__" : Str)) = false := by
  intro f
  cases f <;> exact ⟨by decide +kernel, by decide +kernel, by decide +kernel⟩
theorem s_bi (hK : X.K = P.K) (hw : X.w = P.K.w) (hc : X.calm = true) (f : BI) {e : Expr} {es : List Expr} {os : M (List Opd)} {p pos : Pos} (hg : Gl X f.name) (hm : X.mg f.name = none) (ha : PA X (e :: es) (tmG P (relPL P) os))
    (he : starEach (e :: es) X.env = (false, eval e X.env) :: starEach es X.env) (hpl : (backTo pos (starEach es X.env)).any (·.1) = false) : PE X (.Call (.Name f.name p) (e :: es) [] pos) (tmO P (biM os f.sem)) := by
  obtain ⟨b1, b2, b3⟩ := boot_BI f
  have key : ∀ {σ H Q}, tmO P (biM os f.sem) σ H Q → tCB (f.r X) (tmG P (relPL P) os) σ H Q := fun {σ H Q} q => call_of (fun r p q => f.q hK hw r p q) q
  have hf := BI.ok hc f
  revert b1 hf
  cases hv : f.val with
  | builtin id => exact fun b1 hf => (pe_callB hf hg hm b1 ha b2 b3 he hpl).imp fun _ _ _ q => key q
  | type T => exact fun b1 hf => (pe_callTy hf hg hm b1 ha b2 b3 he hpl).imp fun _ _ _ q => key q
  | _ => cases f <;> cases hv
end
end Mi

namespace Mi
open PySem PySem.Spec PyProof.Rows L2

/-! ### x in y -/
def inStr (neg : Bool) (d : D) (z : List Nat) : M OD := match d with
  | .str [c] => ofBool (if neg then !decide (c ∈ z) else decide (c ∈ z))
  | _ => M.err
def inSeq (neg : Bool) (d : D) (ys : List D) : M OD := if D.dle 60 d && D.dleL 60 ys then ofBool (if neg then !(ys.any fun y => D.eqb y d) else ys.any fun y => D.eqb y d) else M.err
def inD (neg : Bool) (d e : D) : M OD := match e with
  | .str z => inStr neg d z
  | .lst ys => inSeq neg d ys
  | .tup ys => inSeq neg d ys
  | .dct k es => if kOk k es d = true then ofBool (if neg then !(findE es d).isSome else (findE es d).isSome) else M.err
  | _ => M.err
def rInS (neg : Bool) : R2 := fun x y H Q => ∃ (c : Nat) (z : Str), x = .str ⟨#[c]⟩ ∧ y = .str z ∧ Q (.bl (if neg then !decide (c ∈ z.cps.toList) else decide (c ∈ z.cps.toList))) H
def rInP (K : PySem.W.Frag) (neg : Bool) : R2 := fun x y H Q => ∃ d ds, Dp K H x d ∧ (Dp K H y (.list ds) ∨ Dp K H y (.tuple ds)) ∧ SeqAt.shaped d = true ∧ SeqAt.shaped (.list ds) = true ∧
  Q (.bl (if neg then !(ds.any fun y => PyData.eqv y d) else ds.any fun y => PyData.eqv y d)) H
section
variable {X : Cx} {P : Pm}
theorem shaped_plain {ds : List PyData} (h : SeqAt.shaped (.list ds) = true) : PyData.plainAll ds = true ∧ PyData.depthAll ds ≤ 63 := by
  have h1 := SeqAt.canLay_of_shaped h
  have h2 := SeqAt.depth_of_shaped h
  refine ⟨PySem.PyData.plainAll_of_canLay0 ds (by simpa [PyData.canLay0] using h1), ?_⟩
  simp only [PyData.depth] at h2
  omega
theorem op_inP (hu : X.A.units + 200 < cLine) : OpR X (compareOp .In) (rInP X.K false) := by
  intro pins s σ H x y v u Q I rx ry h
  obtain ⟨d, ds, h1, h2, s1, s2, q⟩ := h
  obtain ⟨as, r1⟩ := Dp.reads I d x v h1 rx
  obtain ⟨pl, dl⟩ := shaped_plain s2
  have hd := PySem.PyData.plain_of_canLay0 d (SeqAt.canLay_of_shaped s1)
  have hu' : X.A.units + 1 + min (PyData.depthAll ds) d.depth < cLine := by
    have := Nat.min_le_left (PyData.depthAll ds) d.depth
    omega
  rcases h2 with h2 | h2
  · obtain ⟨bs, r2⟩ := Dp.reads I _ y u h2 ry
    exact PySem.SeqAt.in_list_data r2 r1 pl hd hu' ⟨.bl _, H, I, rfl, q⟩
  · obtain ⟨bs, r2⟩ := Dp.reads I _ y u h2 ry
    exact PySem.SeqAt.in_tuple_data r2 r1 pl hd hu' ⟨.bl _, H, I, rfl, q⟩
theorem op_notInP (hu : X.A.units + 200 < cLine) : OpR X (compareOp .NotIn) (rInP X.K true) := by
  intro pins s σ H x y v u Q I rx ry h
  obtain ⟨d, ds, h1, h2, s1, s2, q⟩ := h
  obtain ⟨as, r1⟩ := Dp.reads I d x v h1 rx
  obtain ⟨pl, dl⟩ := shaped_plain s2
  have hd := PySem.PyData.plain_of_canLay0 d (SeqAt.canLay_of_shaped s1)
  have hu' : X.A.units + 1 + min (PyData.depthAll ds) d.depth < cLine := by
    have := Nat.min_le_left (PyData.depthAll ds) d.depth
    omega
  rcases h2 with h2 | h2
  · obtain ⟨bs, r2⟩ := Dp.reads I _ y u h2 ry
    exact PySem.SeqAt.notIn_list_data r2 r1 pl hd hu' ⟨.bl _, H, I, rfl, q⟩
  · obtain ⟨bs, r2⟩ := Dp.reads I _ y u h2 ry
    exact PySem.SeqAt.notIn_tuple_data r2 r1 pl hd hu' ⟨.bl _, H, I, rfl, q⟩
theorem op_inD (hu : X.A.units + 200 < cLine) : OpR X (compareOp .In) (fun x y H Q => (rInS false x y H Q ∨ rInP X.K false x y H Q) ∨ rDin X false x y H Q) := OpR.or (OpR.or op_in_sign (op_inP hu)) (op_din (by omega))
theorem op_notInD (hu : X.A.units + 200 < cLine) : OpR X (compareOp .NotIn) (fun x y H Q => (rInS true x y H Q ∨ rInP X.K true x y H Q) ∨ rDin X true x y H Q) := OpR.or (OpR.or op_notIn_sign (op_notInP hu)) (op_dnin (by omega))
theorem pyL_any (d : D) : ∀ ys : List D, ((D.pyL ys).any fun y => PyData.eqv y d.py) = ys.any fun y => D.eqb y d
  | [] => rfl
  | y :: ys => by simp only [D.pyL, List.any_cons, pyL_any d ys]; rfl
theorem q_in (hK : X.K = P.K) (hw : X.w = P.K.w) (neg : Bool) : QOk P (fun x y H Q => (rInS neg x y H Q ∨ rInP X.K neg x y H Q) ∨ rDin X neg x y H Q) (inD neg) := fun {G ρ S σ H x y d e Q} r w1 w2 h => by
  unfold inD at h
  split at h
  · rename_i z
    obtain ⟨rfl, _⟩ := w2.str
    unfold inStr at h
    split at h
    · rename_i c
      obtain ⟨rfl, _⟩ := w1.str
      exact .inl (.inl ⟨c, _, rfl, rfl, post_gives h r (.bl _)⟩)
    · exact h.elim
  · rename_i ys
    obtain ⟨c, h⟩ := post_if h
    simp only [Bool.and_eq_true] at c
    obtain ⟨a1, a2⟩ := w1.dp r.fr c.1
    obtain ⟨b1, b2⟩ := w2.dp r.fr (by simpa only [D.dle] using c.2)
    simp only [D.py] at b1 b2
    refine .inl (.inr ⟨d.py, D.pyL ys, by rw [hK]; exact a1, .inl (by rw [hK]; exact b1), a2, b2, ?_⟩)
    rw [pyL_any]
    exact post_gives h r (.bl _)
  · rename_i ys
    obtain ⟨c, h⟩ := post_if h
    simp only [Bool.and_eq_true] at c
    obtain ⟨a1, a2⟩ := w1.dp r.fr c.1
    obtain ⟨b1, b2⟩ := w2.dp r.fr (by simpa only [D.dle] using c.2)
    simp only [D.py] at b1 b2
    refine .inl (.inr ⟨d.py, D.pyL ys, by rw [hK]; exact a1, .inr (by rw [hK]; exact b1), a2, b2, ?_⟩)
    rw [pyL_any]
    exact post_gives h r (.bl _)
  · obtain ⟨ok, h⟩ := post_if h
    obtain ⟨a, o, rfl, oo, hx⟩ := w2.dget (X := X) (by rw [hK]) hw r.fr w1 ok
    rw [← oo.isSome] at h
    have q := post_gives h r (.bl _)
    rcases hx with ⟨kvs, k, rfl, km, e⟩ | ⟨xs, b, n, rfl, d, kk, e⟩
    · exact .inr (.inl ⟨a, kvs, k, rfl, rfl, km, by rw [← e]; exact q⟩)
    · exact .inr (.inr ⟨a, xs, b, n, rfl, rfl, d, kk, by rw [← e]; exact q⟩)
  · exact h.elim
end

/-! ### isinstance(x, T), T a built-in type -/
inductive Ty where
  | int | str | bool | tuple | list | dict
def Ty.name : Ty → String
  | .int => "int" | .str => "str" | .bool => "bool" | .tuple => "tuple" | .list => "list" | .dict => "dict"
inductive Kd where
  | non | bl | int | str | tup | lst | cell
def D.kd : D → Kd
  | .non => .non | .bl _ => .bl | .int _ => .int | .str _ => .str | .tup _ => .tup | .lst _ => .lst | .scr _ => .lst | .cell _ => .cell | .dct _ _ => .cell | .obj _ _ => .cell | .exn _ _ => .cell
def Kd.tyN : Kd → String
  | .non => "NoneType" | .bl => "bool" | .int => "int" | .str => "str" | .tup => "tuple" | .lst => "list" | .cell => "?"
def Ty.hasK : Ty → Kd → Bool
  | .int, .int => true
  | .int, .bl => true
  | .bool, .bl => true
  | .str, .str => true
  | .tuple, .tup => true
  | .list, .lst => true
  | _, _ => false
def Ty.has (T : Ty) (d : D) : Bool := T.hasK d.kd
def isiD (T : Ty) : D → M OD
  | .cell _ => M.err
  | .dct _ _ => M.err
  | .obj _ _ => M.err
  | .exn _ _ => M.err
  | d => ofBool (T.has d)
def isiM (o : M Opd) (T : Ty) : M OD := do
  let x ← o
  let d ← resM x
  isiD T d
section
variable {X : Cx} {P : Pm} {G : Gh} {ρ : Rho} {S : List D} {σ : L2.St} {H : Hp}
theorem kit_hasK (T : Ty) (k : Kd) (h : k ≠ .cell) : PySem.W.kitOne X.K (.type k.tyN) (.type T.name) = some (T.hasK k) := by
  cases k <;> first
    | exact absurd rfl h
    | (cases T <;> exact kit_ty (by decide +kernel))
theorem kit_has (T : Ty) (d : D) (h : d.kd ≠ .cell) : PySem.W.kitOne X.K (.type d.kd.tyN) (.type T.name) = some (T.has d) :=
  kit_hasK T d.kd h
theorem tyx_t {K : PySem.W.Frag} {a : Addr} {vs : List V} (q : SqT K H a vs) : TyX K H (.ref a) (.type "tuple") := by
  rcases q with (q | ⟨o, q⟩) | ⟨o, its, n, q, c, _⟩
  · exact .base (.tup q)
  · exact .fTuple q
  · exact .kTuple q c
theorem tyx_l {K : PySem.W.Frag} {a : Addr} {vs : List V} (q : SqL K H a vs) : TyX K H (.ref a) (.type "list") := by
  rcases q with (q | ⟨o, q⟩) | ⟨o, its, n, q, c, _⟩
  · exact .base (.lst q)
  · exact .base (.frz q)
  · exact .kList q c
theorem Peek.tyx {K : KW} {v : V} {d : D} (s : Sub G.F H) (w : Peek K G H v d) (h : d.kd ≠ .cell) : TyX K H v (.type d.kd.tyN) := by
  cases d with
  | non => cases w.non; exact .base .non
  | bl b => cases w.bl; exact .base (.bl b)
  | int b => cases w.int; exact .base (.int b)
  | str b => obtain ⟨rfl, _⟩ := w.str; exact .base (.str _)
  | tup b => obtain ⟨a, vs, rfl, q, _⟩ := w.tup s; exact tyx_t q
  | lst b => obtain ⟨a, vs, rfl, q, _⟩ := w.lst s; exact .base (.lst q)
  | scr b => obtain ⟨a, rfl, q⟩ := w.scr s; exact tyx_l q
  | _ => exact absurd rfl h
theorem boot_isi : bootBuiltins "isinstance" = some (.builtin "isinstance") := by decide +kernel
theorem boot_Ty (T : Ty) : bootBuiltins (T.name : Str) = some (.type T.name) ∧ (T.name : Str) ≠ "__name__" ∧ ((T.name : Str) == ("__debug__" : Str)) = false := by
  cases T <;> exact ⟨by decide +kernel, by decide +kernel, by decide +kernel⟩
theorem s_isi (hK : X.K = P.K) {e : Expr} {o : M Opd} {T : Ty} {p p' pos : Pos} (hg : Gl X "isinstance") (hm : X.mg "isinstance" = none) (hgT : Gl X (T.name : Str)) (hmT : X.mg (T.name : Str) = none) (ha : PE X e (tmP P o))
    (he : starEach [e, .Name (T.name : Str) p'] X.env = (false, eval e X.env) :: starEach [.Name (T.name : Str) p'] X.env) :
    PE X (.Call (.Name "isinstance" p) [e, .Name (T.name : Str) p'] [] pos) (tmO P (isiM o T)) := by
  obtain ⟨b1, b2, b3⟩ := boot_Ty T
  have hT : PE X (.Name (T.name : Str) p') (tC (.ty T.name)) := pe_bltn hgT hmT b1 (show RelV (.ty T.name) (.type T.name) from rfl) b2 b3
  refine (pe_callB call_isi hg hm boot_isi (pa_cons ha (pa_cons hT pa_nil (by rfl)) he) (by decide +kernel) (by decide +kernel) he (by rfl)).imp fun σ H Q q => ?_
  refine tm_imp (tm_bind (rel1 := relP P) q) fun v H1 ⟨G, ρ, S, x, r, w, q⟩ => ?_
  obtain ⟨d, pk, q⟩ := res_of r w q
  have hn : d.kd ≠ .cell := fun z => by cases d <;> first | exact q.elim | cases z
  refine ⟨v, .ty T.name, _, _, T.has d, rfl, .ty _, by rw [hK]; exact pk.tyx r.fr hn, kit_has T d hn, ?_⟩
  have q' : Post P (relO P) G σ (ofBool (T.has d) ρ S) Q := by cases d <;> first | exact q | exact absurd rfl hn
  exact post_gives q' r (.bl _)
end

/-! ### methods that change nothing -/
inductive MT where
  | join | split | upper | lindex | sindex
def MT.name : MT → Str
  | .join => "join" | .split => "split" | .upper => "upper" | .lindex => "index" | .sindex => "index"
def MT.T : MT → String
  | .join => "str" | .split => "str" | .upper => "str" | .lindex => "list" | .sindex => "str"
def MT.id : MT → String
  | .join => "str.join" | .split => "str.split" | .upper => "str.upper" | .lindex => "list.index" | .sindex => "str.index"
def strsOf : List D → Option (List (List Nat))
  | [] => some []
  | .str s :: r => (strsOf r).map (s :: ·)
  | _ => none
def place (x : D) : List D → Option Nat
  | [] => none
  | y :: r => if D.eqb y x then some 0 else (place x r).map (· + 1)
def MT.sem : MT → D → List D → M OD
  | .join, .str s, [.lst xs] => optM (strsOf xs) fun ys => if (ys.map (·.length)).sum + ys.length * s.length ≤ LN then gives (.str (TL.joinL s ys)) else M.err
  | .split, .str s, [.str sep] => if sep ≠ [] ∧ sep.all (· < 256) = true ∧ s.length + 2 ≤ LN then fresh (.lst ((TL.spl sep 0 [] s).map .str)) else M.err
  | .upper, .str s, [] => if s.length ≤ 5592405 ∧ (Txt.upper ⟨s.toArray⟩).cps.toList.all (· < 1114112) = true then gives (.str (Txt.upper ⟨s.toArray⟩).cps.toList) else M.err
  | .lindex, .lst xs, [y] => if D.dle 60 y && D.dleL 60 xs then optM (place y xs) fun j => gives (.int j) else M.err
  | .sindex, .str s, [.str t] => optM (Builtin.Str.occurrences ⟨s.toArray⟩ ⟨t.toArray⟩ 0 s.length 1).head? fun (j : Nat) => gives (.int j)
  | _, _, _ => M.err
def tyOk (T : String) : D → Bool
  | .str _ => T = "str"
  | .lst _ => T = "list"
  | _ => false
def mtM (T : String) (o : M Opd) (os : M (List Opd)) (g : D → List D → M OD) : M OD := do
  let x ← o
  let d0 ← resM x
  if tyOk T d0 then do
    let xs ← os
    let d ← resM x
    let ds ← resL xs
    g d ds
  else M.err
section
variable {X : Cx} {P : Pm} {G : Gh} {ρ : Rho} {S : List D} {σ : L2.St} {H : Hp}
theorem strs_of : ∀ {ds : List D} {ns : List (List Nat)}, strsOf ds = some ns → ds = ns.map D.str
  | [], ns, h => by simp [strsOf] at h; subst h; rfl
  | .str i :: r, ns, h => by
    simp only [strsOf, Option.map_eq_some_iff] at h
    obtain ⟨ms, h1, rfl⟩ := h
    rw [strs_of h1]; rfl
  | .non :: _, _, h => nomatch h
  | .bl _ :: _, _, h => nomatch h
  | .int _ :: _, _, h => nomatch h
  | .tup _ :: _, _, h => nomatch h
  | .lst _ :: _, _, h => nomatch h
  | .scr _ :: _, _, h => nomatch h
  | .cell _ :: _, _, h => nomatch h
  | .dct _ _ :: _, _, h => nomatch h
  | .obj _ _ :: _, _, h => nomatch h
  | .exn _ _ :: _, _, h => nomatch h
theorem RepL.strs {K : KW} {F : Hp} {ι : List Addr} : ∀ {vs : List V} {ns : List (List Nat)}, RepL K F ι vs (ns.map D.str) → vs = (ns.map SX.S).map V.str ∧ ∀ s ∈ ns, s.all (· < 1114112) = true
  | _, [], h => by cases h; exact ⟨rfl, fun s h => by simp at h⟩
  | _, n :: ns, h => by
    cases h with
    | cons a t =>
        obtain ⟨ea, hn⟩ := a.toStr
        obtain ⟨e1, e2⟩ := RepL.strs t
        refine ⟨by rw [ea, e1]; rfl, fun s hs => ?_⟩
        rcases List.mem_cons.mp hs with rfl | hs
        · exact hn
        · exact e2 s hs
theorem RepL.ofStrs {K : KW} {F : Hp} {ι : List Addr} : ∀ {ns : List (List Nat)}, (∀ s ∈ ns, s.all (· < 1114112) = true) → RepL K F ι ((ns.map SX.S).map V.str) (ns.map D.str)
  | [], _ => .nil
  | n :: ns, h => .cons (.str n (h n (by simp))) (RepL.ofStrs fun s hs => h s (by simp [hs]))
theorem all_join {s : List Nat} (hs : s.all (· < 1114112) = true) : ∀ {ys : List (List Nat)}, (∀ y ∈ ys, y.all (· < 1114112) = true) → (TL.joinL s ys).all (· < 1114112) = true
  | [], _ => rfl
  | [p], h => h p (by simp)
  | p :: q :: r, h => okStr (h p (by simp)) (okStr hs (all_join hs fun y hy => h y (by simp [hy])))
theorem all_spl {sep : List Nat} : ∀ (s : List Nat) (k : Nat) (acc : List Nat), acc.all (· < 1114112) = true → s.all (· < 1114112) = true → ∀ y ∈ TL.spl sep k acc s, y.all (· < 1114112) = true
  | [], k, acc, ha, _, y, hy => by
    cases k <;> (simp [TL.spl] at hy; subst hy; exact ha)
  | c :: r, 0, acc, ha, hs, y, hy => by
    have hr : r.all (· < 1114112) = true := by simp only [List.all_cons, Bool.and_eq_true] at hs; exact hs.2
    have hc : decide (c < 1114112) = true := by simp only [List.all_cons, Bool.and_eq_true] at hs; exact hs.1
    unfold TL.spl at hy
    split at hy
    · rcases List.mem_cons.mp hy with rfl | hy
      · exact ha
      · exact all_spl r _ _ rfl hr y hy
    · exact all_spl r _ _ (by rw [List.all_append, ha]; simp only [List.all_cons, hc]; rfl) hr y hy
  | c :: r, k + 1, acc, ha, hs, y, hy => by
    have hr : r.all (· < 1114112) = true := by simp only [List.all_cons, Bool.and_eq_true] at hs; exact hs.2
    unfold TL.spl at hy
    exact all_spl r _ _ ha hr y hy
end
end Mi

namespace Mi
open PySem PySem.Spec PyProof.Rows L2

def MT.r (K : PySem.W.Frag) : MT → V → List V → Hp → VK → Prop
  | .join => fun x xs H Q => ∃ a p, ∃ ys : List Str, x = .str a ∧ xs = [.ref p] ∧ (SqL K H p (ys.map V.str) ∨ SqT K H p (ys.map V.str)) ∧ (ys.map (·.length)).sum + ys.length * a.length ≤ 16777216 ∧ Q (.str (Txt.join a ys)) H
  | .split => fun x xs H Q => ∃ a b, x = .str a ∧ xs = [.str b] ∧ (b.length == 0) = false ∧ a.length + 2 ≤ sizeLine ∧ rNewStrs (Txt.split a b) H Q
  | .upper => fun x xs H Q => ∃ a, x = .str a ∧ xs = [] ∧ a.length ≤ 5592405 ∧ Q (.str (Txt.upper a)) H
  | .lindex => rIndexD K
  | .sindex => fun x xs H Q => ∃ a b i rest, x = .str a ∧ xs = [.str b] ∧ Builtin.Str.occurrences a b 0 a.length 1 = i :: rest ∧ Q (.int (i : Nat)) H
section
variable {X : Cx} {P : Pm} {G : Gh} {ρ : Rho} {S : List D} {σ : L2.St} {H : Hp}
theorem MT.ok (hu : X.A.units + 200 < cLine) : ∀ f : MT, MtR X f.id (f.r X.K)
  | .join => mt_join
  | .split => mt_split
  | .upper => mt_upper
  | .lindex => mt_indexD (by omega)
  | .sindex => mt_sindex
theorem MT.facts : ∀ f : MT, PlainAttrs f.T ∧ Slot f.T f.name f.id ∧ typeOf (.builtin f.id) = pure (.type "method_descriptor")
  | .join => ⟨F.plainAttrs_str, F.slot_str_join, F.type_str_join⟩
  | .split => ⟨F.plainAttrs_str, F.slot_str_split, F.type_str_split⟩
  | .upper => ⟨F.plainAttrs_str, F.slot_str_upper, F.type_str_upper⟩
  | .lindex => ⟨F.plainAttrs_list, F.slot_list_index, F.type_list_index⟩
  | .sindex => ⟨F.plainAttrs_str, F.slot_str_index, F.type_str_index⟩
theorem place_of {x : D} : ∀ {xs : List D} {j : Nat}, place x xs = some j → ∃ z, (D.pyL xs)[j]? = some z ∧ PyData.eqv z x.py = true ∧ ∀ (m : Nat) (z' : PyData), m < j → (D.pyL xs)[m]? = some z' → PyData.eqv z' x.py = false
  | [], _, h => nomatch h
  | y :: r, j, h => by
    unfold place at h
    by_cases hc : D.eqb y x = true
    · rw [if_pos hc] at h
      cases h
      exact ⟨y.py, rfl, hc, fun m z' hm => absurd hm (Nat.not_lt_zero _)⟩
    · rw [if_neg hc] at h
      simp only [Option.map_eq_some_iff] at h
      obtain ⟨k, hk, rfl⟩ := h
      obtain ⟨z, h1, h2, h3⟩ := place_of hk
      refine ⟨z, by simp only [D.pyL]; simpa using h1, h2, fun m z' hm hz => ?_⟩
      cases m with
      | zero =>
        simp only [D.pyL, List.getElem?_cons_zero, Option.some.injEq] at hz
        subst hz
        simpa [D.eqb] using hc
      | succ m => exact h3 m z' (by omega) (by simpa only [D.pyL, List.getElem?_cons_succ] using hz)
theorem occ_head {a b : Str} {n j : Nat} (h : (Builtin.Str.occurrences a b 0 n 1).head? = some j) : ∃ rest, Builtin.Str.occurrences a b 0 n 1 = j :: rest := by
  cases e : Builtin.Str.occurrences a b 0 n 1 with
  | nil => rw [e] at h; cases h
  | cons i rest =>
    rw [e] at h
    cases h
    exact ⟨rest, rfl⟩
theorem MT.q (hK : X.K = P.K) (f : MT) {x : V} {vs : List V} {d : D} {ds : List D} {Q : VK} (r : R P.K P.b G ρ S σ H) (w : Peek P.K G H x d) (ws : PeekL P.K G H vs ds) (h : Post P (relO P) G σ (f.sem d ds ρ S) Q) : f.r X.K x vs H Q := by
  unfold MT.sem at h
  split at h
  · obtain ⟨rfl, hs⟩ := w.str
    obtain ⟨y, rfl, w2⟩ := ws.one
    obtain ⟨a, us, rfl, q, l⟩ := w2.lst r.fr
    obtain ⟨ys, hy, h⟩ := post_opt h
    rw [strs_of hy] at l
    obtain ⟨e1, e2⟩ := l.strs
    obtain ⟨hl, h⟩ := post_if h
    refine ⟨_, a, ys.map SX.S, rfl, rfl, .inl (by rw [← e1]; exact SqL.of q), ?_, ?_⟩
    · rw [SX.lens, List.length_map]
      simpa [Str.length, LN] using hl
    · rw [show ∀ s : List Nat, (⟨s.toArray⟩ : Str) = SX.S s from fun _ => rfl, SX.join_S]
      exact post_gives h r (.str _ (all_join hs e2))
  · obtain ⟨rfl, hs⟩ := w.str
    obtain ⟨y, rfl, w2⟩ := ws.one
    obtain ⟨rfl, ht⟩ := w2.str
    obtain ⟨⟨c1, c2, c3⟩, h⟩ := post_if h
    refine ⟨_, _, rfl, rfl, ?_, by rw [LN_eq]; simpa [Str.length] using c3, fun p hp => ?_⟩
    · simp [Str.length, c1]
    · rw [show ∀ s : List Nat, (⟨s.toArray⟩ : Str) = SX.S s from fun _ => rfl, show ∀ s : List Nat, (⟨s.toArray⟩ : Str) = SX.S s from fun _ => rfl, SX.split_S c1 c2]
      exact post_fresh h r hp (RepL.ofStrs (all_spl _ _ _ rfl hs))
  · obtain ⟨rfl, hs⟩ := w.str
    cases ws
    obtain ⟨⟨hl, hz⟩, h⟩ := post_if h
    refine ⟨_, rfl, rfl, by simpa [Str.length] using hl, ?_⟩
    exact post_gives (x := .str (Txt.upper _)) h r (.str _ hz)
  · obtain ⟨y, rfl, w2⟩ := ws.one
    obtain ⟨a, us, rfl, q, l⟩ := w.lst r.fr
    obtain ⟨c, h⟩ := post_if h
    simp only [Bool.and_eq_true] at c
    obtain ⟨j, hj, h⟩ := post_opt h
    obtain ⟨a1, a2⟩ := w2.dp r.fr c.1
    obtain ⟨b1, b2⟩ := w.dp r.fr (by simpa only [D.dle] using c.2)
    simp only [D.py] at b1 b2
    obtain ⟨z, h1, h2, h3⟩ := place_of hj
    exact ⟨a, y, _, _, j, z, rfl, rfl, by rw [hK]; exact b1, by rw [hK]; exact a1, b2, a2, h1, h2, h3, post_gives h r (.int _)⟩
  · obtain ⟨rfl, hs⟩ := w.str
    obtain ⟨y, rfl, w2⟩ := ws.one
    obtain ⟨rfl, ht⟩ := w2.str
    obtain ⟨j, hj, h⟩ := post_opt h
    obtain ⟨rest, e⟩ := occ_head hj
    exact ⟨_, _, j, rest, rfl, rfl, by simpa [Str.length] using e, post_gives h r (.int _)⟩
  · exact h.elim
theorem Peek.ty {T : String} {v : V} {d : D} (hK : X.K = P.K) (r : R P.K P.b G ρ S σ H) (w : Peek P.K G H v d) (h : tyOk T d = true) : tyV X.K T v H := by
  cases d with
  | str s =>
    obtain ⟨rfl, _⟩ := w.str
    show T = "str"
    simpa [tyOk] using h
  | lst s =>
    obtain ⟨a, vs, rfl, q, _⟩ := w.lst r.fr
    exact .inl ⟨by simpa [tyOk] using h, vs, SqL.of q⟩
  | _ => cases h
theorem mt_of {T : String} {rr : V → List V → Hp → VK → Prop} {g : D → List D → M OD} {mo : M Opd} {os : M (List Opd)} {Q : VK} (hK : X.K = P.K)
    (h : ∀ {G ρ S H x vs d ds Q}, R P.K P.b G ρ S σ H → Peek P.K G H x d → PeekL P.K G H vs ds → Post P (relO P) G σ (g d ds ρ S) Q → rr x vs H Q) (q : tmO P (mtM T mo os g) σ H Q) : tBM X.K T rr (tmP P mo) (tmG P (relPL P) os) σ H Q := by
  obtain ⟨G, ρ, S, r, q⟩ := q
  refine tm_imp (tm_at (rel1 := relP P) r q) fun x H1 ⟨G1, ρ1, S1, o1, r1, w1, l1, q1⟩ => ?_
  obtain ⟨d0, p0, q2⟩ := res_of r1 w1 q1
  rw [ite_ap] at q2
  by_cases hc : tyOk T d0 = true
  · rw [if_pos hc] at q2
    refine ⟨p0.ty hK r1 hc, tm_imp (tm_at (rel1 := relPL P) r1 q2) fun vs H2 ⟨G2, ρ2, S2, xs, r2, w2, l2, q3⟩ => ?_⟩
    obtain ⟨d, p, q4⟩ := res_of r2 (monoP (P := P) (ρ := ρ1) (ρ' := ρ2) (H := H1) (H' := H2) l2 w1) q3
    obtain ⟨ds, ps, q5⟩ := resL_of r2 (fun ds => g d ds) w2 q4
    exact h r2 p ps q5
  · rw [if_neg hc] at q2
    exact q2.elim
variable {o e : Expr} {es : List Expr} {mo : M Opd} {os : M (List Opd)} {apos cpos : Pos}
theorem s_mt (hK : X.K = P.K) (hu : X.A.units + 200 < cLine) (f : MT) (ho : PE X o (tmP P mo)) (ha : PA X (e :: es) (tmG P (relPL P) os))
    (hbase : attributeBase o f.name X.env (eval o X.env) = eval o X.env)
    (hfew : ((backTo cpos (starEach (e :: es) X.env)).all (fun x => !x.1) && (backToKw cpos (keywordEach [] X.env)).all (fun x => x.1.isSome)
      && decide ((e :: es).length + ([] : List Keyword).length + (if ([] : List Keyword).isEmpty then 0 else 1) < 30)) = true)
    (hline : (apos.endLine == cpos.line) = true) (hs : starEach (e :: es) X.env = (false, eval e X.env) :: starEach es X.env) (hplain : (backTo cpos (starEach es X.env)).any (·.1) = false) :
    PE X (.Call (.Attribute o f.name apos) (e :: es) [] cpos) (tmO P (mtM f.T mo os f.sem)) := by
  obtain ⟨f1, f2, f3⟩ := f.facts
  exact (pe_bm f1 f2 f3 (MT.ok hu f) ho ha hbase hfew hline hs hplain).imp fun σ H Q q => mt_of hK (fun r w ws h => f.q hK r w ws h) q
theorem s_mt0 (hK : X.K = P.K) (hu : X.A.units + 200 < cLine) (f : MT) (ho : PE X o (tmP P mo)) (hbase : attributeBase o f.name X.env (eval o X.env) = eval o X.env) (hline : (apos.endLine == cpos.line) = true) :
    PE X (.Call (.Attribute o f.name apos) [] [] cpos) (tmO P (mtM f.T mo (pure []) f.sem)) := by
  obtain ⟨f1, f2, f3⟩ := f.facts
  refine (pe_bm0 f1 f2 f3 (MT.ok hu f) ho hbase hline).imp fun σ H Q q => ?_
  refine tm_imp (mt_of (X := X) hK (fun r w ws h => f.q hK r w ws h) q) fun x H1 ⟨t, G, ρ, S, r, q⟩ => ⟨t, ?_⟩
  exact q [] H1 G (Gh.le.refl _) r .nil
end

/-! ### a variable's own object, or the cell that it names -/
def topM {α : Type} (i : Nat) (f : D → M α) : M α := fun ρ S => match ρ[i]? with
  | some (some (true, d)) => f d ρ S
  | some (some (false, .cell n)) => (match S[n]? with
    | some d => f d ρ S
    | none => .err)
  | _ => .err
def putM (i : Nat) (d : D) : M Unit := fun ρ S => match ρ[i]? with
  | some (some (true, _)) => .ok () (ρ.set i (some (true, d))) S
  | some (some (false, .cell n)) => .ok () ρ (S.set n d)
  | _ => .err
section
variable {P : Pm} {G : Gh} {ρ : Rho} {S : List D} {σ : L2.St} {H : Hp} {i : Nat}
theorem top_of {α ν : Type} {rel : Rl α ν} {f : D → M α} {v : V} {Q : ν → Hp → Prop} (r : R P.K P.b G ρ S σ H) (w : σ[i]? = some (some v)) (h : Post P rel G σ (topM i f ρ S) Q) :
    ∃ a d, v = .ref a ∧ Own P.K G H a d ∧ Post P rel G σ (f d ρ S) Q ∧ ∀ d' o, Own P.K G (upd H a o) a d' → ∃ ρ' S', R P.K P.b G ρ' S' σ (upd H a o) ∧ ∀ {β μ : Type} {rel' : Rl β μ} {f' : Unit → M β} {Q' : μ → Hp → Prop}, Post P rel' G σ ((putM i d' >>= f') ρ S) Q' → Post P rel' G σ (f' () ρ' S') Q' := by
  unfold topM at h
  cases e : ρ[i]? with
  | none => rw [e] at h; exact h.elim
  | some x =>
    cases x with
    | none => rw [e] at h; exact h.elim
    | some x =>
      obtain ⟨own, d⟩ := x
      rw [e] at h
      obtain ⟨v', e1, h1, h2⟩ := r.vs i own d e
      rw [w] at e1
      cases e1
      cases own with
      | true =>
        obtain ⟨a, rfl, o, l⟩ := h2 rfl
        refine ⟨a, d, rfl, o, h, fun d' ob ow => ⟨_, _, r.putVar e w ow, fun {β μ rel' f' Q'} hp => ?_⟩⟩
        rw [bind_ap] at hp
        unfold putM at hp
        rw [e] at hp
        exact hp
      | false =>
        have rp := h1 rfl
        cases d with
        | cell n =>
          dsimp only at h
          cases es : S[n]? with
          | none => rw [es] at h; exact h.elim
          | some d =>
            rw [es] at h
            obtain ⟨a, rfl, q⟩ := rp.toCell
            obtain ⟨a', q', ow, _⟩ := r.cl n d es
            rw [q] at q'
            cases q'
            refine ⟨_, d, rfl, ow, h, fun d' ob ow' => ⟨_, _, r.putCell es q ow', fun {β μ rel' f' Q'} hp => ?_⟩⟩
            rw [bind_ap] at hp
            unfold putM at hp
            rw [e] at hp
            exact hp
        | _ => exact h.elim
end
/-- methods that change a variable's object -/
inductive VT where
  | append | pop | popAt | insert | extend | reverse | clear
def VT.name : VT → Str
  | .append => "append" | .pop => "pop" | .popAt => "pop" | .insert => "insert" | .extend => "extend" | .reverse => "reverse" | .clear => "clear"
def VT.id : VT → String
  | .append => "list.append" | .pop => "list.pop" | .popAt => "list.pop" | .insert => "list.insert" | .extend => "list.extend" | .reverse => "list.reverse" | .clear => "list.clear"
/-- the new object, and what is given -/
def VT.sem : VT → D → List D → Option (D × D)
  | .append, .lst xs, [d] => if xs.length < LN then some (.lst (xs ++ [d]), .non) else none
  | .pop, .lst xs, [] => (xs[xs.length - 1]?).map fun d => (.lst xs.dropLast, d)
  | .popAt, .lst xs, [.int i] => if 0 ≤ i ∧ i < xs.length ∧ xs.length ≤ LN then (xs[i.toNat]?).map fun d => (.lst (xs.eraseIdx i.toNat), d) else none
  | .insert, .lst xs, [.int i, d] => if 0 ≤ i ∧ i ≤ LN ∧ xs.length < LN then some (.lst (xs.take i.toNat ++ [d] ++ xs.drop i.toNat), .non) else none
  | .extend, .lst xs, [.lst ys] => if xs.length + ys.length ≤ LN then some (.lst (xs ++ ys), .non) else none
  | .reverse, .lst xs, [] => some (.lst xs.reverse, .non)
  | .clear, .lst _, [] => some (.lst [], .non)
  | _, _, _ => none
def isLst : D → Bool
  | .lst _ => true
  | _ => false
def vmM (i : Nat) (f : VT) (ms : M (List D)) : M OD := do
  let x ← chkM i
  topM i fun d0 => if isLst d0 then do
    let ds ← ms
    topM i fun d => optM (f.sem d ds) fun p => do
      putM i p.1
      gives p.2
  else M.err
def VT.r : VT → V → List V → Hp → VK → Prop
  | .append => rAppend | .pop => rPop | .popAt => rPopAt | .extend => rExtend | .reverse => rReverse | .clear => rClear
  | .insert => fun x vs H Q => ∃ (l : Addr) (xs : List V) (i : Int) (y : V), x = .ref l ∧ vs = [.int i, y] ∧ H l = some (.lst xs) ∧ xs.length < sizeLine ∧ 0 ≤ i ∧ i < 2 ^ 63 ∧ Q .non (upd H l (.lst (xs.take i.toNat ++ [y] ++ xs.drop i.toNat)))
section
variable {X : Cx} {P : Pm} {G : Gh} {ρ : Rho} {S : List D} {σ : L2.St} {H : Hp} {i : Nat}
theorem VT.ok : ∀ f : VT, MtR X f.id f.r
  | .append => mt_append | .pop => mt_pop | .popAt => mt_popAt | .insert => mt_insert | .extend => mt_extend | .reverse => mt_reverse | .clear => mt_clear
theorem VT.facts : ∀ f : VT, Slot "list" f.name f.id ∧ typeOf (.builtin f.id) = pure (.type "method_descriptor")
  | .append => ⟨F.slot_list_append, F.type_list_append⟩
  | .pop => ⟨F.slot_list_pop, F.type_list_pop⟩
  | .popAt => ⟨F.slot_list_pop, F.type_list_pop⟩
  | .insert => ⟨F.slot_list_insert, F.type_list_insert⟩
  | .extend => ⟨F.slot_list_extend, F.type_list_extend⟩
  | .reverse => ⟨F.slot_list_reverse, F.type_list_reverse⟩
  | .clear => ⟨F.slot_list_clear, F.type_list_clear⟩
theorem RepL.dropLast {K : KW} {F : Hp} {ι : List Addr} {vs : List V} {ds : List D} (r : RepL K F ι vs ds) : RepL K F ι vs.dropLast ds.dropLast := by
  rw [List.dropLast_eq_take, List.dropLast_eq_take, r.length]; exact r.take _
theorem RepL.erase {K : KW} {F : Hp} {ι : List Addr} : ∀ {vs : List V} {ds : List D} (n : Nat), RepL K F ι vs ds → RepL K F ι (vs.eraseIdx n) (ds.eraseIdx n)
  | _, _, _, .nil => .nil
  | _, _, 0, .cons _ t => t
  | _, _, n + 1, .cons a t => .cons a (RepL.erase n t)
theorem RepL.rev {K : KW} {F : Hp} {ι : List Addr} : ∀ {vs : List V} {ds : List D}, RepL K F ι vs ds → RepL K F ι vs.reverse ds.reverse
  | _, _, .nil => .nil
  | _, _, .cons a t => by rw [List.reverse_cons, List.reverse_cons]; exact (RepL.rev t).append (.cons a .nil)
theorem post_put {a : Addr} {d' g : D} {o : HO} {x : V} {Q : VK} (k : ∀ d' o, Own P.K G (upd H a o) a d' → ∃ ρ' S', R P.K P.b G ρ' S' σ (upd H a o) ∧ ∀ {β μ : Type} {rel' : Rl β μ} {f' : Unit → M β} {Q' : μ → Hp → Prop}, Post P rel' G σ ((putM i d' >>= f') ρ S) Q' → Post P rel' G σ (f' () ρ' S') Q')
    (h : Post P (relO P) G σ ((putM i d' >>= fun _ => gives g) ρ S) Q) (ow : Own P.K G (upd H a o) a d') (w : Rep P.K G.F G.ι x g) : Q x (upd H a o) := by
  obtain ⟨ρ', S', r', k'⟩ := k d' o ow
  exact post_gives (k' h) r' w
theorem RepL.one {K : KW} {F : Hp} {ι : List Addr} {vs : List V} {d : D} (w : RepL K F ι vs [d]) : ∃ x, vs = [x] ∧ Rep K F ι x d := by
  cases w with
  | cons a t => cases t; exact ⟨_, rfl, a⟩
theorem RepL.two {K : KW} {F : Hp} {ι : List Addr} {vs : List V} {d e : D} (w : RepL K F ι vs [d, e]) : ∃ x y, vs = [x, y] ∧ Rep K F ι x d ∧ Rep K F ι y e := by
  cases w with
  | cons a t =>
    obtain ⟨y, rfl, h⟩ := t.one
    exact ⟨_, _, rfl, a, h⟩
theorem VT.q (f : VT) {v : V} {vs : List V} {ds : List D} {Q : VK} (r : R P.K P.b G ρ S σ H) (w : σ[i]? = some (some v)) (ws : RepL P.K G.F G.ι vs ds)
    (h : Post P (relO P) G σ (topM i (fun d => optM (f.sem d ds) fun p => do putM i p.1; gives p.2) ρ S) Q) : f.r v vs H Q := by
  obtain ⟨a, d, rfl, ow, h, k⟩ := top_of r w h
  obtain ⟨p, hp, h⟩ := post_opt h
  unfold VT.sem at hp
  have l31 : LN < 2 ^ 63 := by decide
  split at hp
  · obtain ⟨us, q, l⟩ := own_lst ow
    obtain ⟨x, rfl, w1⟩ := ws.one
    split at hp
    · rename_i hl
      cases hp
      exact ⟨a, us, x, rfl, rfl, q, by rw [LN_eq, l.length]; exact hl, post_put k h (own_mk upd_same (l.append (.cons w1 .nil))) .non⟩
    · cases hp
  · obtain ⟨us, q, l⟩ := own_lst ow
    cases ws
    simp only [Option.map_eq_some_iff] at hp
    obtain ⟨d', e1, rfl⟩ := hp
    obtain ⟨x, e2, e3⟩ := l.at e1
    exact ⟨a, us, x, rfl, rfl, q, by rw [l.length]; exact e2, post_put k h (own_mk upd_same (l.dropLast)) e3⟩
  · rename_i xs j _
    obtain ⟨us, q, l⟩ := own_lst ow
    obtain ⟨x, rfl, w1⟩ := ws.one
    cases w1.toInt
    split at hp
    · rename_i hl
      simp only [Option.map_eq_some_iff] at hp
      obtain ⟨d', e1, rfl⟩ := hp
      obtain ⟨x, e2, e3⟩ := l.at e1
      have hj : ixN us.length j = some j.toNat := by unfold ixN; rw [if_pos hl.1, if_pos (by rw [l.length]; exact hl.2.1)]
      exact ⟨a, us, j, j.toNat, x, rfl, rfl, q, by omega, by omega, (ixN_seq hj).1, e2, post_put k h (own_mk upd_same (l.erase _)) e3⟩
    · cases hp
  · rename_i xs j d' _
    obtain ⟨us, q, l⟩ := own_lst ow
    obtain ⟨x, y, rfl, w1, w2⟩ := ws.two
    cases w1.toInt
    split at hp
    · rename_i hl
      cases hp
      exact ⟨a, us, j, y, rfl, rfl, q, by rw [LN_eq, l.length]; exact hl.2.2, hl.1, by omega, post_put k h (own_mk upd_same (((l.take _).append (.cons w2 .nil)).append (l.drop _))) .non⟩
    · cases hp
  · obtain ⟨us, q, l⟩ := own_lst ow
    obtain ⟨x, rfl, w1⟩ := ws.one
    obtain ⟨a2, us2, rfl, q2, l2⟩ := w1.toLst
    · split at hp
      · rename_i hl
        cases hp
        exact ⟨a, _, us, _, rfl, rfl, q, r.fr _ _ q2, by rw [LN_eq, l.length, l2.length]; exact hl, post_put k h (own_mk upd_same (l.append l2)) .non⟩
      · cases hp
  · obtain ⟨us, q, l⟩ := own_lst ow
    cases ws
    cases hp
    exact ⟨a, us, rfl, rfl, q, post_put k h (own_mk upd_same (l.rev)) .non⟩
  · obtain ⟨us, q, l⟩ := own_lst ow
    cases ws
    cases hp
    exact ⟨a, us, rfl, rfl, q, post_put k h (own_mk upd_same (.nil : RepL _ _ _ [] [])) .non⟩
  · cases hp
theorem vm_of {f : VT} {ms : M (List D)} {Q : VK} (q : tmO P (vmM i f ms) σ H Q) : tBM X.K "list" f.r (tVar i) (tmL P ms) σ H Q := by
  obtain ⟨G, ρ, S, r, q⟩ := q
  unfold vmM at q
  rw [bind_ap] at q
  unfold chkM at q
  cases e : ρ[i]? with
  | none => rw [e] at q; exact q.elim
  | some y =>
    cases y with
    | none => rw [e] at q; exact q.elim
    | some y =>
      rw [e] at q
      obtain ⟨v, e1, _⟩ := r.vs i y.1 y.2 e
      refine ⟨v, e1, ?_⟩
      obtain ⟨a, d, rfl, ow, h, _⟩ := top_of r e1 q
      rw [ite_ap] at h
      cases d with
      | lst ds =>
        obtain ⟨us, q, l⟩ := own_lst ow
        refine ⟨.inl ⟨rfl, us, SqL.of q⟩, tm_imp (tm_at (rel1 := relL P) r h) fun vs H2 ⟨G2, ρ2, S2, xs, r2, w2, l2, q3⟩ => ?_⟩
        exact f.q r2 e1 w2 q3
      | _ => exact h.elim
variable {e : Expr} {es : List Expr} {ms : M (List D)} {x : Str} {p apos cpos : Pos}
theorem s_vm (f : VT) (hN : X.N[i]? = some x) (hv : Vis X.env.scope x) (hd : (x == ("__debug__" : Str)) = false) (hcd : (x == ("__classdict__" : Str)) = false) (ha : PA X (e :: es) (tmL P ms))
    (hbase : attributeBase (.Name x p) f.name X.env (eval (.Name x p) X.env) = eval (.Name x p) X.env)
    (hfew : ((backTo cpos (starEach (e :: es) X.env)).all (fun x => !x.1) && (backToKw cpos (keywordEach [] X.env)).all (fun x => x.1.isSome)
      && decide ((e :: es).length + ([] : List Keyword).length + (if ([] : List Keyword).isEmpty then 0 else 1) < 30)) = true)
    (hline : (apos.endLine == cpos.line) = true) (hs : starEach (e :: es) X.env = (false, eval e X.env) :: starEach es X.env) (hplain : (backTo cpos (starEach es X.env)).any (·.1) = false) :
    PE X (.Call (.Attribute (.Name x p) f.name apos) (e :: es) [] cpos) (tmO P (vmM i f ms)) :=
  (pe_bm F.plainAttrs_list f.facts.1 f.facts.2 f.ok (pe_var hN hv hd hcd) ha hbase hfew hline hs hplain).imp fun σ H Q q => vm_of q
theorem s_vm0 (f : VT) (hN : X.N[i]? = some x) (hv : Vis X.env.scope x) (hd : (x == ("__debug__" : Str)) = false) (hcd : (x == ("__classdict__" : Str)) = false)
    (hbase : attributeBase (.Name x p) f.name X.env (eval (.Name x p) X.env) = eval (.Name x p) X.env) (hline : (apos.endLine == cpos.line) = true) :
    PE X (.Call (.Attribute (.Name x p) f.name apos) [] [] cpos) (tmO P (vmM i f (pure []))) := by
  refine (pe_bm0 F.plainAttrs_list f.facts.1 f.facts.2 f.ok (pe_var hN hv hd hcd) hbase hline).imp fun σ H Q q => ?_
  obtain ⟨v, e1, t, G, ρ, S, r, q⟩ := vm_of (X := X) q
  exact ⟨v, e1, t, q [] H G (Gh.le.refl _) r .nil⟩
end
end Mi

namespace Mi
open PySem PySem.Spec PyProof.Rows L2

/-! ### an object that nobody knows (a list that a comprehension fills) -/
def Bs.with (b : Bs) (p : Addr) (o : HO) : Bs := ⟨upd b.B p o, b.F0, b.ι0⟩
/-- p is nobody's -/
structure Lone (b : Bs) (G : Gh) (ρ : Rho) (σ : L2.St) (p : Addr) : Prop where
  f : G.F p = none
  c : p ∉ G.ι
  b : b.B p = none
  v : ∀ (i : Nat) (d' : D), ρ[i]? = some (some (true, d')) → σ[i]? ≠ some (some (V.ref p))
section
variable {K : KW} {b : Bs} {G : Gh} {ρ : Rho} {S : List D} {σ : L2.St} {H : Hp} {p : Addr} {o u : HO}
theorem R.lone (r : R K b G ρ S σ H) (h : H p = none) : Lone b G ρ σ p := ⟨(r.loose h).1, (r.loose h).2.1, (r.loose h).2.2, r.noVar h⟩
theorem R.f00 (r : R K b G ρ S σ H) (h : G.F p = none) : b.F0 p = none := r.f0.none h
theorem R.c00 (r : R K b G ρ S σ H) (h : p ∉ G.ι) : p ∉ b.ι0 := fun hm => by
  obtain ⟨t, e, _⟩ := r.i0
  exact h (by rw [e]; exact List.mem_append_left _ hm)
theorem R.ext (r : R K b G ρ S σ H) (l : Lone b G ρ σ p) (h : H p = some o) : R K (b.with p o) G ρ S σ H := by
  refine ⟨r.fr, r.cn, r.cl, r.nd, r.f0, fun a e1 e2 => ?_, ?_, fun a u e hm => ?_, r.ln, fun i own d e => ?_, r.dj⟩
  · by_cases ha : a = p
    · subst ha; exact l.f
    · exact r.fn a e1 (by have : (b.with p o).B a = b.B a := upd_ne ha; rw [this] at e2; exact e2)
  · obtain ⟨t, e, ht⟩ := r.i0
    refine ⟨t, e, fun a ha => ?_⟩
    have hne : a ≠ p := fun z => l.c (by rw [e, ← z]; exact List.mem_append_right _ ha)
    exact (upd_ne hne).trans (ht a ha)
  · by_cases ha : a = p
    · subst ha
      have e' : upd b.B a o a = some u := e
      rw [upd_same] at e'
      cases e'
      exact h
    · exact r.kp a u ((upd_ne ha).symm.trans e) hm
  · obtain ⟨v, e1, h1, h2⟩ := r.vs i own d e
    refine ⟨v, e1, h1, fun z => ?_⟩
    obtain ⟨a, q, w, l1, l2, l3⟩ := h2 z
    subst z
    have hne : a ≠ p := fun z => l.v i d e (by rw [e1, q, z])
    exact ⟨a, q, w, l1, l2, (upd_ne hne).trans l3⟩
theorem R.unext (r : R K (b.with p o) G ρ S σ H) (h0 : b.B p = none) (h1 : b.F0 p = none) (h2 : p ∉ b.ι0) : R K b G ρ S σ H ∧ Lone b G ρ σ p ∧ H p = some o := by
  have sub : ∀ {a u}, b.B a = some u → (b.with p o).B a = some u := fun {a u} e => by
    have hne : a ≠ p := fun z => by rw [z, h0] at e; cases e
    exact (upd_ne hne).trans e
  have non : ∀ {a}, (b.with p o).B a = none → b.B a = none ∧ a ≠ p := fun {a} e => by
    have hne : a ≠ p := fun z => by
      have e' : upd b.B p o a = none := e
      rw [z, upd_same] at e'; cases e'
    exact ⟨(upd_ne hne).symm.trans e, hne⟩
  have bp : (b.with p o).B p = some o := upd_same
  refine ⟨⟨r.fr, r.cn, r.cl, r.nd, r.f0, fun a e1 e2 => ?_, ?_, fun a u e hm => r.kp a u (sub e) hm, r.ln, fun i own d e => ?_, r.dj⟩, ⟨?_, fun hm => ?_, h0, fun i d' e z => ?_⟩, r.kp p o bp h2⟩
  · refine r.fn a e1 ?_
    cases q : b.B a with
    | none => exact absurd q e2
    | some u => rw [sub q]; exact fun z => nomatch z
  · obtain ⟨t, e, ht⟩ := r.i0
    exact ⟨t, e, fun a ha => (non (ht a ha)).1⟩
  · obtain ⟨v, e1, g1, g2⟩ := r.vs i own d e
    exact ⟨v, e1, g1, fun z => let ⟨a, q, w, l1, l2, l3⟩ := g2 z; ⟨a, q, w, l1, l2, (non l3).1⟩⟩
  · exact r.fn p h1 (by rw [bp]; exact fun z => nomatch z)
  · obtain ⟨t, e, ht⟩ := r.i0
    rw [e] at hm
    rcases List.mem_append.mp hm with z | z
    · exact h2 z
    · exact (non (ht p z)).2 rfl
  · obtain ⟨v, e1, _, g2⟩ := r.vs i true d' e
    obtain ⟨a, q, w, l1, l2, l3⟩ := g2 rfl
    rw [z] at e1
    cases e1
    cases q
    exact (non l3).2 rfl
/-- it is written -/
theorem R.other (r : R K b G ρ S σ H) (l : Lone b G ρ σ p) (o : HO) : R K b G ρ S σ (upd H p o) := by
  have keep : ∀ {x}, x ≠ p → upd H p o x = H x := fun h => upd_ne h
  refine ⟨fun x u q => (keep fun z => by rw [z, l.f] at q; cases q).trans (r.fr x u q), r.cn, fun n d e => ?_, r.nd, r.f0, r.fn, r.i0, fun x u q hm => (keep fun z => by rw [z, l.b] at q; cases q).trans (r.kp x u q hm), r.ln, fun j own' d'' e' => ?_, r.dj⟩
  · obtain ⟨x, c1, c2, c3⟩ := r.cl n d e
    exact ⟨x, c1, c2.mono (Gh.le.refl G) (keep fun z => l.c (z ▸ List.mem_of_getElem? c1)), c3⟩
  · obtain ⟨v', g1, g2, g3⟩ := r.vs j own' d'' e'
    refine ⟨v', g1, g2, fun z => ?_⟩
    obtain ⟨x, gx, go, gl⟩ := g3 z
    subst z
    exact ⟨x, gx, go.mono (Gh.le.refl G) (keep fun z => l.v j d'' e' (by rw [g1, gx, z])), gl⟩
end

/-! ### what is walked -/
/-- a base that knows more -/
structure Bs.up (b b' : Bs) : Prop where
  B : ∀ a o, b.B a = some o → b'.B a = some o
  ι : b'.ι0 = b.ι0
theorem Bs.up.refl (b : Bs) : b.up b := ⟨fun _ _ h => h, rfl⟩
theorem Bs.up.add {b : Bs} {p : Addr} (h : b.B p = none) (o : HO) : b.up (b.with p o) := ⟨fun a u e => (upd_ne (fun z => by rw [z, h] at e; cases e)).trans e, rfl⟩
/-- the turns of an iterator -/
def ItOk (P : Pm) (G : Gh) (J : It) (ds : List D) : Prop := ∀ (b : Bs) (G' : Gh) (ρ : Rho) (S : List D) (σ : L2.St) (H : Hp), G.le G' → P.b.up b → R P.K b G' ρ S σ H →
  (∀ (i : Nat) (d : D), ds[i]? = some d → J.go i H ∧ ∀ (x : V) (H' : Hp), J.yld i H x H' → ∃ G'', G'.le G'' ∧ R P.K b G'' ρ S σ H' ∧ Rep P.K G''.F G''.ι x d ∧ ∀ p, H p ≠ none → H' p = H p) ∧ J.stop ds.length H
def PostI (P : Pm) (G : Gh) (σ : L2.St) (r : Res (List D)) (Rr : It → Hp → Prop) : Prop := match r with
  | .ok ds ρ' S' => ∀ (J : It) (H' : Hp) (G' : Gh), G.le G' → R P.K P.b G' ρ' S' σ H' → ItOk P G' J ds → Rr J H'
  | .exc c vs ρ' S' => ∀ (cls : Value) (dd : Option Addr) (H' : Hp) (G' : Gh), G.le G' → R P.K P.b G' ρ' S' σ H' → XRep P G' H' c vs cls dd → P.W cls dd σ H'
  | .err => False
def tiG (P : Pm) (m : M (List D)) : TI := fun σ H Rr => ∃ G ρ S, R P.K P.b G ρ S σ H ∧ PostI P G σ (m ρ S) Rr
theorem PostI.weak {P : Pm} {G G1 : Gh} {σ : L2.St} {r : Res (List D)} {Rr : It → Hp → Prop} (h : PostI P G σ r Rr) (le : G.le G1) : PostI P G1 σ r Rr := by
  cases r with
  | ok a ρ S => exact fun v H G' l => h v H G' (le.trans l)
  | exc c vs ρ S => exact fun cls dd H G' l => h cls dd H G' (le.trans l)
  | err => exact h
def itemsD : D → M (List D)
  | .lst xs => pure xs
  | .tup xs => pure xs
  | .scr ns => pure (ns.map .int)
  | .str s => pure (s.map fun c => .str [c])
  | _ => M.err
def itM (m : M OD) : M (List D) := do
  let d ← m.val
  itemsD d
def rngD (i j : Int) : List D := (List.range (j - i).toNat).map fun (k : Nat) => .int (i + k)
def rng1A : List D → M (List D)
  | [.int j] => if j.natAbs < 2 ^ 62 then pure (rngD 0 j) else M.err
  | _ => M.err
def rng2A : List D → M (List D)
  | [.int i, .int j] => if i.natAbs < 2 ^ 62 ∧ j.natAbs < 2 ^ 62 then pure (rngD i j) else M.err
  | _ => M.err
def itOs (os : M (List Opd)) (f : List D → M (List D)) : M (List D) := do
  let xs ← os
  let ds ← resL xs
  f ds
def enumD (xs : List D) : List D := xs.mapIdx fun i x => .tup [.int i, x]
def enumM (ms : M (List D)) : M (List D) := do
  let ds ← ms
  match ds with
  | [.lst xs] => pure (enumD xs)
  | _ => M.err
theorem _root_.L2.PI.imp {X : Cx} {tg e : Expr} {t t' : TI} (h : PI X tg e t) (k : ∀ σ H Q, t' σ H Q → t σ H Q) : PI X tg e t' := ⟨fun pins s σ H Q I q => h.run pins s σ H Q I (k _ _ _ q)⟩
section
variable {X : Cx} {P : Pm} {G : Gh} {ρ : Rho} {S : List D} {σ : L2.St} {H : Hp} {tg e : Expr} {m : M OD}
theorem ti_bind {α ν : Type} {rel1 : Rl α ν} {n : M α} {f : α → M (List D)} {Rr : It → Hp → Prop} (h : tiG P (n >>= f) σ H Rr) :
    tmG P rel1 n σ H fun v H1 => ∃ G1 ρ1 S1 a, R P.K P.b G1 ρ1 S1 σ H1 ∧ rel1 G1 ρ1 σ H1 a v ∧ PostI P G1 σ (f a ρ1 S1) Rr := by
  obtain ⟨G, ρ, S, r, h⟩ := h
  refine ⟨G, ρ, S, r, ?_⟩
  rw [bind_ap] at h
  cases e : n ρ S with
  | ok a ρ1 S1 =>
    rw [e] at h
    dsimp only at h
    exact fun v H1 G1 le r1 w => ⟨G1, ρ1, S1, a, r1, w, PostI.weak h le⟩
  | exc c vs ρ1 S1 => rw [e] at h; exact h
  | err => rw [e] at h; exact h
def iAny (K : PySem.W.Frag) (te : TE) : TI := fun σ H Rr => te σ H fun x H1 =>
  (∃ a, x = .ref a ∧ (∃ xs, SqL K H1 a xs) ∧ Rr (Itl K a) H1) ∨ (∃ a, x = .ref a ∧ (∃ xs, SqT K H1 a xs) ∧ Rr (Itt K a) H1) ∨ ∃ z, x = .str z ∧ Rr (Its z) H1
theorem pi_any {te : TE} (he : PE X e te) : PI X tg e (iAny X.K te) := by
  refine ⟨fun pins s σ H Rr I h => ?_⟩
  refine thn (he.run pins s σ H _ I h) fun v s1 ⟨x, H1, I1, r1, q1⟩ => ?_
  rcases q1 with ⟨a, e, ⟨xs, hq⟩, q⟩ | ⟨a, e, ⟨xs, hq⟩, q⟩ | ⟨z, e, q⟩
  · subst e
    cases r1
    obtain ⟨its, rv, p, hz⟩ := I1.list hq
    exact wpAny_pyIter_list p.isList (pi_one (tk := s1.toks) I1 _ (turn_list a _) ⟨_, Heap.get?_push_size _ rfl, rfl, rfl⟩ q)
  · subst e
    cases r1
    obtain ⟨its, rv, p, hz⟩ := I1.tuple hq
    exact wpAny_pyIter_tuple (show s1.heap.IsTuple a its.toArray from p) (pi_one (tk := s1.toks) I1 _ (turn_tuple a _) ⟨_, Heap.get?_push_size _ rfl, rfl, rfl⟩ q)
  · subst e
    obtain ⟨t, rfl⟩ := r1
    cases ha : z.cps.all (· < 128)
    · exact wpAny_pyIter_wide ha (pi_one (tk := s1.toks) I1 _ (turn_str _ z t "str_iterator" (.inr rfl)) ⟨_, Heap.get?_push_size _ rfl, rfl, rfl⟩ q)
    · exact wpAny_pyIter_ascii ha (pi_one (tk := s1.toks) I1 _ (turn_str _ z t "str_ascii_iterator" (.inl rfl)) ⟨_, Heap.get?_push_size _ rfl, rfl, rfl⟩ q)
theorem itok_list {a : Addr} {vs : List V} {ds : List D} (q : G.F a = some (.lst vs)) (l : RepL P.K G.F G.ι vs ds) : ItOk P G (Itl P.K a) ds := fun b G' ρ S σ H le _ r => by
  have hq : H a = some (.lst vs) := r.fr _ _ (le.sub _ _ q)
  refine ⟨fun i d e => ?_, vs, SqL.of hq, by rw [l.length]; exact Nat.le_refl _⟩
  obtain ⟨x, e1, e2⟩ := l.at e
  refine ⟨⟨vs, x, SqL.of hq, e1⟩, fun y H' hy => ?_⟩
  obtain ⟨rfl, hy⟩ := hy
  have := hy vs (SqL.of hq)
  rw [e1] at this
  cases this
  exact ⟨G', Gh.le.refl _, r, e2.mono le, fun _ _ => rfl⟩
theorem itok_scr {a : Addr} {ns : List Int} (q : SqL P.K G.F a (ns.map V.int)) : ItOk P G (Itl P.K a) (ns.map .int) := fun b G' ρ S σ H le _ r => by
  have hq : SqL P.K H a (ns.map V.int) := sub_l r.fr (sub_l le.sub q)
  refine ⟨fun i d e => ?_, _, hq, by simp⟩
  obtain ⟨k, e1, rfl⟩ : ∃ k, ns[i]? = some k ∧ D.int k = d := by
    rw [List.getElem?_map] at e
    cases h : ns[i]? with
    | none => rw [h] at e; cases e
    | some k => rw [h] at e; exact ⟨k, rfl, Option.some.inj e⟩
  have e2 : (ns.map V.int)[i]? = some (.int k) := by rw [List.getElem?_map, e1]; rfl
  refine ⟨⟨_, .int k, hq, e2⟩, fun y H' hy => ?_⟩
  obtain ⟨rfl, hy⟩ := hy
  have := hy _ hq
  rw [e2] at this
  cases this
  exact ⟨G', Gh.le.refl _, r, .int k, fun _ _ => rfl⟩
theorem itok_tup {a : Addr} {vs : List V} {ds : List D} (q : SqT P.K G.F a vs) (l : RepL P.K G.F G.ι vs ds) : ItOk P G (Itt P.K a) ds := fun b G' ρ S σ H le _ r => by
  have hq : SqT P.K H a vs := sub_t r.fr (sub_t le.sub q)
  refine ⟨fun i d e => ?_, vs, hq, by rw [l.length]; exact Nat.le_refl _⟩
  obtain ⟨x, e1, e2⟩ := l.at e
  refine ⟨⟨vs, x, hq, e1⟩, fun y H' hy => ?_⟩
  obtain ⟨rfl, hy⟩ := hy
  have := hy vs hq
  rw [e1] at this
  cases this
  exact ⟨G', Gh.le.refl _, r, e2.mono le, fun _ _ => rfl⟩
theorem itok_str {s : List Nat} (hs : s.all (· < 1114112) = true) : ItOk P G (Its ⟨s.toArray⟩) (s.map fun c => .str [c]) := fun b G' ρ S σ H le _ r => by
  refine ⟨fun i d e => ?_, by show s.toArray.size ≤ _; simp⟩
  obtain ⟨k, e1, rfl⟩ : ∃ k, s[i]? = some k ∧ D.str [k] = d := by
    rw [List.getElem?_map] at e
    cases h : s[i]? with
    | none => rw [h] at e; cases e
    | some k => rw [h] at e; exact ⟨k, rfl, Option.some.inj e⟩
  have hi : i < s.length := (List.getElem?_eq_some_iff.mp e1).1
  refine ⟨by show i < s.toArray.size; simpa using hi, fun y H' hy => ?_⟩
  obtain ⟨rfl, c, hc, rfl⟩ := hy
  have hc' : s[i]? = some c := by simpa using hc
  rw [e1] at hc'
  cases hc'
  exact ⟨G', Gh.le.refl _, r, .str [k] (by simp [of_decide_eq_true (List.all_eq_true.mp hs k (List.mem_of_getElem? e1))]), fun _ _ => rfl⟩
theorem itok_rng {i : Int} {n : Nat} : ItOk P G (Itr i n) ((List.range n).map fun (k : Nat) => .int (i + k)) := fun b G' ρ S σ H le _ r => by
  refine ⟨fun k d e => ?_, by show n ≤ _; simp⟩
  rw [List.getElem?_map] at e
  have hk : k < n := by
    cases h : (List.range n)[k]? with
    | none => rw [h] at e; cases e
    | some z => simpa using (List.getElem?_eq_some_iff.mp h).1
  rw [List.getElem?_range hk] at e
  cases e
  refine ⟨hk, fun y H' hy => ?_⟩
  obtain ⟨rfl, rfl⟩ := hy
  exact ⟨G', Gh.le.refl _, r, .int _, fun _ _ => rfl⟩
theorem itok_enum {a : Addr} {vs : List V} {ds : List D} (q : G.F a = some (.lst vs)) (l : RepL P.K G.F G.ι vs ds) : ItOk P G (Ite P.K a) (enumD ds) := fun b G' ρ S σ H le _ r => by
  have hq : H a = some (.lst vs) := r.fr _ _ (le.sub _ _ q)
  refine ⟨fun i d e => ?_, vs, SqL.of hq, by unfold enumD; rw [List.length_mapIdx, l.length]; exact Nat.le_refl _⟩
  unfold enumD at e
  rw [List.getElem?_mapIdx] at e
  cases h : ds[i]? with
  | none => rw [h] at e; cases e
  | some k =>
    rw [h] at e
    cases e
    obtain ⟨x, e1, e2⟩ := l.at h
    refine ⟨⟨vs, x, SqL.of hq, e1⟩, fun y H' hy => ?_⟩
    obtain ⟨T, z, rfl, hT, rfl, hz⟩ := hy
    have := hz vs (SqL.of hq)
    rw [e1] at this
    cases this
    obtain ⟨G'', le2, r2, w2⟩ := R.newTup (P := { K := P.K, b := b, cv := P.cv, W := P.W }) r hT (vs := [.int i, x]) (ds := [.int i, k]) (.cons (.int _) (.cons (e2.mono le) .nil))
    exact ⟨G'', le2, r2, w2, fun p hp => upd_ne fun z => hp (z ▸ hT)⟩
theorem pi_val (hK : X.K = P.K) (h : PE X e (tmO P m)) : PI X tg e (tiG P (itM m)) := by
  refine (pi_any (PE.val h)).imp fun σ H Rr q => tm_imp (ti_bind (rel1 := relV P) q) fun x H1 ⟨G, ρ, S, d, r, w, q⟩ => ?_
  have w : Rep P.K G.F G.ι x d := w
  cases d with
  | lst xs =>
    obtain ⟨a, us, rfl, z, l⟩ := w.toLst
    exact .inl ⟨_, rfl, ⟨_, SqL.of (r.fr _ _ z)⟩, by rw [hK]; exact q _ H1 G (Gh.le.refl _) r (itok_list z l)⟩
  | tup xs =>
    obtain ⟨a, us, rfl, z, l⟩ := w.toTup
    exact .inr (.inl ⟨_, rfl, ⟨_, by rw [hK]; exact sub_t r.fr z⟩, by rw [hK]; exact q _ H1 G (Gh.le.refl _) r (itok_tup z l)⟩)
  | scr xs =>
    obtain ⟨a, rfl, z⟩ := w.toScr
    exact .inl ⟨_, rfl, ⟨_, by rw [hK]; exact sub_l r.fr z⟩, by rw [hK]; exact q _ H1 G (Gh.le.refl _) r (itok_scr z)⟩
  | str s =>
    obtain ⟨rfl, hs⟩ := w.toStr
    exact .inr (.inr ⟨_, rfl, q _ H1 G (Gh.le.refl _) r (itok_str hs)⟩)
  | _ => exact q.elim
theorem resL_ev (r : R P.K P.b G ρ S σ H) : ∀ {xs : List Opd} {vs : List V}, relPL P G ρ σ H xs vs → (∃ ds, resL xs ρ S = .ok ds ρ S ∧ PeekL P.K G H vs ds) ∨ resL xs ρ S = .err
  | [], _, w => by cases w; exact .inl ⟨[], rfl, .nil⟩
  | x :: xs, _, w => by
    cases w with
    | cons w1 w2 =>
      have u : resL (x :: xs) ρ S = match resM x ρ S with
        | .ok d ρ' S' => (match resL xs ρ' S' with
          | .ok ds ρ'' S'' => .ok (d :: ds) ρ'' S''
          | .exc c vs ρ'' S'' => .exc c vs ρ'' S''
          | .err => .err)
        | .exc c vs ρ' S' => .exc c vs ρ' S'
        | .err => .err := by
        show M.bnd (resM x) (fun d => M.bnd (resL xs) fun ds => M.pur (d :: ds)) ρ S = _
        unfold M.bnd M.pur
        cases resM x ρ S with
        | ok a ρ1 S1 =>
          dsimp only
          cases resL xs ρ1 S1 <;> rfl
        | exc => rfl
        | err => rfl
      rcases resM_ev r w1 with ⟨d, e1, p1⟩ | e1
      · rcases resL_ev r w2 with ⟨ds, e2, p2⟩ | e2
        · exact .inl ⟨d :: ds, by rw [u, e1]; dsimp only; rw [e2], .cons p1 p2⟩
        · exact .inr (by rw [u, e1]; dsimp only; rw [e2])
      · exact .inr (by rw [u, e1])
variable {x : Str} {p pos : Pos} {a b : Expr} {os : M (List Opd)}
theorem posti_if {c : Prop} [Decidable c] {n : M (List D)} {Rr : It → Hp → Prop} (h : PostI P G σ ((if c then n else M.err) ρ S) Rr) : c ∧ PostI P G σ (n ρ S) Rr := by
  by_cases hc : c
  · rw [if_pos hc] at h; exact ⟨hc, h⟩
  · rw [if_neg hc] at h; exact h.elim
theorem tios {f : List D → M (List D)} {Rr : It → Hp → Prop} (q : tiG P (itOs os f) σ H Rr) : tmG P (relPL P) os σ H fun vs H1 => ∃ G ρ S ds, R P.K P.b G ρ S σ H1 ∧ PeekL P.K G H1 vs ds ∧ PostI P G σ (f ds ρ S) Rr := by
  refine tm_imp (ti_bind (rel1 := relPL P) q) fun vs H1 ⟨G, ρ, S, xs, r, w, q⟩ => ?_
  rw [bind_ap] at q
  rcases resL_ev r w with ⟨ds, e1, pl⟩ | e1
  · rw [e1] at q
    exact ⟨G, ρ, S, ds, r, pl, q⟩
  · rw [e1] at q
    exact q.elim
theorem s_rng1 (hg : Gl X "range") (hm : X.mg "range" = none) (ha : PA X [a] (tmG P (relPL P) os)) (hs : starEach [a] X.env = [(false, eval a X.env)]) : PI X tg (.Call (.Name "range" p) [a] [] pos) (tiG P (itOs os rng1A)) := by
  refine (pi_range1 hg hm ha hs).imp fun σ H Rr q => tm_imp (tios q) fun vs H1 ⟨G, ρ, S, ds, r, pl, q⟩ => ?_
  unfold rng1A at q
  split at q
  · rename_i j
    obtain ⟨y, rfl, pk⟩ := pl.one
    cases pk.int
    obtain ⟨hj, q⟩ := posti_if q
    have := itok_rng (P := P) (G := G) (i := 0) (n := j.toNat)
    exact ⟨j, rfl, by omega, by omega, q _ H1 G (Gh.le.refl _) r (by unfold rngD; rw [Int.sub_zero]; exact this)⟩
  · exact q.elim
theorem s_rng2 (hg : Gl X "range") (hm : X.mg "range" = none) (ha : PA X [a, b] (tmG P (relPL P) os)) (hs : starEach [a, b] X.env = [(false, eval a X.env), (false, eval b X.env)]) (hs2 : starEach [b] X.env = [(false, eval b X.env)]) :
    PI X tg (.Call (.Name "range" p) [a, b] [] pos) (tiG P (itOs os rng2A)) := by
  refine (pi_range2 hg hm ha hs hs2).imp fun σ H Rr q => tm_imp (tios q) fun vs H1 ⟨G, ρ, S, ds, r, pl, q⟩ => ?_
  unfold rng2A at q
  split at q
  · rename_i i j
    obtain ⟨y, z, rfl, pk, pk2⟩ := pl.two
    cases pk.int
    cases pk2.int
    obtain ⟨hj, q⟩ := posti_if q
    exact ⟨i, j, rfl, by omega, q _ H1 G (Gh.le.refl _) r itok_rng⟩
  · exact q.elim
theorem s_enum {elts : List Expr} {kk : Nat} {tpos : Pos} {ms : M (List D)} (hK : X.K = P.K) (hg : Gl X "enumerate") (hm : X.mg "enumerate" = none) (ha : PA X [e] (tmL P ms)) (hs : starEach [e] X.env = [(false, eval e X.env)]) :
    PI X (.Tuple elts kk tpos) (.Call (.Name "enumerate" p) [e] [] pos) (tiG P (enumM ms)) := by
  refine (pi_enum hg hm ha hs).imp fun σ H Rr q => tm_imp (ti_bind (rel1 := relL P) q) fun vs H1 ⟨G, ρ, S, ds, r, w, q⟩ => ?_
  have w : RepL P.K G.F G.ι vs ds := w
  split at q
  · obtain ⟨x, rfl, w1⟩ := w.one
    obtain ⟨a, us, rfl, z, l⟩ := w1.toLst
    exact ⟨_, _, rfl, SqL.of (r.fr _ _ z), by rw [hK]; exact q _ H1 G (Gh.le.refl _) r (itok_enum z l)⟩
  · exact q.elim
end

/-! ### targets -/
/-- a name, or names that a tuple is laid into -/
inductive Tg where
  | one (i : Nat)
  | tup (is : List Nat)
  /-- a name, and names that the second thing is laid into -/
  | two (i : Nat) (js : List Nat)
def setMany : List Nat → List D → Rho → Rho
  | i :: is, d :: ds, ρ => setMany is ds (ρ.set i (some (false, d)))
  | _, _, ρ => ρ
def setManyV : List Nat → List V → L2.St → L2.St
  | i :: is, d :: ds, σ => setManyV is ds (σ.set i (some d))
  | _, _, σ => σ
def Tg.put (t : Tg) (d : D) (ρ : Rho) : Option Rho := match t with
  | .one i => some (ρ.set i (some (false, d)))
  | .tup is => match d with
    | .tup ds => if ds.length = is.length then some (setMany is ds ρ) else none
    | _ => none
  | .two i js => match d with
    | .tup [a, .tup ds] => if ds.length = js.length then some (setMany js ds (ρ.set i (some (false, a)))) else none
    | _ => none
/-- the reading: what target does to the slots -/
def tgG (P : Pm) (t : Tg) : TG := fun v σ H Q => ∃ G ρ S d ρ', R P.K P.b G ρ S σ H ∧ Rep P.K G.F G.ι v d ∧ t.put d ρ = some ρ' ∧ ∀ σ' , R P.K P.b G ρ' S σ' H → (match t with | .one i => σ' = σ.set i (some v) | .tup is => ∃ vs, σ' = setManyV is vs σ | .two _ _ => True) → Q σ' H
theorem _root_.L2.PG.imp {X : Cx} {tg : Expr} {t t' : TG} (h : PG X tg t) (k : ∀ v σ H Q, t' v σ H Q → t v σ H Q) : PG X tg t' := ⟨fun pins s σ H v u Q I r q => h.run pins s σ H v u Q I r (k _ _ _ _ q)⟩
section
variable {X : Cx} {P : Pm} {G : Gh} {ρ : Rho} {S : List D} {σ : L2.St} {H : Hp} {tg e : Expr} {m : M OD} {x : Str} {p pos : Pos} {i : Nat}
theorem s_tg1 (hN : X.N.Nodup) (hi : X.N[i]? = some x) (hx : Loc X.env.scope x) (hf : X.fn x = true ∨ X.env.scope.names.lookup x = some .local) : PG X (.Name x pos) (tgG P (.one i)) :=
  (pg_name hN hi hx hf).imp fun v σ H Q ⟨G, ρ, S, d, ρ', r, w, e, q⟩ => by
    cases e
    exact q _ (r.store (VOk.fz w) i) rfl
/-- names in a row -/
def gMany : List Nat → TGs
  | [] => gNil
  | i :: is => gCons (gName i) (gMany is)
theorem gMany_of : ∀ {is : List Nat} {vs : List V} {ds : List D} {ρ : Rho} {σ : L2.St} {Q : L2.St → Hp → Prop}, R P.K P.b G ρ S σ H → RepL P.K G.F G.ι vs ds → ds.length = is.length →
    (∀ σ', R P.K P.b G (setMany is ds ρ) S σ' H → σ' = setManyV is vs σ → Q σ' H) → gMany is vs σ H Q
  | [], _, _, ρ, σ, Q, r, w, hl, h => by
    cases w with
    | nil => exact ⟨rfl, h _ r rfl⟩
    | cons a t => cases hl
  | i :: is, _, _, ρ, σ, Q, r, w, hl, h => by
    cases w with
    | nil => cases hl
    | cons a t => exact ⟨_, _, rfl, gMany_of (r.store (VOk.fz a) i) t (by simpa using hl) h⟩
theorem s_tgT {es : List Expr} {k : Nat} {is : List Nat} (hK : X.K = P.K) (hc : X.calm = true) (h : PGs X es (gMany is)) (hn : (assignEach es X.env).length = is.length) (hst : (assignEach es X.env).findIdx? (·.1) = none) : PG X (.Tuple es k pos) (tgG P (.tup is)) :=
  (pg_tup hc h hn hst).imp fun v σ H Q ⟨G, ρ, S, d, ρ', r, w, e, q⟩ => by
    cases d with
    | tup ds =>
      have e : (if ds.length = is.length then some (setMany is ds ρ) else none) = some ρ' := e
      by_cases hl : ds.length = is.length
      · rw [if_pos hl] at e
        cases e
        obtain ⟨a, us, rfl, z, l⟩ := w.toTup
        · exact ⟨_, _, rfl, by rw [hK]; exact sub_t r.fr z, by rw [l.length]; exact hl, gMany_of r l hl fun σ' r' es => q σ' r' ⟨_, es⟩⟩
      · rw [if_neg hl] at e
        cases e
    | _ => cases e
end

/-! ### [elt for target in iter if test] -/
def wipeR (ρ : Rho) : List Nat → Rho
  | [] => ρ
  | v :: vs => (wipeR ρ vs).set v none
/-- behind it: its own names as they were -/
def backR (ρ0 ρ1 : Rho) : List Nat → Rho
  | [] => ρ1
  | v :: vs => (backR ρ0 ρ1 vs).set v (match ρ0[v]? with
    | some (some (false, d)) => some (false, d)
    | _ => none)
def turnM (tg : Tg) (cond : Option (M OD)) (elt : M OD) (x : D) : M (Option D) := fun ρ S => match tg.put x ρ with
  | none => .err
  | some ρ' => (do
    let b ← (match cond with
      | none => pure true
      | some c => M.test c)
    if b then do
      let d ← M.val elt
      pure (some d)
    else pure none : M (Option D)) ρ' S
def compL (tg : Tg) (cond : Option (M OD)) (elt : M OD) (own : List Nat) : List D → List D → M (List D)
  | [], acc => pure acc
  | x :: xs, acc => fun ρ S => match turnM tg cond elt x (wipeR ρ own) S with
    | .ok o ρ' S' => compL tg cond elt own xs (match o with | some d => acc ++ [d] | none => acc) ρ' S'
    | _ => .err
def compM (it : M (List D)) (tg : Tg) (cond : Option (M OD)) (elt : M OD) (own : List Nat) : M OD := fun ρ S => match it ρ S with
  | .ok ds ρ0 S0 => (match compL tg cond elt own ds [] ρ0 S0 with
    | .ok acc ρ1 S1 => if acc.length ≤ LN then .ok (true, .lst acc) (backR ρ0 ρ1 own) S1 else .err
    | _ => .err)
  | .exc c vs ρ' S' => .exc c vs ρ' S'
  | .err => .err

def condM : Option (M OD) → M Bool
  | none => pure true
  | some c => M.test c
def restM (cond : Option (M OD)) (elt : M OD) : M (Option D) := do
  let b ← condM cond
  if b then do
    let d ← M.val elt
    pure (some d)
  else pure none
theorem turnM_eq (tg : Tg) (cond : Option (M OD)) (elt : M OD) (x : D) (ρ : Rho) (S : List D) : turnM tg cond elt x ρ S = match tg.put x ρ with
  | none => .err
  | some ρ' => restM cond elt ρ' S := by
  unfold turnM restM
  cases cond <;> rfl
def Tg.inn (t : Tg) (own : List Nat) : Prop := match t with
  | .one i => i ∈ own
  | .tup is => ∀ i ∈ is, i ∈ own
  | .two _ _ => False
theorem wipeR_get {ρ : Rho} {own : List Nat} {j : Nat} : (wipeR ρ own)[j]? = if j ∈ own ∧ j < ρ.length then some none else ρ[j]? := by
  induction own with
  | nil => simp [wipeR]
  | cons v vs ih =>
    have hl : (wipeR ρ vs).length = ρ.length := by
      clear ih
      induction vs with
      | nil => rfl
      | cons a t ih => unfold wipeR; rw [List.length_set, ih]
    unfold wipeR
    by_cases hv : v = j
    · subst hv
      by_cases h2 : v < ρ.length
      · rw [List.getElem?_set_self (by rw [hl]; exact h2), if_pos ⟨by simp, h2⟩]
      · rw [List.getElem?_eq_none (by rw [List.length_set, hl]; omega), if_neg (fun z => h2 z.2), List.getElem?_eq_none (by omega)]
    · rw [List.getElem?_set_ne hv, ih]
      have e : (j ∈ v :: vs) = (j ∈ vs) := by simp [Ne.symm hv]
      simp only [e]
theorem wipe_get {σ : L2.St} {own : List Nat} {j : Nat} : (wipe σ own)[j]? = if j ∈ own ∧ j < σ.length then some none else σ[j]? := by
  induction own with
  | nil => simp [wipe]
  | cons v vs ih =>
    unfold wipe
    by_cases hv : v = j
    · subst hv
      by_cases h2 : v < σ.length
      · rw [List.getElem?_set_self (by rw [wipe_length]; exact h2), if_pos ⟨by simp, h2⟩]
      · rw [List.getElem?_eq_none (by rw [List.length_set, wipe_length]; omega), if_neg (fun z => h2 z.2), List.getElem?_eq_none (by omega)]
    · rw [List.getElem?_set_ne hv, ih]
      have e : (j ∈ v :: vs) = (j ∈ vs) := by simp [Ne.symm hv]
      simp only [e]
theorem backR_len {ρ0 ρ1 : Rho} : ∀ {own : List Nat}, (backR ρ0 ρ1 own).length = ρ1.length
  | [] => rfl
  | v :: vs => by unfold backR; rw [List.length_set, backR_len]
theorem backR_get {ρ0 ρ1 : Rho} {own : List Nat} {j : Nat} (hj : j < ρ1.length) : (backR ρ0 ρ1 own)[j]? = if j ∈ own then some (match ρ0[j]? with
    | some (some (false, d)) => some (false, d)
    | _ => none) else ρ1[j]? := by
  induction own with
  | nil => simp [backR]
  | cons v vs ih =>
    unfold backR
    by_cases hv : v = j
    · subst hv
      rw [List.getElem?_set_self (by rw [backR_len]; exact hj), if_pos (by simp)]
    · rw [List.getElem?_set_ne hv, ih]
      have e : (j ∈ v :: vs) = (j ∈ vs) := by simp [Ne.symm hv]
      simp only [e]
theorem setManyV_get {j : Nat} : ∀ {is : List Nat} {vs : List V} {σ : L2.St}, j ∉ is → (setManyV is vs σ)[j]? = σ[j]?
  | [], vs, σ, h => by cases vs <;> rfl
  | i :: is, [], σ, h => rfl
  | i :: is, v :: vs, σ, h => by
    simp only [List.mem_cons, not_or] at h
    unfold setManyV
    rw [setManyV_get h.2, List.getElem?_set_ne (Ne.symm h.1)]
theorem setManyV_len : ∀ {is : List Nat} {vs : List V} {σ : L2.St}, (setManyV is vs σ).length = σ.length
  | [], vs, σ => by cases vs <;> rfl
  | i :: is, [], σ => rfl
  | i :: is, v :: vs, σ => by unfold setManyV; rw [setManyV_len, List.length_set]
section
variable {K : KW} {b : Bs} {G G1 : Gh} {ρ ρ0 : Rho} {S S0 : List D} {σ : L2.St} {H H1 : Hp} {own : List Nat}
theorem R.wipe (r : R K b G ρ S σ H) : ∀ own : List Nat, R K b G (wipeR ρ own) S (L2.wipe σ own) H
  | [] => r
  | v :: vs => (r.wipe vs).unset v none
theorem R.back (r0 : R K b G1 ρ0 S0 σ H1) (le : G1.le G) (r : R K b G (wipeR ρ own) S (L2.wipe σ own) H) (hl : ρ.length = σ.length) : R K b G (backR ρ0 ρ own) S σ H := by
  have get : ∀ {j : Nat} {ow : Bool} {d : D}, (backR ρ0 ρ own)[j]? = some (some (ow, d)) → (j ∈ own ∧ ow = false ∧ ρ0[j]? = some (some (false, d))) ∨ (j ∉ own ∧ (wipeR ρ own)[j]? = some (some (ow, d)) ∧ (L2.wipe σ own)[j]? = σ[j]?) := fun {j ow d} e => by
    have hj : j < ρ.length := by
      have := (List.getElem?_eq_some_iff.mp e).1
      rw [backR_len] at this
      exact this
    rw [backR_get hj] at e
    by_cases hm : j ∈ own
    · rw [if_pos hm] at e
      split at e
      · rename_i d' he
        cases e
        exact .inl ⟨hm, rfl, he⟩
      · cases e
    · rw [if_neg hm] at e
      exact .inr ⟨hm, by rw [wipeR_get, if_neg (fun z => hm z.1)]; exact e, by rw [wipe_get, if_neg (fun z => hm z.1)]⟩
  refine ⟨r.fr, r.cn, r.cl, r.nd, r.f0, r.fn, r.i0, r.kp, by rw [backR_len]; exact hl, fun j ow d e => ?_, fun i j d d' a n e1 e2 => ?_⟩
  · rcases get e with ⟨hm, rfl, he⟩ | ⟨hm, he, hs⟩
    · obtain ⟨v, q1, q2, _⟩ := r0.vs j false d he
      exact ⟨v, q1, fun _ => (q2 rfl).mono le, fun z => nomatch z⟩
    · obtain ⟨v, q1, q2, q3⟩ := r.vs j ow d he
      exact ⟨v, by rw [← hs]; exact q1, q2, q3⟩
  · rcases get e1 with ⟨_, z, _⟩ | ⟨_, he, hs⟩
    · cases z
    rcases get e2 with ⟨_, z, _⟩ | ⟨_, he', hs'⟩
    · cases z
    rw [← hs, ← hs']
    exact r.dj i j d d' a n he he'
theorem Lone.wipe {p : Addr} (l : Lone b G ρ σ p) (hl : ρ.length = σ.length) : Lone b G (wipeR ρ own) (L2.wipe σ own) p := ⟨l.f, l.c, l.b, fun i d' e z => by
  rw [wipeR_get] at e
  rw [wipe_get, ← hl] at z
  split at e
  · cases e
  · rename_i hn
    rw [if_neg hn] at z
    exact l.v i d' e z⟩
theorem Lone.back {p : Addr} (l : Lone b G (wipeR ρ own) (L2.wipe σ own) p) (hl : ρ.length = σ.length) : Lone b G (backR ρ0 ρ own) σ p := ⟨l.f, l.c, l.b, fun i d' e z => by
  have hj : i < ρ.length := by
    have := (List.getElem?_eq_some_iff.mp e).1
    rw [backR_len] at this
    exact this
  rw [backR_get hj] at e
  by_cases hm : i ∈ own
  · rw [if_pos hm] at e
    split at e <;> cases e
  · rw [if_neg hm] at e
    exact l.v i d' (by rw [wipeR_get, if_neg (fun z => hm z.1)]; exact e) (by rw [wipe_get, if_neg (fun z => hm z.1)]; exact z)⟩
end
def Pm.calm (P : Pm) (b : Bs) : Pm := { K := P.K, b := b, cv := P.cv, W := fun _ _ _ _ => False }
theorem compL_len {tg : Tg} {cond : Option (M OD)} {elt : M OD} {own : List Nat} : ∀ {ds acc : List D} {ρ : Rho} {S : List D} {f : List D} {ρ' : Rho} {S' : List D}, compL tg cond elt own ds acc ρ S = .ok f ρ' S' → acc.length ≤ f.length
  | [], acc, ρ, S, f, ρ', S', h => by cases h; exact Nat.le_refl _
  | x :: xs, acc, ρ, S, f, ρ', S', h => by
    unfold compL at h
    split at h
    · have := compL_len h
      split at this
      · simp at this; omega
      · exact this
    · cases h
section
variable {X : Cx} {P : Pm} {elt tg iter : Expr} {ifs : List Expr} {scope : Scope} {own : List (Str × Nat)} {pos : Pos} {it : M (List D)} {t : Tg} {cond : Option (M OD)} {m : M OD}
def gAny (P : Pm) (t : Tg) : TG := fun v σ H Q => ∃ b, tgG (P.calm b) t v σ H Q
def tAny (P : Pm) (c : M Bool) : TT := fun σ H Q => ∃ b, tmB (P.calm b) c σ H Q
def eAny (P : Pm) (m : M D) : TE := fun σ H Q => ∃ b, tmV (P.calm b) m σ H Q
theorem comp_ofW {σ : L2.St} {H : Hp} {Q : VK} {vs : List Nat} {wi : TI} {G : Gh} {ρ : Rho} {S : List D} (htg : t.inn vs) (r : R P.K P.b G ρ S σ H) (q : Post P (relO P) G σ (compM it t cond m vs ρ S) Q) (hw : ∀ Rr, PostI P G σ (it ρ S) Rr → wi σ H Rr) :
    tLc wi (gAny P t) (tAny P (condM cond)) (eAny P m.val) vs σ H Q := by
  refine hw _ ?_
  unfold compM at q
  cases e : it ρ S with
  | exc c ws ρ1 S1 => rw [e] at q; exact q
  | err => rw [e] at q; exact q
  | ok ds ρ0 S0 =>
    rw [e] at q
    dsimp only at q
    intro J H1 G1 le r1 itok Lx hD
    cases ef : compL t cond m vs ds [] ρ0 S0 with
    | exc c ws ρ1 S1 => rw [ef] at q; exact q.elim
    | err => rw [ef] at q; exact q.elim
    | ok accF ρF SF =>
      rw [ef] at q
      dsimp only at q
      have hF : accF.length ≤ LN := by
        by_cases h : accF.length ≤ LN
        · exact h
        · rw [if_neg h] at q; exact q.elim
      rw [if_pos hF] at q
      refine ⟨fun i n H2 => n = ds.length - i ∧ i ≤ ds.length ∧ ∃ G2 ρ2 S2 acc xs, G1.le G2 ∧ R P.K P.b G2 (wipeR ρ2 vs) S2 (L2.wipe σ vs) H2 ∧ Lone P.b G2 (wipeR ρ2 vs) (L2.wipe σ vs) Lx ∧ H2 Lx = some (.lst xs) ∧ RepL P.K G2.F G2.ι xs acc ∧
        ρ2.length = σ.length ∧ compL t cond m vs (ds.drop i) acc ρ2 S2 = .ok accF ρF SF, ⟨ds.length, by simp, Nat.zero_le _, G1, ρ0, S0, [], [], Gh.le.refl _, (r1.wipe vs).new hD _, (r1.wipe vs).lone hD, upd_same, .nil, r1.ln, ef⟩, ?_⟩
      rintro i n H2 ⟨rfl, hi, G2, ρ2, S2, acc, xs, le2, r2, l2, h2, w2, hl2, eq2⟩
      by_cases hlt : i < ds.length
      · right
        have hd : ds[i]? = some ds[i] := List.getElem?_eq_getElem hlt
        have ed : ds.drop i = ds[i] :: ds.drop (i + 1) := List.drop_eq_getElem_cons hlt
        rw [ed] at eq2
        unfold compL at eq2
        have rb := r2.ext l2 h2
        obtain ⟨ik, _⟩ := itok _ G2 _ S2 _ H2 le2 (Bs.up.add l2.b _) rb
        obtain ⟨go, yld⟩ := ik i _ hd
        refine ⟨go, fun H' => (∃ k, k < ds.length - i ∧ k = ds.length - (i + 1)) ∧ i + 1 ≤ ds.length ∧ ∃ G2 ρ2 S2 acc xs, G1.le G2 ∧ R P.K P.b G2 (wipeR ρ2 vs) S2 (L2.wipe σ vs) H' ∧ Lone P.b G2 (wipeR ρ2 vs) (L2.wipe σ vs) Lx ∧ H' Lx = some (.lst xs) ∧ RepL P.K G2.F G2.ι xs acc ∧
          ρ2.length = σ.length ∧ compL t cond m vs (ds.drop (i + 1)) acc ρ2 S2 = .ok accF ρF SF, fun H' ⟨⟨k, hk, ek⟩, h1, h2⟩ => ⟨k, hk, ek, h1, h2⟩, fun x H3 hy => ?_⟩
        obtain ⟨G3, le3, rb3, w3, _⟩ := yld x H3 hy
        cases et : turnM t cond m ds[i] (wipeR ρ2 vs) S2 with
        | exc c ws ρ1 S1 => rw [et] at eq2; cases eq2
        | err => rw [et] at eq2; cases eq2
        | ok o ρ4 S4 =>
          rw [et] at eq2
          dsimp only at eq2
          rw [turnM_eq] at et
          cases ep : t.put ds[i] (wipeR ρ2 vs) with
          | none => rw [ep] at et; cases et
          | some ρ3 =>
            rw [ep] at et
            dsimp only at et
            refine ⟨_, G3, _, S2, ds[i], ρ3, rb3, w3, ep, fun σ3 rb3' sh => ⟨?_, ?_⟩⟩
            · -- the slots
              refine List.ext_getElem? fun j => ?_
              have hlen : σ3.length = σ.length := by
                cases t with
                | one i => rw [sh, List.length_set, wipe_length]
                | tup is => obtain ⟨us, rfl⟩ := sh; rw [setManyV_len, wipe_length]
                | two _ _ => exact htg.elim
              rw [wipe_get, wipe_get, hlen]
              by_cases hm : j ∈ vs
              · by_cases hj : j < σ.length
                · rw [if_pos ⟨hm, hj⟩, if_pos ⟨hm, hj⟩]
                · rw [if_neg (fun z => hj z.2), if_neg (fun z => hj z.2), List.getElem?_eq_none (by omega), List.getElem?_eq_none (by omega)]
              · rw [if_neg (fun z => hm z.1), if_neg (fun z => hm z.1)]
                cases t with
                | one i =>
                  rw [sh, List.getElem?_set_ne (show i ≠ j from fun z => hm (z ▸ (show i ∈ vs from htg))), wipe_get, if_neg (fun z => hm z.1)]
                | tup is =>
                  obtain ⟨us, rfl⟩ := sh
                  rw [setManyV_get (fun z => hm (htg j z)), wipe_get, if_neg (fun z => hm z.1)]
                | two _ _ => exact htg.elim
            · have hlen : σ3.length = σ.length := by
                cases t with
                | one i => rw [sh, List.length_set, wipe_length]
                | tup is => obtain ⟨us, rfl⟩ := sh; rw [setManyV_len, wipe_length]
                | two _ _ => exact htg.elim
              have hwp : L2.wipe σ3 vs = L2.wipe σ vs := by
                refine List.ext_getElem? fun j => ?_
                rw [wipe_get, wipe_get, hlen]
                by_cases hm : j ∈ vs
                · by_cases hj : j < σ.length
                  · rw [if_pos ⟨hm, hj⟩, if_pos ⟨hm, hj⟩]
                  · rw [if_neg (fun z => hj z.2), if_neg (fun z => hj z.2), List.getElem?_eq_none (by omega), List.getElem?_eq_none (by omega)]
                · rw [if_neg (fun z => hm z.1), if_neg (fun z => hm z.1)]
                  cases t with
                  | one i =>
                    rw [sh, List.getElem?_set_ne (show i ≠ j from fun z => hm (z ▸ (show i ∈ vs from htg))), wipe_get, if_neg (fun z => hm z.1)]
                  | tup is =>
                    obtain ⟨us, rfl⟩ := sh
                    rw [setManyV_get (fun z => hm (htg j z)), wipe_get, if_neg (fun z => hm z.1)]
                  | two _ _ => exact htg.elim
              -- what a turn ends with
              have fin : Post (P.calm (P.b.with Lx (.lst xs))) (fun G _ _ _ (o : Option D) (v : Option V) => match o, v with
                  | some d, some x => Rep P.K G.F G.ι x d
                  | none, none => True
                  | _, _ => False) G3 σ3 (restM cond m ρ3 S2) (fun ov H4 => match ov with
                  | some y => ∃ ac, H4 Lx = some (.lst ac) ∧ ac.length < sizeLine ∧ (∃ k, k < ds.length - i ∧ k = ds.length - (i + 1)) ∧ i + 1 ≤ ds.length ∧ ∃ G2 ρ2 S2 acc xs, G1.le G2 ∧ R P.K P.b G2 (wipeR ρ2 vs) S2 (L2.wipe σ vs) (upd H4 Lx (.lst (ac ++ [y]))) ∧ Lone P.b G2 (wipeR ρ2 vs) (L2.wipe σ vs) Lx ∧ upd H4 Lx (.lst (ac ++ [y])) Lx = some (.lst xs) ∧ RepL P.K G2.F G2.ι xs acc ∧
                      ρ2.length = σ.length ∧ compL t cond m vs (ds.drop (i + 1)) acc ρ2 S2 = .ok accF ρF SF
                  | none => (∃ k, k < ds.length - i ∧ k = ds.length - (i + 1)) ∧ i + 1 ≤ ds.length ∧ ∃ G2 ρ2 S2 acc xs, G1.le G2 ∧ R P.K P.b G2 (wipeR ρ2 vs) S2 (L2.wipe σ vs) H4 ∧ Lone P.b G2 (wipeR ρ2 vs) (L2.wipe σ vs) Lx ∧ H4 Lx = some (.lst xs) ∧ RepL P.K G2.F G2.ι xs acc ∧
                      ρ2.length = σ.length ∧ compL t cond m vs (ds.drop (i + 1)) acc ρ2 S2 = .ok accF ρF SF) := by
                rw [et]
                intro ov H4 G4 le4 rb4 w4
                obtain ⟨r4, l4, h4⟩ := rb4.unext l2.b (r2.f00 l2.f) (r2.c00 l2.c)
                have r5 : R P.K P.b G4 (wipeR ρ4 vs) S4 (L2.wipe σ vs) H4 := by rw [← hwp]; exact r4.wipe vs
                have l5 : Lone P.b G4 (wipeR ρ4 vs) (L2.wipe σ vs) Lx := by rw [← hwp]; exact l4.wipe r4.ln
                have le5 : G1.le G4 := le2.trans (le3.trans le4)
                have w5 : RepL P.K G4.F G4.ι xs acc := w2.mono (le3.trans le4)
                have hl5 : ρ4.length = σ.length := r4.ln.trans hlen
                have hk : ∃ k, k < ds.length - i ∧ k = ds.length - (i + 1) := ⟨_, by omega, rfl⟩
                cases o with
                | some d =>
                  cases ov with
                  | none => exact w4.elim
                  | some y =>
                    have hlt2 := compL_len eq2
                    simp only [List.length_append, List.length_cons, List.length_nil] at hlt2
                    exact ⟨xs, h4, by rw [LN_eq, w2.length]; omega, hk, by omega, G4, ρ4, S4, acc ++ [d], xs ++ [y], le5, r5.other l5 _, l5, upd_same, w5.append (.cons w4 .nil), hl5, eq2⟩
                | none =>
                  cases ov with
                  | some y => exact w4.elim
                  | none => exact ⟨hk, by omega, G4, ρ4, S4, acc, xs, le5, r5, l5, h4, w5, hl5, eq2⟩
              refine ⟨_, tm_imp (tm_at (rel1 := relB) rb3' fin) fun b H4 ⟨G4, ρ5, S5, k, r4, w4, l4, p4⟩ => ?_⟩
              cases w4
              rw [ite_ap] at p4
              cases b with
              | true =>
                rw [if_pos rfl] at p4 ⊢
                refine ⟨_, tm_imp (tm_at (rel1 := relV (P.calm (P.b.with Lx (.lst xs)))) r4 p4) fun y H5 ⟨G5, ρ6, S6, d, r5, w5, l5, p5⟩ => ?_⟩
                exact p5 (some y) H5 G5 (Gh.le.refl _) r5 w5
              | false => exact p4 none H4 G4 (Gh.le.refl _) r4 trivial
      · left
        have hi' : i = ds.length := by omega
        subst hi'
        obtain ⟨_, stop⟩ := itok _ G2 _ S2 _ H2 le2 (Bs.up.refl _) r2
        refine ⟨stop, ?_⟩
        rw [List.drop_length] at eq2
        cases eq2
        have l6 := l2.back (ρ0 := ρ0) hl2
        exact q _ H2 G2 (le.trans le2) (r1.back le2 r2 hl2) ⟨fun z => (nomatch z), fun _ => ⟨Lx, rfl, own_mk h2 w2, ⟨l6.f, l6.c, l6.b⟩, l6.v⟩⟩
theorem comp_of {σ : L2.St} {H : Hp} {Q : VK} (htg : t.inn (own.map (·.2))) (q : tmO P (compM it t cond m (own.map (·.2))) σ H Q) :
    tLc (tiG P it) (gAny P t) (tAny P (condM cond)) (eAny P m.val) (own.map (·.2)) σ H Q := by
  obtain ⟨G, ρ, S, r, q⟩ := q
  exact comp_ofW htg r q fun Rr h => ⟨G, ρ, S, r, h⟩
theorem s_comp (hc : X.calm = true) (hN : X.N.Nodup) (hi : PI X tg iter (tiG P it)) (ok : BlkOk X.N X.env.scope scope own) (htg : t.inn (own.map (·.2)))
    (hg : ∀ (s : Shared) (H : Hp) (C : Addr) (cl : List (Str × Addr)) (fp : List Addr) (b : Bs), PG (X.blk s H scope (compEnvC scope cl C X.env) fp) tg (tgG (P.calm b) t))
    (ht : ∀ (s : Shared) (H : Hp) (C : Addr) (cl : List (Str × Addr)) (fp : List Addr) (b : Bs), PTs (X.blk s H scope (compEnvC scope cl C X.env) fp) ifs (tmB (P.calm b) (condM cond)))
    (he : ∀ (s : Shared) (H : Hp) (C : Addr) (cl : List (Str × Addr)) (fp : List Addr) (b : Bs), PE (X.blk s H scope (compEnvC scope cl C X.env) fp) elt (tmO (P.calm b) m)) (hs : ∀ x, foldedSetIterable iter X.env x = pure x) :
    PE X (.ListComp elt [⟨tg, iter, ifs, 0⟩] scope pos) (tmO P (compM it t cond m (own.map (·.2)))) :=
  (pe_lc hc hN hi ok (g := gAny P t) (tt := tAny P (condM cond)) (te := eAny P m.val) (fun s H C cl fp => ⟨fun pins s' σ H' v u Q I r ⟨b, q⟩ => (hg s H C cl fp b).run pins s' σ H' v u Q I r q⟩)
    (fun s H C cl fp => ⟨fun pins s' σ H' Q I ⟨b, q⟩ => (ht s H C cl fp b).run pins s' σ H' Q I q⟩) (fun s H C cl fp => ⟨fun pins s' σ H' Q I ⟨b, q⟩ => (PE.val (he s H C cl fp b)).run pins s' σ H' Q I q⟩) hs).imp fun σ H Q q => comp_of htg q
end
end Mi

namespace Mi
open PySem PySem.Spec PyProof.Rows L2

/-! ### statements -/
inductive SRes where
  | nxt (ρ : Rho) (S : List D)
  | ret (x : OD) (ρ : Rho) (S : List D)
  | brk (ρ : Rho) (S : List D)
  | cnt (ρ : Rho) (S : List D)
  | exc (c : Nat) (vs : List D) (ρ : Rho) (S : List D)
  | err
abbrev MS := Rho → List D → SRes
def PostS (P : Pm) (G : Gh) (r : SRes) (E : Ends) : Prop := match r with
  | .nxt ρ S => ∀ (σ : L2.St) (H : Hp) (G' : Gh), G.le G' → R P.K P.b G' ρ S σ H → E.nx σ H
  | .brk ρ S => ∀ (σ : L2.St) (H : Hp) (G' : Gh), G.le G' → R P.K P.b G' ρ S σ H → E.bk σ H
  | .cnt ρ S => ∀ (σ : L2.St) (H : Hp) (G' : Gh), G.le G' → R P.K P.b G' ρ S σ H → E.ct σ H
  | .ret x ρ S => ∀ (v : V) (σ : L2.St) (H : Hp) (G' : Gh), G.le G' → R P.K P.b G' ρ S σ H → VOk P.K P.b G' ρ σ H x.1 x.2 v → E.rt v H
  | .exc c vs ρ S => ∀ (cls : Value) (dd : Option Addr) (σ : L2.St) (H : Hp) (G' : Gh), G.le G' → R P.K P.b G' ρ S σ H → XRep P G' H c vs cls dd → P.W cls dd σ H
  | .err => False
def tsG (P : Pm) (m : MS) : TS := fun E σ H => ∃ G ρ S, R P.K P.b G ρ S σ H ∧ PostS P G (m ρ S) E
theorem PostS.weak {P : Pm} {G G1 : Gh} {r : SRes} {E : Ends} (h : PostS P G r E) (le : G.le G1) : PostS P G1 r E := by
  cases r with
  | nxt ρ S => exact fun σ H G' l => h σ H G' (le.trans l)
  | brk ρ S => exact fun σ H G' l => h σ H G' (le.trans l)
  | cnt ρ S => exact fun σ H G' l => h σ H G' (le.trans l)
  | ret x ρ S => exact fun v σ H G' l => h v σ H G' (le.trans l)
  | exc c vs ρ S => exact fun cls dd σ H G' l => h cls dd σ H G' (le.trans l)
  | err => exact h
/-- an expression, then what follows -/
def M.thn {α : Type} (m : M α) (f : α → MS) : MS := fun ρ S => match m ρ S with
  | .ok a ρ' S' => f a ρ' S'
  | .exc c vs ρ' S' => .exc c vs ρ' S'
  | .err => .err
def skipS : MS := fun ρ S => .nxt ρ S
def errS : MS := fun _ _ => .err
def seqS (m n : MS) : MS := fun ρ S => match m ρ S with
  | .nxt ρ' S' => n ρ' S'
  | r => r
def dropS (m : M OD) : MS := m.thn fun _ => skipS
def retS (m : M OD) : MS := m.thn fun x ρ S => .ret x ρ S
def retN : MS := fun ρ S => .ret (false, .non) ρ S
def ifS (c : M OD) (m n : MS) : MS := c.test.thn fun b => if b then m else n
def setS (i : Nat) (m : M OD) : MS := m.thn fun x ρ S => .nxt (ρ.set i (some x)) S
def asgS (t : Tg) (m : M OD) : MS := m.val.thn fun d ρ S => match t.put d ρ with
  | some ρ' => .nxt ρ' S
  | none => .err
def brkS : MS := fun ρ S => .brk ρ S
def cntS : MS := fun ρ S => .cnt ρ S
/-- x[i] = e, x a variable's own list or a cell -/
def putIx (d0 d : D) (k : D) : Option D := match d0, k with
  | .lst xs, .int i => if 0 ≤ i ∧ i < xs.length then some (.lst (xs.set i.toNat d)) else none
  | .dct j es, k => if kOk j es k = true ∧ es.length < LN ∧ j ≤ 1 then some (.dct (kindOf k) (putE es k d)) else none
  | _, _ => none
def sixS (x : Nat) (i e : M OD) : MS := e.val.thn fun d => (chkM x).thn fun _ => i.val.thn fun k ρ S =>
  (match (topM x (fun d0 => match putIx d0 d k with
    | some d1 => putM x d1
    | none => M.err) : M Unit) ρ S with
  | .ok _ ρ' S' => .nxt ρ' S'
  | _ => .err)
def addS (i : Nat) (e : M OD) : MS := fun ρ S => match ρ[i]? with
  | some (some (false, .int k)) => (e.val.thn fun d ρ S => match d with
    | .int j => .nxt (ρ.set i (some (false, .int (k + j)))) S
    | _ => .err) ρ S
  | _ => .err
def forL (t : Tg) (body : MS) : List D → MS
  | [] => skipS
  | x :: xs => fun ρ S => match t.put x ρ with
    | none => .err
    | some ρ' => match body ρ' S with
      | .nxt ρ1 S1 => forL t body xs ρ1 S1
      | .cnt ρ1 S1 => forL t body xs ρ1 S1
      | .brk ρ1 S1 => .nxt ρ1 S1
      | r => r
def forS (it : M (List D)) (t : Tg) (body : MS) : MS := it.thn fun ds => forL t body ds
def whlL (c : M OD) (body : MS) : Nat → MS
  | 0 => errS
  | n + 1 => c.test.thn fun b => if b then fun ρ S => match body ρ S with
      | .nxt ρ1 S1 => whlL c body n ρ1 S1
      | .cnt ρ1 S1 => whlL c body n ρ1 S1
      | .brk ρ1 S1 => .nxt ρ1 S1
      | r => r
    else skipS
section
variable {X : Cx} {P : Pm} {G : Gh} {ρ : Rho} {S : List D} {σ : L2.St} {H : Hp} {e : Expr} {m : M OD} {st : Stmt} {sts : List Stmt} {pos : Pos}
theorem thn_of {α ν : Type} {rel : Rl α ν} {n : M α} {f : α → MS} {E : Ends} (r : R P.K P.b G ρ S σ H) (h : PostS P G (n.thn f ρ S) E) :
    tmG P rel n σ H fun v H1 => ∃ G1 ρ1 S1 a, R P.K P.b G1 ρ1 S1 σ H1 ∧ rel G1 ρ1 σ H1 a v ∧ G.le G1 ∧ PostS P G1 (f a ρ1 S1) E := by
  refine ⟨G, ρ, S, r, ?_⟩
  unfold M.thn at h
  cases e : n ρ S with
  | ok a ρ1 S1 =>
    rw [e] at h
    exact fun v H1 G1 le r1 w => ⟨G1, ρ1, S1, a, r1, w, le, PostS.weak h le⟩
  | exc c vs ρ1 S1 => rw [e] at h; exact fun cls dd H' G' l r' x => h cls dd σ H' G' l r' x
  | err => rw [e] at h; exact h
theorem s_nil : PSs X [] (tsG P skipS) := pss_nil.imp fun E σ H ⟨G, ρ, S, r, h⟩ => h σ H G (Gh.le.refl _) r
theorem s_cons {m n : MS} (h1 : PS X st (tsG P m)) (h2 : PSs X sts (tsG P n)) : PSs X (st :: sts) (tsG P (seqS m n)) := by
  refine (pss_cons h1 h2).imp fun E σ H ⟨G, ρ, S, r, h⟩ => ⟨G, ρ, S, r, ?_⟩
  unfold seqS at h
  cases e : m ρ S with
  | nxt ρ1 S1 =>
    rw [e] at h
    exact fun σ' H' G' le r' => ⟨G', ρ1, S1, r', PostS.weak h le⟩
  | brk ρ1 S1 => rw [e] at h; exact h
  | cnt ρ1 S1 => rw [e] at h; exact h
  | ret x ρ1 S1 => rw [e] at h; exact h
  | exc c vs ρ1 S1 => rw [e] at h; exact h
  | err => rw [e] at h; exact h
theorem s_expr (h : PE X e (tmO P m)) (hs : swapsWith e none pos.line X.env = pure false) : PS X (.Expr e pos) (tsG P (dropS m)) :=
  (ps_expr h hs).imp fun E σ H ⟨G, ρ, S, r, q⟩ => tm_imp (thn_of (rel := relO P) r q) fun v H1 ⟨G1, ρ1, S1, a, r1, w, le, q1⟩ => q1 σ H1 G1 (Gh.le.refl _) r1
theorem s_doc {x j pos pos'} : PS X (.Expr (.Constant (.str x) j pos) pos') (tsG P skipS) := ps_doc.imp fun E σ H ⟨G, ρ, S, r, h⟩ => h σ H G (Gh.le.refl _) r
theorem s_pass : PS X (.Pass pos) (tsG P skipS) := ps_pass.imp fun E σ H ⟨G, ρ, S, r, h⟩ => h σ H G (Gh.le.refl _) r
theorem s_brk : PS X (.Break pos) (tsG P brkS) := ps_break.imp fun E σ H ⟨G, ρ, S, r, h⟩ => h σ H G (Gh.le.refl _) r
theorem s_cnt : PS X (.Continue pos) (tsG P cntS) := ps_continue.imp fun E σ H ⟨G, ρ, S, r, h⟩ => h σ H G (Gh.le.refl _) r
theorem s_ret (h : PE X e (tmO P m)) : PS X (.Return (some e) pos) (tsG P (retS m)) :=
  (ps_ret h).imp fun E σ H ⟨G, ρ, S, r, q⟩ => tm_imp (thn_of (rel := relO P) r q) fun v H1 ⟨G1, ρ1, S1, a, r1, w, le, q1⟩ => q1 v σ H1 G1 (Gh.le.refl _) r1 w
theorem s_retN : PS X (.Return none pos) (tsG P retN) := ps_retN.imp fun E σ H ⟨G, ρ, S, r, h⟩ => h .non σ H G (Gh.le.refl _) r (VOk.fz .non)
theorem s_if {c : Expr} {a b : List Stmt} {mc : M OD} {m n : MS} (hc : PT X c (tmB P mc.test)) (ha : PSs X a (tsG P m)) (hb : PSs X b (tsG P n)) : PS X (.If c a b pos) (tsG P (ifS mc m n)) :=
  (ps_if hc ha hb).imp fun E σ H ⟨G, ρ, S, r, q⟩ => tm_imp (thn_of (rel := relB) r q) fun v H1 ⟨G1, ρ1, S1, a, r1, w, le, q1⟩ => by
    cases w
    cases v with
    | true => exact ⟨G1, ρ1, S1, r1, q1⟩
    | false => exact ⟨G1, ρ1, S1, r1, q1⟩
variable {i : Nat} {x : Str} {p : Pos}
theorem s_set (hN : X.N.Nodup) (hi : X.N[i]? = some x) (hx : Loc X.env.scope x) (h : PE X e (tmO P m)) (hs : swapsWith e (some (.Name x p)) pos.line X.env = pure false) (hf : X.fn x = true ∨ X.env.scope.names.lookup x = some .local) :
    PS X (.Assign [.Name x p] e pos) (tsG P (setS i m)) :=
  (ps_set hN hi hx h hs hf).imp fun E σ H ⟨G, ρ, S, r, q⟩ => tm_imp (thn_of (rel := relO P) r q) fun v H1 ⟨G1, ρ1, S1, a, r1, w, le, q1⟩ => by
    obtain ⟨own, d⟩ := a
    exact q1 _ H1 G1 (Gh.le.refl _) (r1.store w i)
theorem s_asg {tg : Expr} {t : Tg} (h : PE X e (tmO P m)) (hg : PG X tg (tgG P t)) (hs : swapsWithSole [tg] e pos.line X.env = pure false) (hw : swappedStores [tg] e X.env = pure none) (h1 : (assignEach [tg] X.env).map (·.2) = [assign tg X.env]) :
    PS X (.Assign [tg] e pos) (tsG P (asgS t m)) :=
  (ps_asg (PE.val h) hg hs hw h1).imp fun E σ H ⟨G, ρ, S, r, q⟩ => tm_imp (thn_of (rel := relV P) r q) fun v H1 ⟨G1, ρ1, S1, d, r1, w, le, q1⟩ => by
    cases ep : t.put d ρ1 with
    | none => rw [ep] at q1; exact q1.elim
    | some ρ' =>
      rw [ep] at q1
      exact ⟨G1, ρ1, S1, d, ρ', r1, w, ep, fun σ' r' _ => q1 σ' H1 G1 (Gh.le.refl _) r'⟩
theorem pset_or {X : Cx} {t t2 : TSet} (h : PSet X t) (g : PSet X t2) : PSet X (fun o i v H Q => t o i v H Q ∨ t2 o i v H Q) := fun pins s σ H o i v ov iv u Q I ro ri rv q => q.elim (h pins s σ H o i v ov iv u Q I ro ri rv) (g pins s σ H o i v ov iv u Q I ro ri rv)
theorem s_six {ix : Expr} {mi : M OD} {p2 : Pos} (hK : X.K = P.K) (hW : X.w = P.K.w) (hu : X.A.units + 16 < cLine) (hN : X.N[i]? = some x) (hv : Vis X.env.scope x) (hd : (x == ("__debug__" : Str)) = false) (hcd : (x == ("__classdict__" : Str)) = false) (h : PE X e (tmO P m)) (hi : PE X ix (tmO P mi))
    (ha : ∀ v, assign (.Subscript (.Name x p) ix p2) X.env v = (do
      let ov ← holding [v] (eval (.Name x p) X.env)
      let iv ← holding [v, ov] (eval ix X.env)
      standAt p2
      holding [v, ov, iv] (setItem ov iv v)
      release [v, ov, iv] []))
    (hs : swapsWithSole [.Subscript (.Name x p) ix p2] e pos.line X.env = pure false) (hw : swappedStores [.Subscript (.Name x p) ix p2] e X.env = pure none) (h1 : (assignEach [.Subscript (.Name x p) ix p2] X.env).map (·.2) = [assign (.Subscript (.Name x p) ix p2) X.env]) :
    PS X (.Assign [.Subscript (.Name x p) ix p2] e pos) (tsG P (sixS i mi m)) :=
  (ps_asg (PE.val h) (pg_sub (pe_var hN hv hd hcd) (PE.val hi) (pset_or set_list (set_dct hu)) ha) hs hw h1).imp fun E σ H ⟨G, ρ, S, r, q⟩ => tm_imp (thn_of (rel := relV P) r q) fun v H1 ⟨G1, ρ1, S1, d, r1, w, le, q1⟩ => by
    unfold M.thn chkM at q1
    cases e : ρ1[i]? with
    | none => rw [e] at q1; exact q1.elim
    | some y =>
      cases y with
      | none => rw [e] at q1; exact q1.elim
      | some y =>
        rw [e] at q1
        obtain ⟨ov, e1, _⟩ := r1.vs i y.1 y.2 e
        refine ⟨ov, e1, tm_imp (thn_of (rel := relV P) r1 q1) fun k H2 ⟨G2, ρ2, S2, dk, r2, w2, le2, q2⟩ => ?_⟩
        have hok : ∃ ρ3 S3, (topM i (fun d0 => match putIx d0 d dk with
            | some d1 => putM i d1
            | none => M.err) : M Unit) ρ2 S2 = .ok () ρ3 S3 := by
          cases h3 : (topM i (fun d0 => match putIx d0 d dk with
            | some d1 => putM i d1
            | none => M.err) : M Unit) ρ2 S2 with
          | ok a ρ3 S3 => exact ⟨ρ3, S3, rfl⟩
          | exc c vs ρ3 S3 => rw [h3] at q2; exact q2.elim
          | err => rw [h3] at q2; exact q2.elim
        obtain ⟨ρ3, S3, h3⟩ := hok
        rw [h3] at q2
        have post : Post P (fun _ _ _ _ (_ : Unit) (_ : Unit) => True) G2 σ ((topM i (fun d0 => match putIx d0 d dk with
            | some d1 => putM i d1
            | none => M.err) : M Unit) ρ2 S2) (fun _ H' => E.nx σ H') := by
          rw [h3]
          exact fun _ H' G' le' r' _ => q2 σ H' G' le' r'
        obtain ⟨a, d0, rfl, ow, h4, k4⟩ := top_of r2 e1 post
        cases h5 : putIx d0 d dk with
        | none => rw [h5] at h4; exact h4.elim
        | some d1 =>
          rw [h5] at h4
          unfold putIx at h5
          split at h5
          · rename_i xs j
            obtain ⟨us, hu, l⟩ := own_lst ow
            cases (show Rep P.K G2.F G2.ι k (.int j) from w2).toInt
            · split at h5
              · rename_i hj
                cases h5
                have ix : ixN us.length j = some j.toNat := by unfold ixN; rw [if_pos hj.1, if_pos (by rw [l.length]; exact hj.2)]
                refine .inl ⟨a, us, j, j.toNat, rfl, rfl, hu, ix, ?_⟩
                obtain ⟨ρ', S', r', k'⟩ := k4 (.lst (xs.set j.toNat d)) (.lst (us.set j.toNat v)) (own_mk upd_same (l.set (w.mono le2) _))
                have h6 : Post P (fun _ _ _ _ (_ : Unit) (_ : Unit) => True) G2 σ ((putM i (.lst (xs.set j.toNat d)) >>= fun _ => pure ()) ρ2 S2) (fun _ H' => E.nx σ H') := by
                  rw [show (putM i (.lst (xs.set j.toNat d)) >>= fun _ => pure ()) = putM i (.lst (xs.set j.toNat d)) from bnd_pure _]
                  exact h4
                exact (k' h6) () _ G2 (Gh.le.refl _) r' trivial
              · cases h5
          · rename_i j es
            split at h5
            · rename_i hc
              cases h5
              obtain ⟨o, h7, w7⟩ := ow.dput (X := X) (by rw [hK]) hW r2.fr w2 (w.mono le2) hc.1 hc.2.1 hc.2.2
              refine .inr (h7 _ ?_)
              obtain ⟨ρ', S', r', k'⟩ := k4 (.dct (kindOf dk) (putE es dk d)) o w7
              have h6 : Post P (fun _ _ _ _ (_ : Unit) (_ : Unit) => True) G2 σ ((putM i (.dct (kindOf dk) (putE es dk d)) >>= fun _ => pure ()) ρ2 S2) (fun _ H' => E.nx σ H') := by
                rw [show (putM i (.dct (kindOf dk) (putE es dk d)) >>= fun _ => pure ()) = putM i (.dct (kindOf dk) (putE es dk d)) from bnd_pure _]
                exact h4
              exact (k' h6) () _ G2 (Gh.le.refl _) r' trivial
            · cases h5
          · cases h5
theorem s_add (hN : X.N.Nodup) (hi : X.N[i]? = some x) (hx : Loc X.env.scope x) (h : PE X e (tmO P m)) (hf : X.fn x = true ∨ X.env.scope.names.lookup x = some .local) : PS X (.AugAssign (.Name x p) .Add e pos) (tsG P (addS i m)) :=
  (ps_aug hN hi hx (PE.val h) ip_add hf).imp fun E σ H ⟨G, ρ, S, r, q⟩ => by
    unfold addS at q
    split at q
    · rename_i k hk
      obtain ⟨v, e1, h1, _⟩ := r.vs i false _ hk
      have w := (h1 rfl).toInt
      subst w
      refine ⟨_, e1, tm_imp (thn_of (rel := relV P) r q) fun v H1 ⟨G1, ρ1, S1, d, r1, w, le, q1⟩ => ?_⟩
      have w : Rep P.K G1.F G1.ι v d := w
      cases d with
      | int j =>
        cases w.toInt
        exact ⟨k, j, rfl, rfl, q1 _ H1 G1 (Gh.le.refl _) (r1.store (VOk.fz (.int _)) i)⟩
      | _ => exact q1.elim
    · exact q.elim
theorem s_for {tg iter : Expr} {body : List Stmt} {it : M (List D)} {t : Tg} {mb : MS} (hp : PassesOwn (model X.prog X.w) X.A X.env X.xe) (hc : X.calm = true) (hi : PI X tg iter (tiG P it)) (hg : PG X tg (tgG P t)) (hb : PSs X body (tsG P mb))
    (hs : ∀ x, foldedSetIterable iter X.env x = pure x) : PS X (.For tg iter body [] pos) (tsG P (forS it t mb)) := by
  refine (ps_for hp hc hi hg hb hs).imp fun E σ H ⟨G, ρ, S, r, q⟩ => ⟨G, ρ, S, r, ?_⟩
  unfold forS M.thn at q
  cases e : it ρ S with
  | exc c ws ρ1 S1 => rw [e] at q; exact fun cls dd H' G' l r' x => q cls dd σ H' G' l r' x
  | err => rw [e] at q; exact q
  | ok ds ρ1 S1 =>
    rw [e] at q
    intro J H1 G1 le1 r1 itok
    refine ⟨fun i n σ2 H2 => n = ds.length - i ∧ i ≤ ds.length ∧ ∃ G2 ρ2 S2, G1.le G2 ∧ R P.K P.b G2 ρ2 S2 σ2 H2 ∧ PostS P G2 (forL t mb (ds.drop i) ρ2 S2) E, ⟨ds.length, by simp, Nat.zero_le _, G1, ρ1, S1, Gh.le.refl _, r1, PostS.weak q le1⟩, ?_⟩
    rintro i n σ2 H2 ⟨rfl, hi, G2, ρ2, S2, le2, r2, q2⟩
    obtain ⟨ik, stop⟩ := itok _ G2 _ S2 _ H2 le2 (Bs.up.refl _) r2
    by_cases hlt : i < ds.length
    · right
      have hd : ds[i]? = some ds[i] := List.getElem?_eq_getElem hlt
      have ed : ds.drop i = ds[i] :: ds.drop (i + 1) := List.drop_eq_getElem_cons hlt
      rw [ed] at q2
      unfold forL at q2
      obtain ⟨go, yld⟩ := ik i _ hd
      refine ⟨go, fun σ' H' => (∃ k, k < ds.length - i ∧ k = ds.length - (i + 1)) ∧ i + 1 ≤ ds.length ∧ ∃ G2 ρ2 S2, G1.le G2 ∧ R P.K P.b G2 ρ2 S2 σ' H' ∧ PostS P G2 (forL t mb (ds.drop (i + 1)) ρ2 S2) E,
        fun σ' H' ⟨⟨k, hk, ek⟩, h1, h2⟩ => ⟨k, hk, ek, h1, h2⟩, fun x H3 hy => ?_⟩
      obtain ⟨G3, le3, r3, w3, _⟩ := yld x H3 hy
      have hk : ∃ k, k < ds.length - i ∧ k = ds.length - (i + 1) := ⟨_, by omega, rfl⟩
      cases ep : t.put ds[i] ρ2 with
      | none => rw [ep] at q2; exact q2.elim
      | some ρ3 =>
        rw [ep] at q2
        dsimp only at q2
        refine ⟨G3, _, S2, ds[i], ρ3, r3, w3, ep, fun σ3 r3' _ => ⟨G3, ρ3, S2, r3', ?_⟩⟩
        cases eb : mb ρ3 S2 with
        | nxt ρ4 S4 =>
          rw [eb] at q2
          exact fun σ' H' G' l r' => ⟨hk, by omega, G', ρ4, S4, le2.trans (le3.trans l), r', PostS.weak q2 (le3.trans l)⟩
        | cnt ρ4 S4 =>
          rw [eb] at q2
          exact fun σ' H' G' l r' => ⟨hk, by omega, G', ρ4, S4, le2.trans (le3.trans l), r', PostS.weak q2 (le3.trans l)⟩
        | brk ρ4 S4 => rw [eb] at q2; exact fun σ' H' G' l r' => q2 σ' H' G' (le3.trans l) r'
        | ret y ρ4 S4 => rw [eb] at q2; exact fun v σ' H' G' l r' w => q2 v σ' H' G' (le3.trans l) r' w
        | exc c vs ρ4 S4 => rw [eb] at q2; exact fun cls dd σ' H' G' l r' w => q2 cls dd σ' H' G' (le3.trans l) r' w
        | err => rw [eb] at q2; exact q2.elim
    · left
      have hi' : i = ds.length := by omega
      subst hi'
      rw [List.drop_length] at q2
      exact ⟨stop, q2 σ2 H2 G2 (Gh.le.refl _) r2⟩
theorem s_whl {c : Expr} {body : List Stmt} {mc : M OD} {mb : MS} (n : Nat) (hp : PassesOwn (model X.prog X.w) X.A X.env X.xe) (hc : PT X c (tmB P mc.test)) (hb : PSs X body (tsG P mb)) : PS X (.While c body [] pos) (tsG P (whlL mc mb n)) := by
  refine (ps_while hp hc hb).imp fun E σ H ⟨G, ρ, S, r, q⟩ => ⟨fun k σ2 H2 => ∃ G2 ρ2 S2, R P.K P.b G2 ρ2 S2 σ2 H2 ∧ PostS P G2 (whlL mc mb k ρ2 S2) E, ⟨n, G, ρ, S, r, q⟩, ?_⟩
  rintro k σ2 H2 ⟨G2, ρ2, S2, r2, q2⟩
  cases k with
  | zero => exact q2.elim
  | succ k =>
    unfold whlL at q2
    refine tm_imp (thn_of (rel := relB) r2 q2) fun v H3 ⟨G3, ρ3, S3, a, r3, w, le, q3⟩ => ?_
    cases w
    cases v with
    | false => exact q3 σ2 H3 G3 (Gh.le.refl _) r3
    | true =>
      rw [if_pos rfl] at q3 ⊢
      refine ⟨fun σ' H' => ∃ G2 ρ2 S2, R P.K P.b G2 ρ2 S2 σ' H' ∧ PostS P G2 (whlL mc mb k ρ2 S2) E, fun σ' H' h => ⟨k, Nat.lt_succ_self _, h⟩, G3, ρ3, S3, r3, ?_⟩
      cases eb : mb ρ3 S3 with
      | nxt ρ4 S4 => rw [eb] at q3; exact fun σ' H' G' l r' => ⟨G', ρ4, S4, r', PostS.weak q3 l⟩
      | cnt ρ4 S4 => rw [eb] at q3; exact fun σ' H' G' l r' => ⟨G', ρ4, S4, r', PostS.weak q3 l⟩
      | brk ρ4 S4 => rw [eb] at q3; exact fun σ' H' G' l r' => q3 σ' H' G' l r'
      | ret y ρ4 S4 => rw [eb] at q3; exact q3
      | exc c vs ρ4 S4 => rw [eb] at q3; exact q3
      | err => rw [eb] at q3; exact q3.elim
end
end Mi

namespace Mi
open PySem PySem.Spec PyProof.Rows L2

/-! ### calls of the text's own functions -/
abbrev Fn := List D → List D → Res OD
def callM (n : Nat) (g : Fn) (ms : M (List D)) : M OD := do
  let ds ← ms
  fun ρ S => if ds.length = n then (match g ds S with
    | .ok x _ S' => .ok x ρ S'
    | .exc c vs _ S' => .exc c vs ρ S'
    | .err => .err) else .err
def bodyF (n : Nat) (m : MS) : Fn := fun ds S => match m (ds.map (fun d => some (false, d)) ++ List.replicate (n - ds.length) none) S with
  | .nxt _ S' => .ok (false, .non) [] S'
  | .ret x _ S' => .ok x [] S'
  | .exc c vs _ S' => .exc c vs [] S'
  | _ => .err
def pmF (K : KW) (cv : Nat → Value × Str) (H : Hp) (G : Gh) (E : XK) : Pm := ⟨K, ⟨H, G.F, G.ι⟩, cv, fun c d _ H => E c d H⟩
def spF (K : KW) (cv : Nat → Value × Str) (g : Fn) (n : Nat) : Sp := fun vs H Q E => ∃ G S ds, R K ⟨H, G.F, G.ι⟩ G [] S [] H ∧ RepL K G.F G.ι vs ds ∧ ds.length = n ∧
  (match g ds S with
  | .ok x _ S' => ∀ v H' G', G.le G' → R K ⟨H, G.F, G.ι⟩ G' [] S' [] H' → VOk K ⟨H, G.F, G.ι⟩ G' [] [] H' x.1 x.2 v → Q v H'
  | .exc c xs _ S' => ∀ cls dd H' G', G.le G' → R K ⟨H, G.F, G.ι⟩ G' [] S' [] H' → XRep (pmF K cv H G E) G' H' c xs cls dd → E cls dd H'
  | .err => False)
theorem XRep.cast {P P' : Pm} {G : Gh} {H : Hp} {c : Nat} {vs : List D} {cls : Value} {dd : Option Addr} (hK : P.K = P'.K) (hb : ∀ p, P.b.B p = none → P'.b.B p = none) (x : XRep P G H c vs cls dd) : XRep P' G H c vs cls dd := by
  obtain ⟨K, b, cv, W⟩ := P
  obtain ⟨K', b', cv', W'⟩ := P'
  cases hK
  obtain ⟨h1, h2⟩ := x
  refine ⟨h1, ?_⟩
  cases vs with
  | nil => exact h2
  | cons d ds =>
    obtain ⟨e, dx, v, a1, a2, a3, a4⟩ := h2
    exact ⟨e, dx, v, a1, a2, a3, hb _ a4⟩
theorem VOk.behind {K : KW} {b : Bs} {G G' : Gh} {ρ : Rho} {S : List D} {σ : L2.St} {H H' : Hp} {own : Bool} {d : D} {v : V} (r : R K b G ρ S σ H) (w : VOk K ⟨H, G.F, G.ι⟩ G' [] [] H' own d v) : VOk K b G' ρ σ H' own d v := by
  refine ⟨w.1, fun z => ?_⟩
  obtain ⟨a, e, o, l, _⟩ := w.2 z
  have hn : H a = none := l.2.2
  exact ⟨a, e, o, ⟨l.1, l.2.1, r.newB hn⟩, r.noVar hn⟩
/-- a def's promise where no text of a thing is being made -/
structure FnG (P : Program) (w : World) (K : PySem.W.Frag) (mg : Str → Option Value) (base : Heap) (CX : CXT) (k : Nat) (f : Addr) (fd : FuncData) (ps : List Str) (sp : Sp) : Prop where
  len : ∀ vs H Q E, sp vs H Q E → vs.length = ps.length
  go : ∀ {A : Around} {outer : List Env} {s : Shared} {H : Hp} {args : Args} {us : List Value} {vs : List V} {Q : VK} {E : XK}, Room k A → A.guards = some [] → Env0 P w K mg base A outer s H → BindsTo s fd args (ps.zip us) → Vals vs us → sp vs H Q E →
    codeAny (model P w) A (.call (.ref f) args) (CR CX outer P w H s Q E) s
theorem FnG.mono {P : Program} {w : World} {K : PySem.W.Frag} {mg : Str → Option Value} {base : Heap} {CX : CXT} {j k : Nat} {f : Addr} {fd : FuncData} {ps : List Str} {sp : Sp} (F : FnG P w K mg base CX j f fd ps sp) (h : j ≤ k) : FnG P w K mg base CX k f fd ps sp :=
  ⟨F.len, fun hr => F.go (hr.mono h)⟩
section
variable {X : Cx} {CX : CXT} {k : Nat} {f : Addr} {fd : FuncData} {ps : List Str} {sp : Sp} {E : L2.St → XK} {x : Str} {p pos : Pos} {e : Expr} {es : List Expr} {t : TA}
theorem run_g {pins : List (Addr × Obj)} {σ : L2.St} {H : Hp} {s : Shared} {Q : VK} {us : List Value} {vs : List V} (F : FnG X.prog X.w X.K X.mg X.base CX k f fd ps sp) (hr : Room k X.A) (hgd : X.A.guards = some []) (hb : Binds X.K fd ps []) (hx : PassesAt CX X σ (E σ))
    (I : Inv X pins σ H s) (r : Vals vs us) (h : sp vs H Q (E σ)) : wpAny (model X.prog X.w) X.A (call (.ref f) us) (EP X pins σ Q) X.xe s := by
  have b := hb s us I.kIn (by rw [List.append_nil, ← r.length]; exact F.len _ _ _ _ h)
  rw [List.append_nil] at b
  refine wpAny_call (codeAny_mono (F.go hr hgd I.env0 b r h) fun y s' q => ?_)
  rcases y with e | fl
  · exact hx pins H s e s' I q
  · cases fl with
    | ret u => exact I.after q
    | _ => exact q.elim
theorem pe_callG (F : FnG X.prog X.w X.K X.mg X.base CX k f fd ps sp) (hr : Room k X.A) (hgd : X.A.guards = some []) (hg : Gl X x) (hm : X.mg x = some (.ref f)) (hk : PySem.W.keepIn X.K (.ref f) = true) (hb : Binds X.K fd ps []) (hx : ∀ σ, PassesAt CX X σ (E σ))
    (ha : PA X (e :: es) t) (hdb : (x == ("__debug__" : Str)) = false) (he : starEach (e :: es) X.env = (false, eval e X.env) :: starEach es X.env) (hpl : (backTo pos (starEach es X.env)).any (·.1) = false) :
    PE X (.Call (.Name x p) (e :: es) [] pos) (tCallS sp E t) :=
  ⟨fun pins s σ H Q I h => wpAny_Call_Name_kw (ld_glob I hg hm (PySem.W.callWith_K (h₀ := X.base) I.ok.mod.kin hk (thn (ha.run pos pins s σ H _ I h) fun us s1 ⟨vs, H1, I1, r, q⟩ => ⟨I1.kIn, run_g F hr hgd hb (hx σ) I1 r q⟩) he hpl) hdb)⟩
end
section
variable {X : Cx} {P : Pm} {k : Nat} {f : Addr} {fd : FuncData} {ps : List Str} {x : Str} {p pos : Pos} {e : Expr} {es : List Expr} {g : Fn} {ms : M (List D)}
theorem callF_of {σ : L2.St} {H : Hp} {Q : VK} {n : Nat} (q : tmO P (callM n g ms) σ H Q) : tmL P ms σ H fun vs H1 => spF P.K P.cv g n vs H1 Q (WE P.W σ) := by
  refine tm_imp (tm_bind (rel1 := relL P) q) fun vs H1 ⟨G1, ρ1, S1, ds, r, w, q⟩ => ?_
  by_cases hl : ds.length = n
  · simp only [if_pos hl] at q
    refine ⟨G1, S1, ds, r.into, w, hl, ?_⟩
    cases e : g ds S1 with
    | ok y ρ' S' =>
      rw [e] at q
      intro v H' G' le r' w'
      obtain ⟨r2, l2⟩ := r.behind r'
      exact q v H' G' le r2 (VOk.behind r w')
    | exc c xs ρ' S' =>
      rw [e] at q
      intro cls dd H' G' le r' w'
      obtain ⟨r2, l2⟩ := r.behind r'
      exact q cls dd H' G' le r2 (XRep.cast (P := pmF P.K P.cv H1 G1 (WE P.W σ)) rfl (fun p hp => r.newB hp) w')
    | err => rw [e] at q; exact q
  · simp only [if_neg hl] at q
    exact q.elim
/-- f(e, ..) -/
theorem s_call {n : Nat} (hn : ps.length = n) (F : FnG X.prog X.w X.K X.mg X.base (L2.CX X.prog X.w) k f fd ps (spF P.K P.cv g n)) (hr : Room k X.A) (hgd : X.A.guards = some []) (hg : Gl X x) (hm : X.mg x = some (.ref f)) (hk : PySem.W.keepIn X.K (.ref f) = true) (hb : Binds X.K fd ps []) (tk : Takes X P.W)
    (ha : PA X (e :: es) (tmL P ms)) (hdb : (x == ("__debug__" : Str)) = false) (he : starEach (e :: es) X.env = (false, eval e X.env) :: starEach es X.env) (hpl : (backTo pos (starEach es X.env)).any (·.1) = false) :
    PE X (.Call (.Name x p) (e :: es) [] pos) (tmO P (callM n g ms)) :=
  (pe_callG F hr hgd hg hm hk hb (passAt tk) ha hdb he hpl).imp fun σ H Q q => callF_of q
end
/-! ### a def by its body -/
theorem R.params {K : KW} {b : Bs} {G : Gh} {S : List D} {H : Hp} (r : R K b G [] S [] H) {vs : List V} {ds : List D} (w : RepL K G.F G.ι vs ds) (n : Nat) :
    R K b G (ds.map (fun d => some (false, d)) ++ List.replicate (n - ds.length) none) S (vs.map some ++ List.replicate (n - vs.length) none) H := by
  have hl := w.length
  have key : ∀ (i : Nat) (own : Bool) (d : D), (ds.map (fun d => (some (false, d) : Sl)) ++ List.replicate (n - ds.length) none)[i]? = some (some (own, d)) → own = false ∧ ds[i]? = some d := fun i own d e => by
    by_cases hi : i < ds.length
    · rw [List.getElem?_append_left (by simpa using hi), List.getElem?_map] at e
      cases q : ds[i]? with
      | none => rw [q] at e; cases e
      | some d' => rw [q] at e; cases e; exact ⟨rfl, rfl⟩
    · rw [List.getElem?_append_right (by simpa using hi), List.getElem?_replicate] at e
      split at e <;> cases e
  refine ⟨r.fr, r.cn, r.cl, r.nd, r.f0, r.fn, r.i0, r.kp, ?_, fun i own d e => ?_, fun i j d d' a hn e => ?_⟩
  · simp [hl]
  · obtain ⟨rfl, q⟩ := key i own d e
    obtain ⟨v, hv, rv⟩ := w.at q
    refine ⟨v, ?_, fun _ => rv, fun z => nomatch z⟩
    have hi : i < vs.length := (List.getElem?_eq_some_iff.mp hv).1
    rw [List.getElem?_append_left (by simpa using hi), List.getElem?_map, hv]
    rfl
  · exact nomatch (key i true d e).1
section
variable {P : Program} {w : World} {K : KW} {mg : Str → Option Value} {base : Heap} {x qual : Str} {params : Arguments} {body : List Stmt} {scope : Scope} {dvs : List V} {kws : List (Str × V)} {f : Addr} {fd : FuncData} {N ps : List Str} {k : Nat} {m : MS} {cv : Nat → Value × Str}
theorem fnOk {n : Nat} (hn : ps.length = n) (F : FunD K x qual params body scope dvs kws f fd) (Sc : FnScope N ps scope)
    (h : ∀ (cdv : Value) (A : Around) (outer : List Env) (s : Shared) (H : Hp) (E : XK) (b : Bs), cdv = fd.code → A.guards = some [] → Room k (A.deeper (envOfC qual scope s.heap.objs.size f cdv)) →
      Takes (cxOf (L2.CX P w) P w K mg base N qual scope f cdv A outer s H E) (fun cls d _ H => E cls d H) →
      PassesOwn (model P w) (A.deeper (envOfC qual scope s.heap.objs.size f cdv)) (envOfC qual scope s.heap.objs.size f cdv) (cxOf (L2.CX P w) P w K mg base N qual scope f cdv A outer s H E).xe →
      PSs (cxOf (L2.CX P w) P w K mg base N qual scope f cdv A outer s H E) body (tsG ⟨K, b, cv, fun cls d _ H => E cls d H⟩ m)) :
    FnG P w K mg base (L2.CX P w) (k + 1) f fd ps (spF K cv (bodyF N.length m) n) := by
  refine ⟨fun vs H Q E ⟨G, S, ds, r, wr, hl, _⟩ => by rw [wr.length, hl, hn], fun {A outer s H args us vs Q E} hrA hgd e0 hb rv ⟨G, S, ds, r, wr, hl, q⟩ => ?_⟩
  obtain ⟨oc, od, dV, kV, doc, pm, an, cdv, ct, osl, rfl, lk, hcd, _, _⟩ := F.ex
  refine LamX.run_ofS lk hcd Sc hrA e0 hb rv (by rw [wr.length, hl, hn]) fun hr => ?_
  refine ⟨tsG ⟨K, ⟨H, G.F, G.ι⟩, cv, fun cls d _ H => E cls d H⟩ m, h cdv A outer s H E _ rfl hgd hr ?_ ?_, G, _, S, r.params wr N.length, ?_⟩
  · exact takes_of rfl rfl rfl rfl
  · exact passes_of rfl
  · unfold bodyF at q
    generalize m (ds.map (fun d => some (false, d)) ++ List.replicate (N.length - ds.length) none) S = y at q
    cases y with
    | nxt ρ' S' => exact fun σ' H' G' le r' => q .non H' G' le r'.drop (VOk.fz .non)
    | ret z ρ' S' => exact fun v σ' H' G' le r' w' => q v H' G' le r'.drop w'.drop
    | exc c xs ρ' S' => exact fun cls dd σ' H' G' le r' w' => q cls dd H' G' le r'.drop (w'.cast rfl fun p hp => hp)
    | brk => exact q.elim
    | cnt => exact q.elim
    | err => exact q.elim
/-- the tables as cells -/
def tabD (xs : List (List Nat)) : List D := xs.map fun x => .exn 0 [.str x, .non]
/-- the law's own def, at the script -/
theorem law_sp {g : Fn} {n : Nat} {xs : List (List Nat)} (h : ∀ ns : List Int, ns.length ≤ n → ∃ ρ S, g [.scr ns] (tabD xs) = .ok (false, .bl true) ρ S) (H : Hp) (a : Addr) (ns : List Int) (hl : ns.length ≤ n)
    (hnd : (xs.map fun x => tabA K.fr ⟨x.toArray⟩).Nodup) (hT : ∀ x ∈ xs, H (tabA K.fr ⟨x.toArray⟩) = some (.tbl #[])) (hS : SqL K H a (ns.map V.int)) :
    spF K cv g 1 [.ref a] H (fun v _ => v = .bl true) fun _ _ _ => False := by
  have nt : ∀ b o, H b = some o → (∀ ps, o ≠ .tbl ps) → (if b ∈ xs.map (fun x => tabA K.fr ⟨x.toArray⟩) then none else H b) = some o := fun b o e hn => by
    rw [if_neg]
    · exact e
    · intro hm
      obtain ⟨x, hx, rfl⟩ := List.mem_map.mp hm
      rw [hT x hx] at e
      cases e
      exact hn _ rfl
  have hS' : SqL K (fun b => if b ∈ xs.map (fun x => tabA K.fr ⟨x.toArray⟩) then none else H b) a (ns.map V.int) := by
    rcases hS with (q | ⟨o, q⟩) | q
    · exact .inl (.inl (nt _ _ q fun ps z => nomatch z))
    · exact .inl (.inr ⟨o, nt _ _ q fun ps z => nomatch z⟩)
    · exact .inr q
  refine ⟨⟨fun b => if b ∈ xs.map (fun x => tabA K.fr ⟨x.toArray⟩) then none else H b, xs.map fun x => tabA K.fr ⟨x.toArray⟩⟩, tabD xs, [.scr ns], ⟨fun b o e => ?_, by simp [tabD], fun i d e => ?_, hnd, Sub.refl _, fun b e _ => e, ⟨[], by simp, fun b h => by simp at h⟩, fun b o e _ => e, rfl, fun i own d e => by simp at e, fun i j d d' a n e1 => by simp at e1⟩, .cons (.scr hS') .nil, rfl, ?_⟩
  · have e : (if b ∈ xs.map (fun x => tabA K.fr ⟨x.toArray⟩) then none else H b) = some o := e
    split at e
    · cases e
    · exact e
  · unfold tabD at e
    rw [List.getElem?_map, Option.map_eq_some_iff] at e
    obtain ⟨x, hx, rfl⟩ := e
    have hm := List.mem_of_getElem? hx
    refine ⟨tabA K.fr ⟨x.toArray⟩, by show (xs.map fun x => tabA K.fr ⟨x.toArray⟩)[i]? = _; rw [List.getElem?_map, hx]; rfl, ⟨_, hT x hm, .tbl rfl trivial fun pos cv hc => ?_⟩, if_pos (List.mem_map.mpr ⟨x, hm, rfl⟩)⟩
    have z : codeAmong pos [] = some cv := hc
    simp [codeAmong] at z
  · obtain ⟨ρ, S, e⟩ := h ns hl
    rw [e]
    intro v H' G' le r w'
    exact (w'.1 rfl).toBl
end
/-! ### more of statements -/
/-- x = e, the list made a cell -/
def setC (i : Nat) (m : M OD) : MS := m.thn fun x ρ S => if x.1 then .nxt (ρ.set i (some (false, .cell S.length))) (S ++ [x.2]) else .err
section
variable {X : Cx} {P : Pm} {e : Expr} {m : M OD} {i : Nat} {x : Str} {p pos pos' : Pos}
theorem VOk.cell {K : KW} {b : Bs} {G : Gh} {ρ : Rho} {S : List D} {σ : L2.St} {H : Hp} {d : D} {v : V} (r : R K b G ρ S σ H) (w : VOk K b G ρ σ H true d v) :
    ∃ G', G.le G' ∧ R K b G' ρ (S ++ [d]) σ H ∧ Rep K G'.F G'.ι v (.cell S.length) := by
  obtain ⟨a, rfl, o, l, nv⟩ := w.2 rfl
  obtain ⟨r2, le⟩ := r.toCell o l nv
  refine ⟨_, le, r2, .cell ?_⟩
  show (G.ι ++ [a])[S.length]? = some a
  rw [← r.cn]
  simp
theorem s_setC (hN : X.N.Nodup) (hi : X.N[i]? = some x) (hx : Loc X.env.scope x) (h : PE X e (tmO P m)) (hs : swapsWith e (some (.Name x p)) pos.line X.env = pure false) (hf : X.fn x = true ∨ X.env.scope.names.lookup x = some .local) :
    PS X (.Assign [.Name x p] e pos) (tsG P (setC i m)) :=
  (ps_set hN hi hx h hs hf).imp fun E σ H ⟨G, ρ, S, r, q⟩ => tm_imp (thn_of (rel := relO P) r q) fun v H1 ⟨G1, ρ1, S1, a, r1, w, le, q1⟩ => by
    obtain ⟨own, d⟩ := a
    cases own with
    | false => exact q1.elim
    | true =>
      obtain ⟨G2, le2, r2, w2⟩ := VOk.cell r1 w
      exact q1 _ H1 G2 le2 (r2.store (VOk.fz w2) i)
/-- x = [e for ..] on one line -/
theorem s_setLc {elt tg iter : Expr} {ifs : List Expr} {scope : Scope} {own : List (Str × Nat)} {it : M (List D)} {t : Tg} {cond : Option (M OD)} (hc : X.calm = true) (hN : X.N.Nodup) (hi : X.N[i]? = some x) (hyl : X.env.scope.names.lookup x = some .local)
    (hsw : swapsWith (.ListComp elt [⟨tg, iter, ifs, 0⟩] scope pos) (some (.Name x p)) pos'.line X.env = pure true) (hI : PI X tg iter (tiG P it)) (ok : BlkOk X.N X.env.scope scope own) (htg : t.inn (own.map (·.2)))
    (hg : ∀ (s : Shared) (H : Hp) (C : Addr) (cl : List (Str × Addr)) (fp : List Addr) (b : Bs), PG (X.blk s H scope (compEnvC scope cl C X.env) fp) tg (tgG (P.calm b) t))
    (ht : ∀ (s : Shared) (H : Hp) (C : Addr) (cl : List (Str × Addr)) (fp : List Addr) (b : Bs), PTs (X.blk s H scope (compEnvC scope cl C X.env) fp) ifs (tmB (P.calm b) (condM cond)))
    (he : ∀ (s : Shared) (H : Hp) (C : Addr) (cl : List (Str × Addr)) (fp : List Addr) (b : Bs), PE (X.blk s H scope (compEnvC scope cl C X.env) fp) elt (tmO (P.calm b) m)) (hs : ∀ x, foldedSetIterable iter X.env x = pure x) :
    PS X (.Assign [.Name x p] (.ListComp elt [⟨tg, iter, ifs, 0⟩] scope pos) pos') (tsG P (setS i (compM it t cond m (own.map (·.2))))) :=
  (ps_setLc hc hN hi hyl hsw hI ok (g := gAny P t) (tt := tAny P (condM cond)) (te := eAny P m.val) (fun s H C cl fp => ⟨fun pins s' σ H' v u Q I r ⟨b, q⟩ => (hg s H C cl fp b).run pins s' σ H' v u Q I r q⟩)
    (fun s H C cl fp => ⟨fun pins s' σ H' Q I ⟨b, q⟩ => (ht s H C cl fp b).run pins s' σ H' Q I q⟩) (fun s H C cl fp => ⟨fun pins s' σ H' Q I ⟨b, q⟩ => (PE.val (he s H C cl fp b)).run pins s' σ H' Q I q⟩) hs).imp fun E σ H ⟨G, ρ, S, r, q⟩ =>
    show tLc _ _ _ _ _ σ H (fun x H1 => E.nx (σ.set i (some x)) H1) from comp_of htg (tm_imp (thn_of (rel := relO P) r q) fun v H1 ⟨G1, ρ1, S1, a, r1, w, le, q1⟩ => by
      obtain ⟨o, d⟩ := a
      exact q1 _ H1 G1 (Gh.le.refl _) (r1.store w i))
end
end Mi

namespace Mi
open PySem PySem.Spec PyProof.Rows L2

/-! ### forms as the printed proofs use them -/
structure Ok (k : Nat) (X : Cx) (P : Pm) : Prop where
  hK : X.K = P.K
  hN : X.N.Nodup
  calm : X.calm = true
  room : Room k X.A
  tk : Takes X P.W
  hw : X.w = P.K.w
  gd : X.A.guards = some []
theorem Ok.un {k : Nat} {X : Cx} {P : Pm} (o : Ok k X P) : X.A.units + 200 < cLine := by have := o.room.un; omega
theorem Ok.blk {k : Nat} {X : Cx} {P : Pm} (o : Ok k X P) (s : Shared) (H : Hp) (scope : Scope) (ce : Env) (fp : List Addr) (b : Bs) : Ok k (X.blk s H scope ce fp) (P.calm b) := ⟨o.hK, o.hN, o.calm, o.room, takes0, o.hw, o.gd⟩
def okName (x : Str) : Bool := !(x == ("__debug__" : Str)) && !(x == ("__classdict__" : Str))
def visB (sc : Scope) (x : Str) : Bool := match sc.names.lookup x with
  | some .local => true
  | some .cell => true
  | some .free => true
  | _ => false
theorem visB_ok {sc : Scope} {x : Str} (h : visB sc x = true) : Vis sc x := by
  unfold visB at h
  unfold Vis
  cases e : sc.names.lookup x with
  | none => rw [e] at h; cases h
  | some k => cases k <;> rw [e] at h <;> first | (cases h; done) | exact .inl rfl | exact .inr (.inl rfl) | exact .inr (.inr rfl)
/-- the name N[i] is read -/
structure At (X : Cx) (i : Nat) (x : Str) : Prop where
  N : X.N[i]? = some x
  b : (visB X.env.scope x && okName x) = true
theorem At.v {X : Cx} {i : Nat} {x : Str} (a : At X i x) : Vis X.env.scope x := visB_ok (Bool.and_eq_true_iff.mp a.b).1
theorem okName_d {x : Str} (h : okName x = true) : (x == ("__debug__" : Str)) = false := by
  unfold okName at h
  simp only [Bool.and_eq_true, Bool.not_eq_true'] at h
  exact h.1
theorem okName_c {x : Str} (h : okName x = true) : (x == ("__classdict__" : Str)) = false := by
  unfold okName at h
  simp only [Bool.and_eq_true, Bool.not_eq_true'] at h
  exact h.2
theorem At.d {X : Cx} {i : Nat} {x : Str} (a : At X i x) : (x == ("__debug__" : Str)) = false := okName_d (Bool.and_eq_true_iff.mp a.b).2
theorem At.c {X : Cx} {i : Nat} {x : Str} (a : At X i x) : (x == ("__classdict__" : Str)) = false := okName_c (Bool.and_eq_true_iff.mp a.b).2
def locB (X : Cx) (x : Str) : Bool := match X.env.scope.names.lookup x with
  | some .local => true
  | some .cell => X.fn x
  | _ => false
/-- the name N[i] is stored to -/
structure To (X : Cx) (i : Nat) (x : Str) : Prop where
  N : X.N[i]? = some x
  b : locB X x = true
theorem To.l {X : Cx} {i : Nat} {x : Str} (a : To X i x) : L2.Loc X.env.scope x := by
  have h := a.b
  unfold locB at h
  unfold L2.Loc
  cases e : X.env.scope.names.lookup x with
  | none => rw [e] at h; cases h
  | some k => cases k <;> rw [e] at h <;> first | (cases h; done) | exact .inl rfl | exact .inr rfl
theorem To.f {X : Cx} {i : Nat} {x : Str} (a : To X i x) : X.fn x = true ∨ X.env.scope.names.lookup x = some .local := by
  have h := a.b
  unfold locB at h
  cases e : X.env.scope.names.lookup x with
  | none => rw [e] at h; cases h
  | some k => cases k <;> rw [e] at h <;> first | (cases h; done) | exact .inr rfl | exact .inl h
/-- a global's name -/
structure Gn (X : Cx) (x : Str) : Prop where
  b : ((match X.env.scope.names.lookup x with
    | some .globalImplicit => true
    | _ => false) && okName x) = true
theorem Gn.g {X : Cx} {x : Str} (a : Gn X x) : Gl X x := by
  have h := (Bool.and_eq_true_iff.mp a.b).1
  show X.env.scope.names.lookup x = some .globalImplicit
  cases e : X.env.scope.names.lookup x with
  | none => rw [e] at h; cases h
  | some k => cases k <;> rw [e] at h <;> first | (cases h; done) | rfl
theorem Gn.d {X : Cx} {x : Str} (a : Gn X x) : (x == ("__debug__" : Str)) = false := okName_d (Bool.and_eq_true_iff.mp a.b).2
/-- a built-in's name -/
structure Bn (X : Cx) (x : Str) : Prop where
  g : Gn X x
  m : X.mg x = none

def isStar : Expr → Bool
  | .Starred .. => true
  | _ => false
theorem star1 {e : Expr} {es : List Expr} {env : Env} (h : isStar e = false) : starEach (e :: es) env = (false, eval e env) :: starEach es env := by
  cases e <;> first | rfl | cases h
theorem star0 {pos : Pos} {env : Env} : ∀ {es : List Expr}, es.all (fun e => !isStar e) = true → (backTo pos (starEach es env)).any (·.1) = false
  | [], _ => rfl
  | e :: es, h => by
    simp only [List.all_cons, Bool.and_eq_true, Bool.not_eq_true'] at h
    rw [star1 h.1]
    show (backTo pos ((false, eval e env) :: starEach es env)).any (·.1) = false
    unfold backTo
    rw [List.map_cons, List.any_cons]
    show (false || _) = false
    rw [Bool.false_or]
    exact star0 h.2
def isLc : Expr → Bool
  | .ListComp .. => true
  | .SetComp .. => true
  | .DictComp .. => true
  | _ => false
theorem sw0 {e : Expr} {t : Option Expr} {l : Nat} {env : Env} (h : isLc e = false) : swapsWith e t l env = pure false := by
  cases e <;> first | rfl | cases h
/-- the callee -/
structure CallAt (P : Program) (w : World) (K : KW) (mg : Str → Option Value) (base : Heap) (cv : Nat → Value × Str) (k : Nat) (x : Str) (n : Nat) (g : Fn) : Prop where
  ex : ∃ (f : Addr) (fd : FuncData) (ps : List Str), ps.length = n ∧ FnG P w K mg base (L2.CX P w) k f fd ps (spF K cv g n) ∧ mg x = some (.ref f) ∧ PySem.W.keepIn K (.ref f) = true ∧ Binds K fd ps []
section
variable {X : Cx} {P : Pm} {k : Nat} {x : Str} {p pos : Pos} {e a b c : Expr} {es : List Expr} {g : Fn} {ms : M (List D)} {m ma mb n t : M OD} {oa ob oc : M Opd} {i j : Nat} {d : D}
theorem t_var (v : At X i x) : PE X (.Name x pos) (tmO P (varM i)) := s_var v.N v.v v.d v.c
theorem t_mov (v : At X i x) : PE X (.Name x pos) (tmO P (movM i)) := s_mov v.N v.v v.d v.c
theorem t_opd (v : At X i x) : PE X (.Name x pos) (tmP P (chkM i)) := s_opd v.N v.v v.d v.c
theorem t_glob (gn : Gn X x) (gv : GlobV P.K X.mg x d) : PE X (.Name x pos) (tmO P (gives d)) := s_glob gv gn.g gn.d
theorem t_call {j n : Nat} (o : Ok k X P) (c : CallAt X.prog X.w P.K X.mg X.base P.cv j x n g) (hj : j ≤ k) (gn : Gn X x) (ha : PA X (e :: es) (tmL P ms)) (hs : (e :: es).all (fun e => !isStar e) = true) :
    PE X (.Call (.Name x p) (e :: es) [] pos) (tmO P (callM n g ms)) := by
  obtain ⟨f, fd, ps, hn, F, hm, hk, hb⟩ := c.ex
  rw [← o.hK] at hk hb
  have F' : FnG X.prog X.w X.K X.mg X.base (L2.CX X.prog X.w) j f fd ps (spF P.K P.cv g n) := by rw [o.hK]; exact F
  simp only [List.all_cons, Bool.and_eq_true, Bool.not_eq_true'] at hs
  exact s_call hn (F'.mono hj) o.room o.gd gn.g hm hk hb o.tk ha gn.d (star1 hs.1) (star0 hs.2)
variable {os : M (List Opd)}
theorem t_paP (ha : PE X e (tmP P oa)) (hr : PA X es (tmG P (relPL P) os)) (hs : isStar e = false) : PA X (e :: es) (tmG P (relPL P) (consM oa os)) := paP ha hr (star1 hs)
theorem t_paV (ha : PE X e (tmO P m)) (hr : PA X es (tmL P ms)) (hs : isStar e = false) : PA X (e :: es) (tmL P (consV m ms)) := paV ha hr (star1 hs)
end
/-! ### operators -/
inductive AO where
  | add | sub | mul | div | mod | pow
def AO.op : AO → Operator
  | .add => .Add | .sub => .Sub | .mul => .Mult | .div => .FloorDiv | .mod => .Mod | .pow => .Pow
def AO.sem : AO → D → D → M OD
  | .add => addD | .sub => subD | .mul => mulD | .div => divD | .mod => modD | .pow => powD
def AO.r (K : PySem.W.Frag) : AO → R2
  | .add => rAddD K | .sub => rI0 fun i j => .int (i - j) | .mul => rMulD | .div => rI CDivW fun i j => .int (i / j) | .mod => rI (fun _ j => 0 < j) fun i j => .int (i % j) | .pow => rI CPow fun i j => .int (i ^ j.toNat)
/-- x is True, x is not False .. -/
def isBD (neg : Bool) (d e : D) : M OD := match e with
  | .bl b => ofBool (match d with
    | .bl c => if neg then !(c == b) else c == b
    | _ => neg)
  | _ => M.err
def rIsB (neg : Bool) : R2 := fun x y H Q => ∃ b, y = .bl b ∧ (x = .non ∨ (∃ c, x = .bl c) ∨ (∃ i, x = .int i) ∨ (∃ s, x = .str s) ∨ ∃ a, x = .ref a) ∧ Q (.bl (match x with
    | .bl c => if neg then !(c == b) else c == b
    | _ => neg)) H
inductive CO where
  | eq | ne | lt | le | gt | ge | ins | nin | isB | isnB
def CO.op : CO → CmpOp
  | .eq => .Eq | .ne => .NotEq | .lt => .Lt | .le => .LtE | .gt => .Gt | .ge => .GtE | .ins => .In | .nin => .NotIn | .isB => .Is | .isnB => .IsNot
def CO.sem : CO → D → D → M OD
  | .eq => eqD | .ne => neD | .lt => ltD | .le => leD | .gt => gtD | .ge => geD | .ins => inD false | .nin => inD true | .isB => isBD false | .isnB => isBD true
def CO.r (X : Cx) : CO → R2
  | .eq => rEqD X.K | .ne => rNeD X.K | .lt => rLtD | .le => rI0 fun i j => .bl (decide (i ≤ j)) | .gt => rI0 fun i j => .bl (decide (j < i)) | .ge => rI0 fun i j => .bl (decide (j ≤ i))
  | .ins => fun x y H Q => (rInS false x y H Q ∨ rInP X.K false x y H Q) ∨ rDin X false x y H Q | .nin => fun x y H Q => (rInS true x y H Q ∨ rInP X.K true x y H Q) ∨ rDin X true x y H Q
  | .isB => rIsB false | .isnB => rIsB true
section
variable {X : Cx} {P : Pm} {k : Nat} {x : Str} {p p' pos : Pos} {e a b c : Expr} {es : List Expr} {g : Fn} {ms : M (List D)} {m ma mb n t : M OD} {oa ob oc : M Opd} {i j : Nat} {d : D} {os : M (List Opd)}
theorem op_isB : OpR X (compareOp .Is) (rIsB false) := by
  intro pins s σ H x y v u Q I rx ry h
  obtain ⟨b, rfl, hx, q⟩ := h
  cases ry
  rcases hx with rfl | ⟨c, rfl⟩ | ⟨i, rfl⟩ | ⟨z, rfl⟩ | ⟨a, rfl⟩
  · cases rx; exact wpAny_pure ⟨.bl false, H, I, rfl, q⟩
  · cases rx
    refine wpAny_pure ⟨.bl (c == b), H, I, ?_, q⟩
    show Value.bool (Value.bool c == Value.bool b) = Value.bool (c == b)
    cases c <;> cases b <;> rfl
  · obtain ⟨t, rfl⟩ := rx; exact wpAny_pure ⟨.bl false, H, I, rfl, q⟩
  · obtain ⟨t, rfl⟩ := rx; exact wpAny_pure ⟨.bl false, H, I, rfl, q⟩
  · cases rx; exact wpAny_pure ⟨.bl false, H, I, rfl, q⟩
theorem op_isnB : OpR X (compareOp .IsNot) (rIsB true) := by
  intro pins s σ H x y v u Q I rx ry h
  obtain ⟨b, rfl, hx, q⟩ := h
  cases ry
  rcases hx with rfl | ⟨c, rfl⟩ | ⟨i, rfl⟩ | ⟨z, rfl⟩ | ⟨a, rfl⟩
  · cases rx; exact wpAny_pure ⟨.bl true, H, I, rfl, q⟩
  · cases rx
    refine wpAny_pure ⟨.bl (!(c == b)), H, I, ?_, q⟩
    show Value.bool (!(Value.bool c == Value.bool b)) = Value.bool (!(c == b))
    cases c <;> cases b <;> rfl
  · obtain ⟨t, rfl⟩ := rx; exact wpAny_pure ⟨.bl true, H, I, rfl, q⟩
  · obtain ⟨t, rfl⟩ := rx; exact wpAny_pure ⟨.bl true, H, I, rfl, q⟩
  · cases rx; exact wpAny_pure ⟨.bl true, H, I, rfl, q⟩
theorem q_isB (neg : Bool) : QOk P (rIsB neg) (isBD neg) := fun {G ρ S σ H x y d e Q} r w1 w2 h => by
  unfold isBD at h
  cases e with
  | bl b =>
    cases w2.bl
    have h := post_gives (x := .bl _) h r (.bl _)
    cases d with
    | non => cases w1.non; exact ⟨b, rfl, .inl rfl, h⟩
    | bl c => cases w1.bl; exact ⟨b, rfl, .inr (.inl ⟨c, rfl⟩), h⟩
    | int i => cases w1.int; exact ⟨b, rfl, .inr (.inr (.inl ⟨i, rfl⟩)), h⟩
    | str z => obtain ⟨rfl, _⟩ := w1.str; exact ⟨b, rfl, .inr (.inr (.inr (.inl ⟨_, rfl⟩))), h⟩
    | lst xs => obtain ⟨a, vs, rfl, _⟩ := w1.lst r.fr; exact ⟨b, rfl, .inr (.inr (.inr (.inr ⟨_, rfl⟩))), h⟩
    | tup xs => obtain ⟨a, vs, rfl, _⟩ := w1.tup r.fr; exact ⟨b, rfl, .inr (.inr (.inr (.inr ⟨_, rfl⟩))), h⟩
    | scr xs => obtain ⟨a, rfl, _⟩ := w1.scr r.fr; exact ⟨b, rfl, .inr (.inr (.inr (.inr ⟨_, rfl⟩))), h⟩
    | cell n => obtain ⟨a, rfl, _⟩ := w1.cell; exact ⟨b, rfl, .inr (.inr (.inr (.inr ⟨_, rfl⟩))), h⟩
    | dct k xs => obtain ⟨a, o, rfl, _⟩ := w1.ob r.fr rfl; exact ⟨b, rfl, .inr (.inr (.inr (.inr ⟨_, rfl⟩))), h⟩
    | obj k xs => obtain ⟨a, o, rfl, _⟩ := w1.ob r.fr rfl; exact ⟨b, rfl, .inr (.inr (.inr (.inr ⟨_, rfl⟩))), h⟩
    | exn k xs => obtain ⟨a, o, rfl, _⟩ := w1.ob r.fr rfl; exact ⟨b, rfl, .inr (.inr (.inr (.inr ⟨_, rfl⟩))), h⟩
  | _ => exact h.elim
theorem AO.ok (o : Ok k X P) (f : AO) : OpR X (binaryOp f.op) (f.r X.K) := by
  cases f
  · exact op_addD
  · exact op_sub
  · exact op_mulD
  · exact op_fdivW
  · exact op_mod
  · exact op_pow
theorem AO.q (o : Ok k X P) (f : AO) : QOk P (f.r X.K) f.sem := by
  cases f
  · exact fun r w1 w2 h => q_add o.hK r w1 w2 h
  · exact fun r w1 w2 h => q_sub r w1 w2 h
  · exact fun r w1 w2 h => q_mul r w1 w2 h
  · exact fun r w1 w2 h => q_div r w1 w2 h
  · exact fun r w1 w2 h => q_mod r w1 w2 h
  · exact fun r w1 w2 h => q_pow r w1 w2 h
theorem CO.ok (o : Ok k X P) (f : CO) : OpR X (compareOp f.op) (f.r X) := by
  cases f
  · exact op_eqD (by have := o.un; omega)
  · exact op_neD (by have := o.un; omega)
  · exact op_ltDD
  · exact op_le
  · exact op_gt
  · exact op_ge
  · exact op_inD o.un
  · exact op_notInD o.un
  · exact op_isB
  · exact op_isnB
theorem CO.q (o : Ok k X P) (f : CO) : QOk P (f.r X) f.sem := by
  cases f
  · exact fun r w1 w2 h => q_eq o.hK r w1 w2 h
  · exact fun r w1 w2 h => q_ne o.hK r w1 w2 h
  · exact fun r w1 w2 h => q_lt r w1 w2 h
  · exact fun r w1 w2 h => q_le r w1 w2 h
  · exact fun r w1 w2 h => q_gt r w1 w2 h
  · exact fun r w1 w2 h => q_ge r w1 w2 h
  · exact q_in o.hK o.hw false
  · exact q_in o.hK o.hw true
  · exact q_isB false
  · exact q_isB true
theorem t_bin (o : Ok k X P) (f : AO) (ha : PE X a (tmP P oa)) (hb : PE X b (tmP P ob)) : PE X (.BinOp a f.op b pos) (tmO P (op2M oa ob f.sem)) := pe_op2 (f.ok o) (f.q o) ha hb
theorem t_cmp (o : Ok k X P) (f : CO) (ha : PE X a (tmP P oa)) (hb : PE X b (tmP P ob)) (hm : behindInMarks f.op b = false) : PE X (.Compare a [f.op] [b] pos) (tmO P (op2M oa ob f.sem)) := pe_cmp2 (f.ok o) (f.q o) hm ha hb
theorem t_cmpT (o : Ok k X P) (f : CO) (ha : PE X a (tmP P oa)) (hb : PE X b (tmP P ob)) (hm : behindInMarks f.op b = false) : PT X (.Compare a [f.op] [b] pos) (tmB P (M.test (op2M oa ob f.sem))) := pt_cmp2 (f.ok o) (f.q o) hm ha hb
theorem t_chain (o : Ok k X P) (f f' : CO) (ha : PE X a (tmP P oa)) (hb : PE X b (tmP P ob)) (hc : PE X c (tmP P oc)) (hm : lastMarks [f.op, f'.op] [b, c] = false) : PE X (.Compare a [f.op, f'.op] [b, c] pos) (tmO P (chainM oa ob oc f.sem f'.sem)) :=
  (pe_chain (f.ok o) (f'.ok o) ha hb hc hm).imp fun _ _ _ q => three_of (f.q o) (f'.q o) q
theorem t_chainT (o : Ok k X P) (f f' : CO) (ha : PE X a (tmP P oa)) (hb : PE X b (tmP P ob)) (hc : PE X c (tmP P oc)) (hm : lastMarks [f.op, f'.op] [b, c] = false) : PT X (.Compare a [f.op, f'.op] [b, c] pos) (tmB P (M.test (chainM oa ob oc f.sem f'.sem))) :=
  (pt_chain (f.ok o) (f'.ok o) ha hb hc hm).imp fun _ _ _ q => three_of (f.q o) (f'.q o) (tm_test q)
def isSlice : Expr → Bool
  | .Slice .. => true
  | _ => false
theorem t_ix (o : Ok k X P) (ha : PE X a (tmP P oa)) (hb : PE X b (tmP P ob)) (h : isSlice b = false) : PE X (.Subscript a b pos) (tmO P (op2M oa ob ixD)) := s_ix o.hK o.hw (by have := o.un; omega) (by cases b <;> first | rfl | cases h) ha hb
theorem t_sl (o : Ok k X P) {lo hi : Option Expr} {ml mh : M (Option Int)} {p2 : Pos} (ha : PE X a (tmP P oa)) (hl : PO X lo (tmI P ml)) (hh : PO X hi (tmI P mh)) : PE X (.Subscript a (.Slice lo hi none p2) pos) (tmO P (slM oa ml mh)) := s_sl o.hK ha hl hh
theorem t_bi (o : Ok k X P) (f : BI) (bn : Bn X f.name) (ha : PA X (e :: es) (tmG P (relPL P) os)) (hs : (e :: es).all (fun e => !isStar e) = true) : PE X (.Call (.Name f.name p) (e :: es) [] pos) (tmO P (biM os f.sem)) := by
  simp only [List.all_cons, Bool.and_eq_true, Bool.not_eq_true'] at hs
  exact s_bi o.hK o.hw o.calm f bn.g.g bn.m ha (star1 hs.1) (star0 hs.2)
theorem t_isi (o : Ok k X P) (T : Ty) (bn : Bn X "isinstance") (bT : Bn X (T.name : Str)) (ha : PE X e (tmP P oa)) (hs : isStar e = false) : PE X (.Call (.Name "isinstance" p) [e, .Name (T.name : Str) p'] [] pos) (tmO P (isiM oa T)) :=
  s_isi o.hK bn.g.g bn.m bT.g.g bT.m ha (star1 hs)
theorem fewB {cpos : Pos} {env : Env} (hs : es.all (fun e => !isStar e) = true) (hl : es.length < 30) : ((backTo cpos (starEach es env)).all (fun x => !x.1) && (backToKw cpos (keywordEach [] env)).all (fun x => x.1.isSome)
      && decide (es.length + ([] : List Keyword).length + (if ([] : List Keyword).isEmpty then 0 else 1) < 30)) = true := by
  have h1 := star0 (pos := cpos) (env := env) hs
  rw [List.any_eq_false] at h1
  rw [Bool.and_eq_true, Bool.and_eq_true]
  refine ⟨⟨List.all_eq_true.mpr fun y hy => ?_, rfl⟩, decide_eq_true (by simpa using hl)⟩
  have := h1 y hy
  revert this
  cases y.1 <;> simp
def isCall0 : Expr → Bool
  | .Call (.Name ..) [] [] _ => true
  | _ => false
theorem base0 {env : Env} {at_ : Str} {w : Sem Value} (h : isCall0 a = false) : attributeBase a at_ env w = w := by
  unfold attributeBase
  split
  · cases h
  · rfl
theorem t_mt (o : Ok k X P) (f : MT) {apos cpos : Pos} (ho : PE X a (tmP P oa)) (ha : PA X (e :: es) (tmG P (relPL P) os)) (h0 : isCall0 a = false) (hs : (e :: es).all (fun e => !isStar e) = true) (hl : (e :: es).length < 30) (hline : (apos.endLine == cpos.line) = true) :
    PE X (.Call (.Attribute a f.name apos) (e :: es) [] cpos) (tmO P (mtM f.T oa os f.sem)) := by
  have hs2 := hs
  simp only [List.all_cons, Bool.and_eq_true, Bool.not_eq_true'] at hs2
  exact s_mt o.hK o.un f ho ha (base0 h0) (fewB hs hl) hline (star1 hs2.1) (star0 hs2.2)
theorem t_mt0 (o : Ok k X P) (f : MT) {apos cpos : Pos} (ho : PE X a (tmP P oa)) (h0 : isCall0 a = false) (hline : (apos.endLine == cpos.line) = true) :
    PE X (.Call (.Attribute a f.name apos) [] [] cpos) (tmO P (mtM f.T oa (pure []) f.sem)) := s_mt0 o.hK o.un f ho (base0 h0) hline
theorem t_vm (f : VT) (v : At X i x) {apos cpos : Pos} (ha : PA X (e :: es) (tmL P ms)) (hs : (e :: es).all (fun e => !isStar e) = true) (hl : (e :: es).length < 30) (hline : (apos.endLine == cpos.line) = true) :
    PE X (.Call (.Attribute (.Name x p) f.name apos) (e :: es) [] cpos) (tmO P (vmM i f ms)) := by
  have hs2 := hs
  simp only [List.all_cons, Bool.and_eq_true, Bool.not_eq_true'] at hs2
  exact s_vm f v.N v.v v.d v.c ha (base0 rfl) (fewB hs hl) hline (star1 hs2.1) (star0 hs2.2)
theorem t_vm0 (f : VT) (v : At X i x) {apos cpos : Pos} (hline : (apos.endLine == cpos.line) = true) :
    PE X (.Call (.Attribute (.Name x p) f.name apos) [] [] cpos) (tmO P (vmM i f (pure []))) := s_vm0 f v.N v.v v.d v.c (base0 rfl) hline
/-! iterations, targets -/
variable {tg iter elt : Expr} {it : M (List D)} {tt : Tg}
theorem t_ival (o : Ok k X P) (h : PE X e (tmO P m)) : PI X tg e (tiG P (itM m)) := pi_val o.hK h
theorem t_rng1 (bn : Bn X "range") (ha : PA X [a] (tmG P (relPL P) os)) (hs : isStar a = false) : PI X tg (.Call (.Name "range" p) [a] [] pos) (tiG P (itOs os rng1A)) := s_rng1 bn.g.g bn.m ha (star1 hs)
theorem t_rng2 (bn : Bn X "range") (ha : PA X [a, b] (tmG P (relPL P) os)) (hs : isStar a = false) (hs2 : isStar b = false) : PI X tg (.Call (.Name "range" p) [a, b] [] pos) (tiG P (itOs os rng2A)) := s_rng2 bn.g.g bn.m ha ((star1 hs).trans (by rw [star1 hs2]; rfl)) (star1 hs2)
theorem t_enum (o : Ok k X P) (bn : Bn X "enumerate") {elts : List Expr} {kk : Nat} {tpos : Pos} (ha : PA X [e] (tmL P ms)) (hs : isStar e = false) : PI X (.Tuple elts kk tpos) (.Call (.Name "enumerate" p) [e] [] pos) (tiG P (enumM ms)) := s_enum o.hK bn.g.g bn.m ha (star1 hs)
theorem t_tg1 (o : Ok k X P) (v : To X i x) : PG X (.Name x pos) (tgG P (.one i)) := s_tg1 o.hN v.N v.l v.f
theorem t_gs0 : PGs X [] (gMany []) := pgs_nil
end
end Mi

namespace Mi
open PySem PySem.Spec PyProof.Rows L2

/-! ### the printed proofs' contexts -/
structure Cxt (X : Cx) (N : List Str) (sc : Scope) (fl : Str → Bool) : Prop where
  N : X.N = N
  sc : X.env.scope = sc
  fn : X.fn = fl
def relS (scope sc : Scope) : Scope := { scope with names := scope.names.map fun (n, k) => if (k == .free && sc.kind == .function && sc.names.lookup n == some .cell) then (n, .cell) else (n, k) }
def flB (scope : Scope) : Str → Bool := fun x => scope.names.lookup x == some .cell
def fl1 : Str → Bool := fun _ => true
def locS (sc : Scope) (fl : Str → Bool) (x : Str) : Bool := match sc.names.lookup x with
  | some .local => true
  | some .cell => fl x
  | _ => false
def gnS (sc : Scope) (x : Str) : Bool := (match sc.names.lookup x with
    | some .globalImplicit => true
    | _ => false) && okName x
section
variable {X : Cx} {N : List Str} {sc scope : Scope} {fl : Str → Bool} {k : Nat} {P : Pm}
theorem Cxt.blk (z : Cxt X N sc fl) (s : Shared) (H : Hp) (C : Addr) (cl : List (Str × Addr)) (fp : List Addr) : Cxt (X.blk s H scope (compEnvC scope cl C X.env) fp) N (relS scope sc) (flB scope) := by
  refine ⟨z.N, ?_, rfl⟩
  rw [← z.sc]
  rfl
theorem Cxt.at_ (z : Cxt X N sc fl) (i : Nat) (x : Str) (h1 : N[i]? = some x) (h2 : (visB sc x && okName x) = true) : At X i x := ⟨by rw [z.N]; exact h1, by rw [z.sc]; exact h2⟩
theorem Cxt.to (z : Cxt X N sc fl) (i : Nat) (x : Str) (h1 : N[i]? = some x) (h2 : locS sc fl x = true) : To X i x := ⟨by rw [z.N]; exact h1, by
  unfold locB
  rw [z.sc, z.fn]
  exact h2⟩
theorem Cxt.gn (z : Cxt X N sc fl) (x : Str) (h : gnS sc x = true) : Gn X x := ⟨by rw [z.sc]; exact h⟩
theorem Cxt.bk (z : Cxt X N sc fl) {own : List (Str × Nat)} (h : blkC N sc scope own = true) : BlkOk X.N X.env.scope scope own := by
  rw [z.N, z.sc]
  exact blkOk_by h
end
structure Same (X : Cx) (Q : Pm) (P : Program) (w : World) (K : KW) (mg : Str → Option Value) (base : Heap) (cv : Nat → Value × Str) : Prop where
  p : P = X.prog
  w : w = X.w
  K : K = Q.K
  mg : mg = X.mg
  base : base = X.base
  cv : cv = Q.cv
section
variable {X : Cx} {Q : Pm} {P : Program} {w : World} {K : KW} {mg : Str → Option Value} {base : Heap} {cv : Nat → Value × Str}
theorem Same.call {k n : Nat} {x : Str} {g : Fn} (s : Same X Q P w K mg base cv) (c : CallAt P w K mg base cv k x n g) : CallAt X.prog X.w Q.K X.mg X.base Q.cv k x n g := by
  obtain ⟨e1, e2, e3, e4, e5, e6⟩ := s
  subst e1 e2 e3 e4 e5 e6
  exact c
theorem Same.no {x : Str} (s : Same X Q P w K mg base cv) (c : mg x = none) : X.mg x = none := by rw [← s.mg]; exact c
theorem Same.gv {x : Str} {d : D} (s : Same X Q P w K mg base cv) (c : GlobV K mg x d) : GlobV Q.K X.mg x d := by rw [← s.mg, ← s.K]; exact c
variable {x qual : Str} {params : Arguments} {body : List Stmt} {scope : Scope} {f : Addr} {fd : FuncData} {N ps : List Str} {k n : Nat} {m : MS} {len : Nat}
/-- a def's own frame -/
structure Top (X : Cx) : Prop where
  st : X.stack = X.env :: X.outer
  fr : X.env.frame = some X.env.locals
  ex : X.ex = []
theorem mkCall (F : FunD K x qual params body scope [] [] f fd) (hg : mg x = some (.ref f)) (hn : ps.length = n) (hl : N.length = len) (Sc : FnScope N ps scope) (hb : Binds K fd ps [])
    (h : ∀ (X : Cx) (Q : Pm), Same X Q P K.w K mg base cv → Ok k X Q → Cxt X N scope fl1 → PassesOwn (model X.prog X.w) X.A X.env X.xe → Top X → (X.env.code = fd.code ∧ X.env.qual = qual ++ ".<locals>.") → PSs X body (tsG Q m)) : CallAt P K.w K mg base cv (k + 1) x n (bodyF len m) := by
  subst hl
  exact ⟨f, fd, ps, hn, fnOk hn F Sc fun cdv A outer s H E b hc hgd hr tk hp => h _ _ ⟨rfl, rfl, rfl, rfl, rfl, rfl⟩ ⟨rfl, Sc.nd, rfl, hr, tk, rfl, hgd⟩ ⟨rfl, rfl, rfl⟩ hp ⟨rfl, rfl, rfl⟩ ⟨hc, rfl⟩, hg, F.kp, hb⟩
end
/-! ### the rest of the forms -/
section
variable {X : Cx} {P : Pm} {k : Nat} {x : Str} {p p' pos pos' : Pos} {e a b c : Expr} {es : List Expr} {g : Fn} {ms : M (List D)} {m ma mb n t : M OD} {oa ob oc : M Opd} {i j : Nat} {d : D} {os : M (List Opd)} {tg iter elt : Expr} {it : M (List D)} {tt : Tg}
theorem t_gs1 {is : List Nat} (o : Ok k X P) (v : To X i x) (h : PGs X es (gMany is)) : PGs X (.Name x p :: es) (gMany (i :: is)) := pgs_cons (pg_name o.hN v.N v.l v.f) h
theorem names_each {env : Env} : ∀ {es : List Expr}, es.all (fun e => !isStar e) = true → (assignEach es env).length = es.length ∧ (assignEach es env).findIdx? (·.1) = none
  | [], _ => ⟨rfl, rfl⟩
  | e :: es, h => by
    simp only [List.all_cons, Bool.and_eq_true, Bool.not_eq_true'] at h
    obtain ⟨h1, h2⟩ := names_each (env := env) (es := es) h.2
    have he : assignEach (e :: es) env = (false, assign e env) :: assignEach es env := by
      cases e <;> first | rfl | cases h.1
    rw [he]
    refine ⟨by simp [h1], ?_⟩
    rw [List.findIdx?_cons, h2]
    rfl
theorem t_tgT {is : List Nat} {q : Nat} (o : Ok k X P) (h : PGs X es (gMany is)) (hs : es.all (fun e => !isStar e) = true) (hl : es.length = is.length) : PG X (.Tuple es q pos) (tgG P (.tup is)) :=
  s_tgT o.hK o.calm h ((names_each hs).1.trans hl) (names_each hs).2
theorem t_tgN {js : List Nat} {q q2 : Nat} (o : Ok k X P) (v : To X i x) (h : PGs X es (gMany js)) (hs : es.all (fun e => !isStar e) = true) (hl : es.length = js.length) : PG X (.Tuple [.Name x p, .Tuple es q2 p'] q pos) (tgG P (.two i js)) := by
  have he := names_each (env := X.env) hs
  have ho := names_each (env := X.env) (es := [.Name x p, .Tuple es q2 p']) rfl
  refine (pg_tup o.calm (pgs_cons (pg_name o.hN v.N v.l v.f) (pgs_cons (pg_tup o.calm h (he.1.trans hl) he.2) pgs_nil)) ho.1 ho.2).imp fun v σ H Q ⟨G, ρ, S, d, ρ', r, w, e, q⟩ => ?_
  unfold Tg.put at e
  dsimp only at e
  split at e
  · rename_i a ds
    by_cases hl2 : ds.length = js.length
    · rw [if_pos hl2] at e
      cases e
      obtain ⟨a1, us, rfl, z, l⟩ := w.toTup
      cases l with
      | cons l1 l =>
        cases l with
        | cons l2 l =>
          cases l
          obtain ⟨a2, us2, rfl, z2, l3⟩ := l2.toTup
          refine ⟨_, _, rfl, by rw [o.hK]; exact sub_t r.fr z, rfl, _, _, rfl, _, _, rfl, ⟨_, _, rfl, by rw [o.hK]; exact sub_t r.fr z2, by rw [l3.length]; exact hl2, ?_⟩⟩
          exact gMany_of (r.store (VOk.fz l1) i) l3 hl2 fun σ' r' es => ⟨rfl, q σ' r' trivial⟩
    · rw [if_neg hl2] at e
      cases e
  · cases e
def isSet : Expr → Bool
  | .Set .. => true
  | _ => false
theorem fs0 {env : Env} (h : isSet e = false) : ∀ x, foldedSetIterable e env x = pure x := by
  intro x
  unfold foldedSetIterable
  cases e <;> first | rfl | cases h
def innB (t : Tg) (own : List Nat) : Bool := match t with
  | .one i => own.contains i
  | .tup is => is.all fun i => own.contains i
  | .two _ _ => false
theorem innB_ok {t : Tg} {own : List Nat} (h : innB t own = true) : t.inn own := by
  cases t with
  | one i => exact List.contains_iff_mem.mp h
  | tup is => exact fun i hi => List.contains_iff_mem.mp (List.all_eq_true.mp h i hi)
  | two _ _ => cases h
theorem t_if0 : PTs X [] (tmB P (condM none)) := ⟨fun pins s σ H Q I ⟨G, ρ, S, r, h⟩ => pts_nil.run pins s σ H Q I (h true H G (Gh.le.refl _) r rfl)⟩
theorem t_if1 (h : PT X c (tmB P t.test)) : PTs X [c] (tmB P (condM (some t))) := pts_one h
theorem t_comp {sc : Scope} {own : List (Str × Nat)} {cond : Option (M OD)} {ifs : List Expr} {N : List Str} {sx : Scope} {fl : Str → Bool} (o : Ok k X P) (z : Cxt X N sx fl) (hi : PI X tg iter (tiG P it)) (ok : blkC N sx sc own = true) (htg : innB tt (own.map (·.2)) = true)
    (hs : isSet iter = false) (h : ∀ (X' : Cx) (P' : Pm), Ok k X' P' → Cxt X' N (relS sc sx) (flB sc) → Same X' P' X.prog X.w P.K X.mg X.base P.cv → PG X' tg (tgG P' tt) ∧ PTs X' ifs (tmB P' (condM cond)) ∧ PE X' elt (tmO P' m)) :
    PE X (.ListComp elt [⟨tg, iter, ifs, 0⟩] sc pos) (tmO P (compM it tt cond m (own.map (·.2)))) :=
  have h' : ∀ (s : Shared) (H : Hp) (C : Addr) (cl : List (Str × Addr)) (fp : List Addr) (b : Bs), _ := fun s H C cl fp b => h (X.blk s H sc (compEnvC sc cl C X.env) fp) (P.calm b) (o.blk _ _ _ _ _ _) (z.blk _ _ _ _ _) ⟨rfl, rfl, rfl, rfl, rfl, rfl⟩
  s_comp o.calm o.hN hi (z.bk ok) (innB_ok htg) (fun s H C cl fp b => (h' s H C cl fp b).1) (fun s H C cl fp b => (h' s H C cl fp b).2.1) (fun s H C cl fp b => (h' s H C cl fp b).2.2) (fs0 hs)
def swB (sc scope : Scope) (x : Str) (l l' : Nat) : Bool := (match sc.kind with | .function => true | _ => false) && (match sc.names.lookup x with | some .local => true | _ => false) && (l == l') && !(scope.names.any fun (n, k) => n == x && (k == .local || k == .cell))
/-- x = [..] on one line -/
theorem t_setLc {sc : Scope} {own : List (Str × Nat)} {cond : Option (M OD)} {ifs : List Expr} {N : List Str} {sx : Scope} {fl : Str → Bool} (o : Ok k X P) (z : Cxt X N sx fl) (v : To X i x) (hsw : swB sx sc x p.line pos.line = true) (hi : PI X tg iter (tiG P it)) (ok : blkC N sx sc own = true)
    (htg : innB tt (own.map (·.2)) = true) (hs : isSet iter = false)
    (h : ∀ (X' : Cx) (P' : Pm), Ok k X' P' → Cxt X' N (relS sc sx) (flB sc) → Same X' P' X.prog X.w P.K X.mg X.base P.cv → PG X' tg (tgG P' tt) ∧ PTs X' ifs (tmB P' (condM cond)) ∧ PE X' elt (tmO P' m)) :
    PS X (.Assign [.Name x p] (.ListComp elt [⟨tg, iter, ifs, 0⟩] sc pos) pos') (tsG P (setS i (compM it tt cond m (own.map (·.2))))) := by
  have h' : ∀ (s : Shared) (H : Hp) (C : Addr) (cl : List (Str × Addr)) (fp : List Addr) (b : Bs), _ := fun s H C cl fp b => h (X.blk s H sc (compEnvC sc cl C X.env) fp) (P.calm b) (o.blk _ _ _ _ _ _) (z.blk _ _ _ _ _) ⟨rfl, rfl, rfl, rfl, rfl, rfl⟩
  unfold swB at hsw
  simp only [Bool.and_eq_true, Bool.not_eq_true'] at hsw
  obtain ⟨⟨⟨h1, h2⟩, h3⟩, h4⟩ := hsw
  rw [← z.sc] at h1 h2
  have hk : X.env.scope.kind = .function := by
    cases e : X.env.scope.kind <;> rw [e] at h1 <;> first | rfl | cases h1
  have hy : X.env.scope.names.lookup x = some .local := by
    cases e : X.env.scope.names.lookup x with
    | none => rw [e] at h2; cases h2
    | some q => cases q <;> rw [e] at h2 <;> first | rfl | cases h2
  exact s_setLc o.calm o.hN v.N hy (sw_true hk hy h3 h4) hi (z.bk ok) (innB_ok htg) (fun s H C cl fp b => (h' s H C cl fp b).1) (fun s H C cl fp b => (h' s H C cl fp b).2.1) (fun s H C cl fp b => (h' s H C cl fp b).2.2) (fs0 hs)
def swN (sc scope : Scope) (x : Str) (l l' : Nat) : Bool := (match sc.names.lookup x with | some .local => false | _ => true) || !(l == l') || (scope.names.any fun (n, k) => n == x && (k == .local || k == .cell))
theorem sw_false {sx : Scope} {N : List Str} {fl : Str → Bool} {gs : List Comprehension} {sc : Scope} (z : Cxt X N sx fl) (h : swN sx sc x p.line pos.line = true) : swapsWith (.ListComp elt gs sc pos) (some (.Name x p)) pos'.line X.env = pure false := by
  unfold swN at h
  rw [← z.sc] at h
  unfold swapsWith
  show (pure _ : Sem Bool) = _
  congr 1
  simp only [Bool.or_eq_true, Bool.not_eq_true'] at h
  rcases h with (h | h) | h
  · have : (X.env.kindOf x == some .local) = false := by
      show (X.env.scope.names.lookup x == some .local) = false
      cases e : X.env.scope.names.lookup x with
      | none => rfl
      | some q => cases q <;> rw [e] at h <;> first | rfl | cases h
    rw [this]
    simp
  · show (_ && (p.line == pos.line) && _) = false
    rw [h]
    simp
  · rw [h]
    simp
theorem t_set (o : Ok k X P) (v : To X i x) (h : PE X e (tmO P m)) (hs : isLc e = false) : PS X (.Assign [.Name x p] e pos) (tsG P (setS i m)) := s_set o.hN v.N v.l h (sw0 hs) v.f
theorem t_setC (o : Ok k X P) (v : To X i x) (h : PE X e (tmO P m)) (hs : isLc e = false) : PS X (.Assign [.Name x p] e pos) (tsG P (setC i m)) := s_setC o.hN v.N v.l h (sw0 hs) v.f
theorem t_setL {N : List Str} {sx sc : Scope} {fl : Str → Bool} {gs : List Comprehension} (o : Ok k X P) (z : Cxt X N sx fl) (v : To X i x) (h : PE X (.ListComp elt gs sc pos) (tmO P m)) (hs : swN sx sc x p.line pos.line = true) : PS X (.Assign [.Name x p] (.ListComp elt gs sc pos) pos') (tsG P (setS i m)) :=
  s_set o.hN v.N v.l h (sw_false z hs) v.f
theorem t_setLC {N : List Str} {sx sc : Scope} {fl : Str → Bool} {gs : List Comprehension} (o : Ok k X P) (z : Cxt X N sx fl) (v : To X i x) (h : PE X (.ListComp elt gs sc pos) (tmO P m)) (hs : swN sx sc x p.line pos.line = true) : PS X (.Assign [.Name x p] (.ListComp elt gs sc pos) pos') (tsG P (setC i m)) :=
  s_setC o.hN v.N v.l h (sw_false z hs) v.f
def isTup : Expr → Bool
  | .Tuple .. => true
  | .List .. => true
  | _ => false
theorem t_asg (o : Ok k X P) (h : PE X e (tmO P m)) (hg : PG X tg (tgG P tt)) (h0 : isTup e = false) (hl : isLc e = false) (h1 : isStar tg = false) : PS X (.Assign [tg] e pos) (tsG P (asgS tt m)) := by
  refine s_asg h hg ?_ ?_ ?_
  · exact sw0 hl
  · cases e <;> first | (cases h0; done) | (cases tg <;> rfl)
  · cases tg <;> first | rfl | cases h1
theorem t_expr (h : PE X e (tmO P m)) (hs : isLc e = false) : PS X (.Expr e pos) (tsG P (dropS m)) := s_expr h (sw0 hs)
theorem t_add (o : Ok k X P) (v : To X i x) (h : PE X e (tmO P m)) : PS X (.AugAssign (.Name x p) .Add e pos) (tsG P (addS i m)) := s_add o.hN v.N v.l h v.f
theorem t_for {body : List Stmt} {mb : MS} (o : Ok k X P) (hp : PassesOwn (model X.prog X.w) X.A X.env X.xe) (hi : PI X tg iter (tiG P it)) (hg : PG X tg (tgG P tt)) (hb : PSs X body (tsG P mb)) (hs : isSet iter = false) : PS X (.For tg iter body [] pos) (tsG P (forS it tt mb)) :=
  s_for hp o.calm hi hg hb (fs0 hs)
theorem t_six {ix : Expr} {mi : M OD} {p2 : Pos} (o : Ok k X P) (v : At X i x) (h : PE X e (tmO P m)) (hi : PE X ix (tmO P mi)) (hl : isLc e = false)
    (ha : ∀ v, assign (.Subscript (.Name x p) ix p2) X.env v = (do
      let ov ← holding [v] (eval (.Name x p) X.env)
      let iv ← holding [v, ov] (eval ix X.env)
      standAt p2
      holding [v, ov, iv] (setItem ov iv v)
      release [v, ov, iv] [])) : PS X (.Assign [.Subscript (.Name x p) ix p2] e pos) (tsG P (sixS i mi m)) := by
  refine s_six o.hK o.hw (by have := o.un; omega) v.N v.v v.d v.c h hi ha ?_ ?_ rfl
  · unfold swapsWithSole
    exact sw0 hl
  · rfl
def ptHead : Expr → Bool
  | .UnaryOp .Not _ _ => false
  | .BoolOp .. => false
  | .IfExp .. => false
  | .Compare .. => false
  | _ => true
theorem t_pt (h : PE X e (tmO P m)) (hh : ptHead e = true) : PT X e (tmB P m.test) := s_ptval h fun whole => by
  cases e <;> first | rfl | cases hh | skip
  rename_i q _ _
  cases q <;> first | rfl | cases hh
end
end Mi

namespace Mi
open PySem PySem.Spec PyProof.Rows L2

/-! ### the end -/
theorem globInt {K : KW} {mg : Str → Option Value} {x : Str} {i : Int} (h : ∃ t, mg x = some (.int i t)) : GlobV K mg x (.int i) := by
  obtain ⟨t, h⟩ := h
  exact ⟨.int i, _, h, ⟨t, rfl⟩, fun G => .int i⟩
theorem globStr {K : KW} {mg : Str → Option Value} {x z : Str} {k : List Nat} (h : ∃ t, mg x = some (.str z t)) (e : z.cps.toList = k) (hk : k.all (· < 1114112) = true) : GlobV K mg x (.str k) := by
  obtain ⟨t, h⟩ := h
  have hz : z = ⟨k.toArray⟩ := by
    cases z with
    | mk c => simp only at e; rw [← e]
  subst hz
  exact ⟨.str ⟨k.toArray⟩, _, h, ⟨t, rfl⟩, fun G => .str k hk⟩
/-- a table as it stands behind the top -/
structure TabHd (K : PySem.W.Frag) (h : Heap) (x : Str) : Prop where
  code : PySem.W.CodeHd h (codeA K x) (tabA K x)
  emp : h.get? (tabA K x) = some { cls := .none, data := .fields #[] }
  off : K.lookup (tabA K x) = none
section
variable {K : PySem.W.Frag} {h : Heap} {xs : List Str}
/-- what is tracked at the law's start: the script, if it isn't a written one, and the tables -/
def startH (K : PySem.W.Frag) (xs : List Str) (a : Addr) (o : HO) : Hp := fun b => if b ∈ xs.map (tabA K) then some (.tbl #[]) else if b = a then (match K.lookup a with
  | some _ => none
  | none => some o) else none
theorem start_tab (a : Addr) (o : HO) {x : Str} (hx : x ∈ xs) : startH K xs a o (tabA K x) = some (.tbl #[]) := if_pos (List.mem_map.mpr ⟨x, hx, rfl⟩)
theorem start_of {a b : Addr} {o u : HO} (e : startH K xs a o b = some u) : (b ∈ xs.map (tabA K) ∧ u = .tbl #[]) ∨ (b ∉ xs.map (tabA K) ∧ b = a ∧ K.lookup a = none ∧ u = o) := by
  unfold startH at e
  by_cases h1 : b ∈ xs.map (tabA K)
  · rw [if_pos h1] at e; cases e; exact .inl ⟨h1, rfl⟩
  · rw [if_neg h1] at e
    by_cases h2 : b = a
    · rw [if_pos h2] at e
      cases q : K.lookup a with
      | some z => rw [q] at e; cases e
      | none => rw [q] at e; cases e; exact .inr ⟨h1, h2, rfl, rfl⟩
    · rw [if_neg h2] at e; cases e
end
theorem walk_ofG {l : PySem.W.OpenLaw} {n k : Nat} {q : Program} {loose : List Str} {XP : (Str → Option Value) → Heap → Prop} {YP : World → Heap → Prop} {d : DefRec} {x : Str} {g : Fn} {cv : Nat → Value × Str} {xs : List (List Nat)}
    (hn : l.most = some n) (hn2 : n ≤ sizeLine) (hdf : d.params.defaults = []) (hr : Room k callerA)
    (F : ∀ (w : World) (mg : Str → Option Value) (fa : Addr) (h : Heap), YP w h → h.Ns mainGlobals mg → mg d.name = some (.ref fa) →
      ∃ (K : KW) (fd : FuncData), K.fr.In h ∧ (∀ x ∈ xs, TabHd K.fr h ⟨x.toArray⟩) ∧ (xs.map fun x => tabA K.fr ⟨x.toArray⟩).Nodup ∧ (∀ (s : Shared) (u : Value), BindsTo s fd ⟨[u], []⟩ [(x, u)]) ∧
        ∀ base : Heap, K.fr.In base → base.Ns mainGlobals mg → (∀ x ∈ xs, LamX.TabB base mg (codeA K.fr ⟨x.toArray⟩) (tabA K.fr ⟨x.toArray⟩)) → FnG l.prog w K mg base (L2.CX l.prog w) k fa fd [x] (spF K cv g 1))
    (hg : ∀ ns : List Int, ns.length ≤ n → ∃ ρ S, g [.scr ns] (tabD xs) = .ok (false, .bl true) ρ S) :
    PySem.W.WalkO q loose XP YP l.row.toRowW d [] (fun f vs => PySem.call f vs) := by
  refine Att.attach_call hn hdf fun w s₀ s₁ mg mb fa o pm cd doc a vs ns G Y ho hd hcd hmg hobj hints hlen hgs => ?_
  obtain ⟨K, fd, KX, TH, nd, hb, hF⟩ := F w mg fa _ Y G.T.g hmg
  have lenV := hints.length
  have hl : ns.length ≤ sizeLine := Nat.le_trans hlen hn2
  obtain ⟨ss, hss⟩ : ∃ ss : List Str, ss = xs.map fun x => ⟨x.toArray⟩ := ⟨_, rfl⟩
  have TH' : ∀ y ∈ ss, TabHd K.fr s₁.heap y := fun y hy => by
    rw [hss] at hy
    obtain ⟨x, hx, rfl⟩ := List.mem_map.mp hy
    exact TH x hx
  have tm : ∀ b ∈ ss.map (tabA K.fr), ∃ y ∈ ss, b = tabA K.fr y := fun b hb => by
    obtain ⟨y, hy, e⟩ := List.mem_map.mp hb
    exact ⟨y, hy, e.symm⟩
  have tg : ∀ b ∈ ss.map (tabA K.fr), s₁.heap.get? b = some { cls := .none, data := .fields #[] } ∧ K.fr.lookup b = none := fun b hb => by
    obtain ⟨y, hy, rfl⟩ := tm b hb
    exact ⟨(TH' y hy).emp, (TH' y hy).off⟩
  have aT : a ∉ ss.map (tabA K.fr) := fun z => by
    have e := (tg a z).1
    rw [hobj] at e
    cases e
  obtain ⟨H, hH⟩ : ∃ H : Hp, H = startH K.fr ss a (.frz { cls := .type "list", data := .seq vs.toArray } (.lst (ns.map V.int))) := ⟨_, rfl⟩
  have off : ∀ {b : Addr} {u : HO}, H b = some u → (b ∈ ss.map (tabA K.fr) ∧ u = .tbl #[]) ∨ (b ∉ ss.map (tabA K.fr) ∧ b = a ∧ K.fr.lookup a = none ∧ u = .frz { cls := .type "list", data := .seq vs.toArray } (.lst (ns.map V.int))) := fun e => start_of (by rw [← hH]; exact e)
  have hok : HOk l.prog w H s₁.heap := fun b u e => by
    rcases off e with ⟨hb, rfl⟩ | ⟨_, rfl, _, rfl⟩
    · exact (tg b hb).1
    · exact ⟨hobj, by rw [List.length_map]; exact hl, vs, _, vals_ints hints, hobj⟩
  -- what is neither a table nor the script is the ground
  have gr : ∀ {b : Addr} {o : Obj}, s₁.heap.get? b = some o → (∀ vs n, o.data ≠ .seq vs n) → o.data ≠ .fields #[] → (hidT s₁.heap H).get? b = some o := fun {b o} e n1 n2 => hidT_get e (by
    cases q : H b with
    | none => rfl
    | some u =>
      rcases off q with ⟨hb, _⟩ | ⟨_, rfl, _, _⟩
      · rw [(tg b hb).1] at e; cases e; exact (n2 rfl).elim
      · rw [hobj] at e; cases e; exact (n1 _ _ rfl).elim)
  have nsK : ∀ {b : Addr} {m : Str → Option Value}, s₁.heap.Ns b m → (hidT s₁.heap H).Ns b m := fun {b m} ⟨o, es, ep, e, dd, r⟩ => ⟨o, es, ep, gr e (fun vs n z => by rw [dd] at z; cases z) (fun z => by rw [dd] at z; cases z), dd, r⟩
  have KB : K.fr.In (hidT s₁.heap H) := fun b o e => hidT_get (KX b o e) (by
    cases q : H b with
    | none => rfl
    | some u =>
      rcases off q with ⟨hb, _⟩ | ⟨_, rfl, z, _⟩
      · rw [(tg b hb).2] at e; cases e
      · rw [z] at e; cases e)
  have TB : ∀ x ∈ xs, LamX.TabB (hidT s₁.heap H) mg (codeA K.fr ⟨x.toArray⟩) (tabA K.fr ⟨x.toArray⟩) := fun x hx => by
    have T := TH x hx
    refine ⟨?_, ?_, fun z => ?_⟩
    · obtain ⟨oc, us, fl, tf, flags, g1, inF, tx, tt, e1, r1, r2, r3, rr⟩ := T.code
      exact ⟨oc, us, fl, tf, flags, g1, inF, tx, tt, gr e1 (fun vs n z => by rw [r2] at z; cases z) (fun z => by rw [r2] at z; cases z; simp at r3), r1, r2, r3, rr⟩
    · obtain ⟨bm, ob, b1, b2, b3, b4, b5, b6⟩ := G.T.bmain
      refine ⟨bm, ob, b1, b2, fun z => ?_, fun z => ?_, gr b3 (fun vs n z => by rw [b6] at z; cases z) (fun z => by rw [b6] at z; cases z), b4, b5, b6⟩
      · obtain ⟨o2, es, ep, e, dd, _⟩ := G.T.g
        rw [z, e] at b3; cases b3
        rw [dd] at b6; cases b6
      · rw [z, T.emp] at b3; cases b3; cases b6
    · obtain ⟨o2, es, ep, e, dd, _⟩ := G.T.g
      rw [z, T.emp] at e; cases e; cases dd
  have lim : (hidT s₁.heap H).NoLimit := let ⟨mc, h1, h2⟩ := G.T.nolimit; ⟨mc, nsK h1, h2⟩
  have hS : SqL K.fr H a (ns.map V.int) := by
    cases q : K.fr.lookup a with
    | none =>
      refine .inl (.inr ⟨{ cls := .type "list", data := .seq vs.toArray }, ?_⟩)
      rw [hH]
      unfold startH
      rw [if_neg aT, if_pos rfl, q]
    | some o2 =>
      have e := KX a o2 q
      rw [hobj] at e; cases e
      exact .inr ⟨_, vs.toArray, _, q, rfl, rfl, rfl, by rw [List.size_toArray, lenV]; exact hl, by simpa using vals_ints hints⟩
  have hT0 : ∀ x ∈ xs, H (tabA K.fr ⟨x.toArray⟩) = some (.tbl #[]) := fun x hx => by
    rw [hH]
    exact start_tab a _ (by rw [hss]; exact List.mem_map.mpr ⟨x, hx, rfl⟩)
  have e0 : Env0 l.prog w K mg (hidT s₁.heap H) callerA [] s₁ H := ⟨rfl, ⟨KB, nsK G.T.g, ⟨mb, nsK G.T.b, G.T.builtins⟩, lim⟩, fun b o e => of_hidT e, Nat.le_of_eq (hidT_size _ _), trivial, fun b z => absurd (show b ∈ ([] : List Addr) from z) (by simp), hok, .of_eq hgs⟩
  refine codeAny_mono ((hF _ KB (nsK G.T.g) TB).go (us := [.ref a]) (vs := [.ref a]) hr rfl e0 (hb s₁ (.ref a)) (.cons rfl .nil) (law_sp hg H a ns hlen nd hT0 hS)) fun r s' y => ?_
  rcases r with e | fl
  · obtain ⟨_, _, _, _, _, _, _, _, _, _, _, _, z⟩ := y
    exact z.elim
  cases fl with
  | ret u =>
    obtain ⟨v, H', os, bare, un, hok', rv, ev⟩ := y
    have ev : v = .bl true := ev
    subst ev
    obtain rfl : u = Value.bool true := rv
    have kept : ∀ b o, b ∉ ss.map (tabA K.fr) → s₁.heap.get? b = some o → s'.heap.get? b = some o := fun b o nb e => by
      cases q : H b with
      | none => exact un.keep b o e q (fun z => absurd (show b ∈ ([] : List Addr) from z) (by simp)) (by simp)
      | some u =>
        rcases off q with ⟨z, _⟩ | ⟨_, _, _, rfl⟩
        · exact (nb z).elim
        · have e1 := (hok b _ q).1
          have e2 := (hok' b _ (un.frzs b _ _ q)).1
          rw [e] at e1; cases e1
          exact e2
    have grown : ∀ b ∈ ss.map (tabA K.fr), ∃ more : Array Value, s'.heap.get? b = some { cls := .none, data := .fields more } := fun b hb => by
      obtain ⟨y, hy, rfl⟩ := tm b hb
      obtain ⟨more, z⟩ := un.tbls _ #[] (by rw [hH]; exact start_tab a _ hy)
      exact ⟨_, hok' _ _ z⟩
    refine ⟨rfl, ⟨fun b o e => ?_, fun b o e => ?_⟩, os, bare⟩
    · by_cases hb : b ∈ ss.map (tabA K.fr)
      · obtain ⟨more, hm⟩ := grown b hb
        obtain ⟨y, hy, rfl⟩ := tm b hb
        rw [(TH' y hy).emp] at e
        cases e
        exact .inr (.inl ⟨((TH' y hy).code.tab (TH' y hy).emp).isCodeTable, rfl, #[], more, rfl, by rw [Array.empty_append]; exact hm⟩)
      · exact .inl (kept b o hb e)
    · by_cases hb : b ∈ ss.map (tabA K.fr)
      · obtain ⟨more, hm⟩ := grown b hb
        exact ⟨_, hm⟩
      · exact ⟨o, kept b o hb e⟩
  | _ => exact y.elim
theorem walk_ofC {l : PySem.W.OpenLaw} {n k : Nat} {q : Program} {loose : List Str} {XP : (Str → Option Value) → Heap → Prop} {YP : World → Heap → Prop} {d : DefRec} {x : Str} {g : Fn} {cv : Nat → Value × Str}
    (hn : l.most = some n) (hn2 : n ≤ sizeLine) (hdf : d.params.defaults = []) (hr : Room k callerA)
    (F : ∀ (w : World) (mg : Str → Option Value) (fa : Addr) (h : Heap), YP w h → h.Ns mainGlobals mg → mg d.name = some (.ref fa) →
      ∃ (K : KW) (fd : FuncData), K.fr.In h ∧ (∀ (s : Shared) (u : Value), BindsTo s fd ⟨[u], []⟩ [(x, u)]) ∧
        ∀ base : Heap, K.fr.In base → base.Ns mainGlobals mg → FnG l.prog w K mg base (L2.CX l.prog w) k fa fd [x] (spF K cv g 1))
    (hg : ∀ ns : List Int, ns.length ≤ n → ∃ ρ S, g [.scr ns] [] = .ok (false, .bl true) ρ S) :
    PySem.W.WalkO q loose XP YP l.row.toRowW d [] (fun f vs => PySem.call f vs) :=
  walk_ofG (xs := []) hn hn2 hdf hr (fun w mg fa h y m e => let ⟨K, fd, h1, h2, h3⟩ := F w mg fa h y m e; ⟨K, fd, h1, fun x hx => (nomatch hx), List.nodup_nil, h2, fun base h4 h5 _ => h3 base h4 h5⟩) hg
/-- the law's own def of the callables -/
theorem law_fn {P : Program} {K : KW} {mg : Str → Option Value} {base : Heap} {cv : Nat → Value × Str} {k : Nat} {x qual y : Str} {g : Fn} {params : Arguments} {body : List Stmt} {scope : Scope} {f : Addr} {fd : FuncData}
    (F : FunD K x qual params body scope [] [] f fd) {N : List Str} {m : MS} {len : Nat} (hl : N.length = len) (hgl : g = bodyF len m) (Sc : FnScope N [y] scope)
    (h : ∀ (X : Cx) (Q : Pm), Same X Q P K.w K mg base cv → Ok k X Q → Cxt X N scope fl1 → PassesOwn (model X.prog X.w) X.A X.env X.xe → Top X → (X.env.code = fd.code ∧ X.env.qual = qual ++ ".<locals>.") → PSs X body (tsG Q m)) : FnG P K.w K mg base (L2.CX P K.w) (k + 1) f fd [y] (spF K cv g 1) := by
  subst hl hgl
  exact fnOk rfl F Sc fun cdv A outer s H E b hc hgd hr tk hp => h _ _ ⟨rfl, rfl, rfl, rfl, rfl, rfl⟩ ⟨rfl, Sc.nd, rfl, hr, tk, rfl, hgd⟩ ⟨rfl, rfl, rfl⟩ hp ⟨rfl, rfl, rfl⟩ ⟨hc, rfl⟩
/-- -a -/
def negM (oa : M Opd) : M OD := do
  let x ← oa
  let d ← resM x
  match d with
  | .int i => gives (.int (-i))
  | _ => M.err
theorem t_neg {X : Cx} {P : Pm} {a : Expr} {oa : M Opd} {pos : Pos} (ha : PE X a (tmP P oa)) : PE X (.UnaryOp .USub a pos) (tmO P (negM oa)) :=
  (pe_un un_neg ha).imp fun σ H Q q => tm_imp (tm_bind (rel1 := relP P) q) fun x H1 ⟨G, ρ, S, d, r, w, q2⟩ => by
    obtain ⟨d', p, q3⟩ := res_of r w q2
    cases d' with
    | int i => cases p.int; exact ⟨i, rfl, post_gives q3 r (.int _)⟩
    | _ => exact q3.elim
end Mi

namespace Mi
open PySem PySem.Spec PyProof.Rows L2

/-! ### a module's constants as data -/
mutual
def valB (K : PySem.W.Frag) : D → Value → Bool
  | .non, .none => true
  | .bl b, .bool c => b == c
  | .int i, .int j _ => decide (i = j)
  | .str s, .str z _ => decide (z.cps.toList = s) && s.all (· < 1114112)
  | .tup ds, .ref a => (match K.lookup a with
    | some ⟨.type c, _, .seq its _, _⟩ => decide (c = "tuple") && (decide (its.size ≤ sizeLine) && valsB K ds its.toList)
    | _ => false)
  | _, _ => false
def valsB (K : PySem.W.Frag) : List D → List Value → Bool
  | [], [] => true
  | d :: ds, u :: us => valB K d u && valsB K ds us
  | _, _ => false
end
mutual
theorem valB_ok {K : KW} : ∀ {d : D} {u : Value}, valB K d u = true → ∃ v, RelV v u ∧ ∀ G : Gh, Rep K G.F G.ι v d
  | .non, u, h => by
    cases u <;> simp [valB] at h
    exact ⟨.non, rfl, fun G => .non⟩
  | .bl b, u, h => by
    cases u <;> simp [valB] at h
    subst h
    exact ⟨.bl b, rfl, fun G => .bl b⟩
  | .int i, u, h => by
    cases u <;> simp [valB] at h
    subst h
    exact ⟨.int i, ⟨_, rfl⟩, fun G => .int i⟩
  | .str s, u, h => by
    cases u with
    | str z t =>
      unfold valB at h
      obtain ⟨h1, h2⟩ := He.ba h
      have e := of_decide_eq_true h1
      have hz : z = ⟨s.toArray⟩ := by
        cases z with
        | mk c => simp only at e; rw [← e]
      subst hz
      exact ⟨.str ⟨s.toArray⟩, ⟨_, rfl⟩, fun G => .str s h2⟩
    | _ => simp [valB] at h
  | .tup ds, u, h => by
    cases u with
    | ref a =>
      unfold valB at h
      cases q : K.fr.lookup a with
      | none => rw [q] at h; cases h
      | some o =>
        obtain ⟨oc, od, dt, osl⟩ := o
        rw [q] at h
        cases oc with
        | type c =>
          cases dt with
          | seq its n =>
            obtain ⟨h1, h2⟩ := He.ba (show (decide (c = "tuple") && (decide (its.size ≤ sizeLine) && valsB K ds its.toList)) = true from h)
            obtain ⟨h3, h4⟩ := He.ba h2
            obtain ⟨vs, r, w⟩ := valsB_ok h4
            exact ⟨.ref a, rfl, fun G => .tup (.inr ⟨_, its, n, q, congrArg Value.type (of_decide_eq_true h1), rfl, of_decide_eq_true h3, r⟩) (w G)⟩
          | _ => cases h
        | _ => cases dt <;> cases h
    | _ => simp [valB] at h
  | .lst _, u, h => by cases u <;> simp [valB] at h
  | .scr _, u, h => by cases u <;> simp [valB] at h
  | .cell _, u, h => by cases u <;> simp [valB] at h
  | .dct _ _, u, h => by cases u <;> simp [valB] at h
  | .obj _ _, u, h => by cases u <;> simp [valB] at h
  | .exn _ _, u, h => by cases u <;> simp [valB] at h
theorem valsB_ok {K : KW} : ∀ {ds : List D} {us : List Value}, valsB K ds us = true → ∃ vs, Vals vs us ∧ ∀ G : Gh, RepL K G.F G.ι vs ds
  | [], [], _ => ⟨[], .nil, fun _ => .nil⟩
  | [], _ :: _, h => by simp [valsB] at h
  | _ :: _, [], h => by simp [valsB] at h
  | d :: ds, u :: us, h => by
    unfold valsB at h
    obtain ⟨h1, h2⟩ := He.ba h
    obtain ⟨v, r, w⟩ := valB_ok h1
    obtain ⟨vs, rs, ws⟩ := valsB_ok h2
    exact ⟨v :: vs, .cons r rs, fun G => .cons (w G) (ws G)⟩
end
/-! ### the head's facts, with the constants -/
structure Kon where
  x : Str
  d : D
def Kon.ok (K : PySem.W.Frag) (c : Kon) : Bool := match PySem.W.nsIn K mainGlobals c.x with
  | some (some u) => valB K c.d u
  | _ => false
theorem Kon.glob {K : KW} {h : Heap} {mg : Str → Option Value} (X : K.fr.In h) (G : h.Ns mainGlobals mg) {c : Kon} (e : c.ok K = true) : GlobV K mg c.x c.d := by
  unfold Kon.ok at e
  cases q : PySem.W.nsIn K mainGlobals c.x with
  | none => rw [q] at e; cases e
  | some o =>
    rw [q] at e
    cases o with
    | none => cases e
    | some u =>
      obtain ⟨v, r, w⟩ := valB_ok (show valB K c.d u = true from e)
      exact ⟨v, u, PySem.W.mg_of X G q, r, w⟩
abbrev Ck := PySem.W.Frag → Bool
/-- what is looked at: what the module's names reach, the statics beside -/
def asM (g : Addr → Option Obj) (n : Nat) : List Addr := cStatics :: He.asD g n
def obsM (fa : List He.Fa) (ks : List Kon) (fn : List He.DefD) (ex : List Ck) (K : PySem.W.Frag) : He.AlD := ((fa.all fun f => f.ok K) && (ks.all fun c => c.ok K) && (fn.all fun d => d.ok K) && ex.all fun c => c K, fn.map fun d => He.fnW K d.at_)
def SaysM (fa : List He.Fa) (ks : List Kon) (fn : List He.DefD) (ex : List Ck) (K : PySem.W.Frag) : Prop := obsM fa ks fn ex K = He.valD fn
def obsMG (n : Nat) (fa : List He.Fa) (ks : List Kon) (fn : List He.DefD) (ex : List Ck) (g : Addr → Option Obj) : He.AlD := obsM fa ks fn ex (He.frG g (asM g n))
def hookM (n : Nat) (fa : List He.Fa) (ks : List Kon) (fn : List He.DefD) (ex : List Ck) : PySem.W.Hook where
  α := He.AlD
  obs := fun s => obsMG n fa ks fn ex s.heap.get?
  val := fun _ => He.valD fn
  says := fun _ h => ∃ K : PySem.W.Frag, K.In h ∧ SaysM fa ks fn ex K
  of := fun _ _ e => ⟨_, He.frG_in, e⟩
  keeps := fun _ _ _ ⟨K, hK, c⟩ k => ⟨K, PySem.W.Frag.In.keeps hK k, c⟩
theorem obsMG_eq {n : Nat} {fa : List He.Fa} {ks : List Kon} {fn : List He.DefD} {ex : List Ck} {g : Addr → Option Obj} {s : Shared} (h : ∀ a, g a = s.heap.get? a) : obsMG n fa ks fn ex g = (hookM n fa ks fn ex).obs s := by
  have e : g = s.heap.get? := funext h
  rw [e] <;> rfl
section
variable {fa : List He.Fa} {ks : List Kon} {fn : List He.DefD} {ex : List Ck} {K : PySem.W.Frag}
theorem SaysM.parts (c : SaysM fa ks fn ex K) : (fa.all fun f => f.ok K) = true ∧ (ks.all fun c => c.ok K) = true ∧ (fn.all fun d => d.ok K) = true ∧ (ex.all fun c => c K) = true := by
  have h := He.ba (show ((fa.all fun f => f.ok K) && (ks.all fun c => c.ok K) && (fn.all fun d => d.ok K) && ex.all fun c => c K) = true from congrArg (fun z : He.AlD => z.1) c)
  have h2 := He.ba h.1
  exact ⟨(He.ba h2.1).1, (He.ba h2.1).2, h2.2, h.2⟩
theorem SaysM.fact (c : SaysM fa ks fn ex K) (i : Nat) {f : He.Fa} (h : fa[i]? = some f) : f.ok K = true := List.all_eq_true.mp c.parts.1 f (List.mem_of_getElem? h)
theorem SaysM.kon (c : SaysM fa ks fn ex K) (i : Nat) {f : Kon} (h : ks[i]? = some f) : f.ok K = true := List.all_eq_true.mp c.parts.2.1 f (List.mem_of_getElem? h)
theorem SaysM.chk (c : SaysM fa ks fn ex K) (i : Nat) {f : Ck} (h : ex[i]? = some f) : f K = true := List.all_eq_true.mp c.parts.2.2.2 f (List.mem_of_getElem? h)
theorem SaysM.def_ (c : SaysM fa ks fn ex K) (i : Nat) {d : He.DefD} (h : fn[i]? = some d) : ∃ fd, FunD K d.name d.qual d.params d.body d.scope (d.dvs K) (d.kws K) (He.fAd K d.at_) fd := by
  have e : fn.map (fun d => He.fnW K d.at_) = fn.map He.DefD.val := congrArg (fun z : He.AlD => z.2) c
  have e2 : (fn.map fun d => He.fnW K d.at_)[i]? = (fn.map He.DefD.val)[i]? := by rw [e]
  rw [List.getElem?_map, List.getElem?_map, h] at e2
  exact He.DefD.funD (Option.some.inj e2) (List.all_eq_true.mp c.parts.2.2.1 d (List.mem_of_getElem? h))
end
/-! ### a new list made a cell, within an expression -/
def celM (m : M OD) : M OD := do
  let x ← m
  fun ρ S => if x.1 then .ok (false, .cell S.length) ρ (S ++ [x.2]) else .err
theorem t_cel {X : Cx} {P : Pm} {e : Expr} {m : M OD} (h : PE X e (tmO P m)) : PE X e (tmO P (celM m)) :=
  h.imp fun σ H Q q => tm_imp (tm_bind (rel1 := relO P) q) fun v H1 ⟨G1, ρ1, S1, a, r1, w, q1⟩ => by
    obtain ⟨own, d⟩ := a
    cases own with
    | false => exact q1.elim
    | true =>
      obtain ⟨G2, le2, r2, w2⟩ := VOk.cell r1 w
      exact q1 v H1 G2 le2 r2 (VOk.fz w2)
@[simp] theorem ap_cel (m : M OD) (ρ : Rho) (S : List D) : celM m ρ S = match m ρ S with
  | .ok x ρ' S' => if x.1 then .ok (false, .cell S'.length) ρ' (S' ++ [x.2]) else .err
  | .exc c vs ρ' S' => .exc c vs ρ' S'
  | .err => .err := by
  show M.bnd m _ ρ S = _
  unfold M.bnd
  cases m ρ S <;> rfl
end Mi

namespace Mi
open PySem PySem.Spec PyProof.Rows L2

/-! ### isinstance(x, (S, T)) -/
def is2D (T U : Ty) : D → M OD
  | .cell _ => M.err
  | .dct _ _ => M.err
  | .obj _ _ => M.err
  | .exn _ _ => M.err
  | d => ofBool (T.has d || U.has d)
def is2M (o : M Opd) (T U : Ty) : M OD := do
  let x ← o
  let d ← resM x
  is2D T U d
section
variable {X : Cx} {P : Pm} {k : Nat} {e a b c : Expr} {o oa ob oc : M Opd} {p p' p2 pos tpos : Pos} {G : Gh} {ρ : Rho} {S : List D} {σ : L2.St} {H : Hp} {os : M (List Opd)} {ms : M (List D)}
theorem kit_two (T U : Ty) (d : D) (h : d.kd ≠ .cell) : PySem.W.kitAny X.K (.type d.kd.tyN) [.type T.name, .type U.name] = some (T.has d || U.has d) := by
  unfold PySem.W.kitAny
  rw [kit_has T d h]
  cases T.has d with
  | true => rfl
  | false =>
    show PySem.W.kitAny X.K (.type d.kd.tyN) [.type U.name] = _
    unfold PySem.W.kitAny
    rw [kit_has U d h]
    cases U.has d <;> rfl
theorem t_is2 (ok : Ok k X P) (T U : Ty) {q : Nat} (bn : Bn X "isinstance") (bT : Bn X (T.name : Str)) (bU : Bn X (U.name : Str)) (ha : PE X e (tmP P o)) (hs : isStar e = false) :
    PE X (.Call (.Name "isinstance" p) [e, .Tuple [.Name (T.name : Str) p', .Name (U.name : Str) p2] q tpos] [] pos) (tmO P (is2M o T U)) := by
  obtain ⟨b1, b2, b3⟩ := boot_Ty T
  obtain ⟨c1, c2, c3⟩ := boot_Ty U
  have hT : PE X (.Name (T.name : Str) p') (tC (.ty T.name)) := pe_bltn bT.g.g bT.m b1 (show RelV (.ty T.name) (.type T.name) from rfl) b2 b3
  have hU : PE X (.Name (U.name : Str) p2) (tC (.ty U.name)) := pe_bltn bU.g.g bU.m c1 (show RelV (.ty U.name) (.type U.name) from rfl) c2 c3
  refine (pe_callB call_isiT bn.g.g bn.m boot_isi (pa_cons ha (pa_cons (pe_tup (pa_cons hT (pa_cons hU pa_nil (by rfl)) (by rfl))) pa_nil (by rfl)) (star1 hs)) (by decide +kernel) (by decide +kernel) (star1 hs) (by rfl)).imp fun σ H Q q => ?_
  refine tm_imp (tm_bind (rel1 := relP P) q) fun v H1 ⟨G, ρ, S, x, r, w, q⟩ => ?_
  obtain ⟨d, pk, q⟩ := res_of r w q
  have hn : d.kd ≠ .cell := fun z => by cases d <;> first | exact q.elim | cases z
  have q' : Post P (relO P) G σ (ofBool (T.has d || U.has d) ρ S) Q := by cases d <;> first | exact q | exact absurd rfl hn
  refine ⟨by show 2 ≤ sizeLine; rw [LN_eq]; decide, fun tp htp => ?_⟩
  have r2 := r.new htp (.tup [V.ty T.name, V.ty U.name])
  have pk2 : Peek P.K G (upd H1 tp (.tup [V.ty T.name, V.ty U.name])) v d := pk.mono (Gh.le.refl G) (fun a o' h => by rw [upd_ne (ne_of_none h htp)]; exact h)
  exact ⟨v, tp, [V.ty T.name, V.ty U.name], _, _, T.has d || U.has d, rfl, upd_same, .cons (.ty _) (.cons (.ty _) .nil), by rw [ok.hK]; exact pk2.tyx r2.fr hn, kit_two T U d hn, post_gives q' r2 (.bl _)⟩
/-! ### zip of two lists, of two tuples -/
def zipD (xs ys : List D) : List D := (xs.zip ys).map fun p => .tup [p.1, p.2]
def zipA : List D → M (List D)
  | [.lst xs, .lst ys] => pure (zipD xs ys)
  | [.tup xs, .tup ys] => pure (zipD xs ys)
  | _ => M.err
def zipM (ms : M (List D)) : M (List D) := do
  let ds ← ms
  zipA ds
theorem zipD_at {xs ys : List D} {i : Nat} {d : D} (h : (zipD xs ys)[i]? = some d) : ∃ a b, xs[i]? = some a ∧ ys[i]? = some b ∧ d = .tup [a, b] := by
  unfold zipD at h
  rw [List.getElem?_map] at h
  cases q : (xs.zip ys)[i]? with
  | none => rw [q] at h; cases h
  | some p =>
    rw [q] at h
    cases h
    rw [List.getElem?_zip_eq_some] at q
    exact ⟨p.1, p.2, q.1, q.2, rfl⟩
theorem zipD_len (xs ys : List D) : (zipD xs ys).length = min xs.length ys.length := by
  unfold zipD
  rw [List.length_map, List.length_zip]
theorem itok_zip {a b : Addr} {vs ws : List V} {ds es : List D} (q : G.F a = some (.lst vs)) (l : RepL P.K G.F G.ι vs ds) (q2 : G.F b = some (.lst ws)) (l2 : RepL P.K G.F G.ι ws es) : ItOk P G (Itz P.K a b) (zipD ds es) := fun bs G' ρ S σ H le _ r => by
  have hq : H a = some (.lst vs) := r.fr _ _ (le.sub _ _ q)
  have hq2 : H b = some (.lst ws) := r.fr _ _ (le.sub _ _ q2)
  refine ⟨fun i d e => ?_, vs, ws, SqL.of hq, SqL.of hq2, by have := zipD_len ds es; have := l.length; have := l2.length; omega⟩
  obtain ⟨x, y, e1, e2, rfl⟩ := zipD_at e
  obtain ⟨v, f1, f2⟩ := l.at e1
  obtain ⟨u, g1, g2⟩ := l2.at e2
  refine ⟨⟨vs, ws, v, u, SqL.of hq, SqL.of hq2, f1, g1⟩, fun z H' hy => ?_⟩
  obtain ⟨T, z1, z2, rfl, hT, rfl, hz, hz2⟩ := hy
  have h1 := hz vs (SqL.of hq)
  rw [f1] at h1
  cases h1
  have h2 := hz2 ws (SqL.of hq2)
  rw [g1] at h2
  cases h2
  obtain ⟨G'', le2, r2, w2⟩ := R.newTup (P := { K := P.K, b := bs, cv := P.cv, W := P.W }) r hT (vs := [v, u]) (ds := [x, y]) (.cons (f2.mono le) (.cons (g2.mono le) .nil))
  exact ⟨G'', le2, r2, w2, fun p hp => upd_ne fun z => hp (z ▸ hT)⟩
theorem itok_zipT {a b : Addr} {vs ws : List V} {ds es : List D} (q : SqT P.K G.F a vs) (l : RepL P.K G.F G.ι vs ds) (q2 : SqT P.K G.F b ws) (l2 : RepL P.K G.F G.ι ws es) : ItOk P G (RZ.ItzT P.K a b) (zipD ds es) := fun bs G' ρ S σ H le _ r => by
  have hq : SqT P.K H a vs := sub_t (le.sub.trans r.fr) q
  have hq2 : SqT P.K H b ws := sub_t (le.sub.trans r.fr) q2
  refine ⟨fun i d e => ?_, vs, ws, hq, hq2, by have := zipD_len ds es; have := l.length; have := l2.length; omega⟩
  obtain ⟨x, y, e1, e2, rfl⟩ := zipD_at e
  obtain ⟨v, f1, f2⟩ := l.at e1
  obtain ⟨u, g1, g2⟩ := l2.at e2
  refine ⟨⟨vs, ws, v, u, hq, hq2, f1, g1⟩, fun z H' hy => ?_⟩
  obtain ⟨T, z1, z2, rfl, hT, rfl, hz, hz2⟩ := hy
  have h1 := hz vs hq
  rw [f1] at h1
  cases h1
  have h2 := hz2 ws hq2
  rw [g1] at h2
  cases h2
  obtain ⟨G'', le2, r2, w2⟩ := R.newTup (P := { K := P.K, b := bs, cv := P.cv, W := P.W }) r hT (vs := [v, u]) (ds := [x, y]) (.cons (f2.mono le) (.cons (g2.mono le) .nil))
  exact ⟨G'', le2, r2, w2, fun p hp => upd_ne fun z => hp (z ▸ hT)⟩
theorem t_zip (ok : Ok k X P) (bn : Bn X "zip") {elts : List Expr} {kk : Nat} (ha : PA X [a, b] (tmL P ms)) (hs : isStar a = false) (hs2 : isStar b = false) : PI X (.Tuple elts kk tpos) (.Call (.Name "zip" p) [a, b] [] pos) (tiG P (zipM ms)) := by
  refine (RZ.pi_zipA bn.g.g bn.m ha (star1 hs) (star0 (by simp [hs2]))).imp fun σ H Rr q => tm_imp (ti_bind (rel1 := relL P) q) fun vs H1 ⟨G, ρ, S, ds, r, w, q⟩ => ?_
  have w : RepL P.K G.F G.ι vs ds := w
  unfold zipA at q
  split at q
  · rename_i xs ys
    cases w with
    | cons w1 w =>
      cases w with
      | cons w2 w =>
        cases w
        obtain ⟨a1, us1, rfl, z, l⟩ := w1.toLst
        · obtain ⟨a2, us2, rfl, z2, l2⟩ := w2.toLst
          · exact ⟨_, _, _, _, rfl, .inl ⟨SqL.of (r.fr _ _ z), SqL.of (r.fr _ _ z2), by rw [ok.hK]; exact q _ H1 G (Gh.le.refl _) r (itok_zip z l z2 l2)⟩⟩
  · rename_i xs ys
    cases w with
    | cons w1 w =>
      cases w with
      | cons w2 w =>
        cases w
        obtain ⟨a1, us1, rfl, z, l⟩ := w1.toTup
        · obtain ⟨a2, us2, rfl, z2, l2⟩ := w2.toTup
          · exact ⟨_, _, _, _, rfl, .inr ⟨by rw [ok.hK]; exact sub_t r.fr z, by rw [ok.hK]; exact sub_t r.fr z2, by rw [ok.hK]; exact q _ H1 G (Gh.le.refl _) r (itok_zipT z l z2 l2)⟩⟩
  · exact q.elim
/-! ### divmod, repr of a whole number -/
inductive BJ where
  | divmod | repr
def BJ.name : BJ → Str
  | .divmod => "divmod" | .repr => "repr"
def BJ.id : BJ → String
  | .divmod => "divmod" | .repr => "repr"
def divmodD : List D → M OD
  | [.int i, .int j] => if 0 < j ∧ j < 1073741824 then gives (.tup [.int (i / j), .int (i % j)]) else M.err
  | _ => M.err
def reprD : List D → M OD
  | [.int i] => if i.natAbs.log2 < 1920 then gives (.str (decI i)) else M.err
  | _ => M.err
def BJ.sem : BJ → List D → M OD
  | .divmod => divmodD
  | .repr => reprD
def BJ.r : BJ → List V → Hp → VK → Prop
  | .divmod => fun xs H Q => ∃ i j, xs = [.int i, .int j] ∧ CDiv i j ∧ ∀ p, H p = none → Q (.ref p) (upd H p (.tup [.int (i / j), .int (i % j)]))
  | .repr => fun xs H Q => ∃ i, xs = [.int i] ∧ i.natAbs.log2 < 1920 ∧ Q (.str (toString i)) H
theorem BJ.ok (f : BJ) : CallR X (.builtin f.id) f.r := by
  cases f
  · exact call_divmod
  · exact SkE.call_repr_int
theorem BJ.boot (f : BJ) : bootBuiltins f.name = some (.builtin f.id) ∧ f.name ≠ "__name__" ∧ (f.name == ("__debug__" : Str)) = false := by
  cases f <;> exact ⟨by decide +kernel, by decide +kernel, by decide +kernel⟩
theorem t_bj (ok : Ok k X P) (f : BJ) {es : List Expr} (bn : Bn X f.name) (ha : PA X (e :: es) (tmG P (relPL P) os)) (hs : (e :: es).all (fun e => !isStar e) = true) : PE X (.Call (.Name f.name p) (e :: es) [] pos) (tmO P (biM os f.sem)) := by
  simp only [List.all_cons, Bool.and_eq_true, Bool.not_eq_true'] at hs
  obtain ⟨b1, b2, b3⟩ := f.boot
  refine (pe_callB f.ok bn.g.g bn.m b1 ha b2 b3 (star1 hs.1) (star0 hs.2)).imp fun σ H Q q => call_of (fun {G ρ S H vs ds Q} r pl h => ?_) q
  cases f with
  | divmod =>
    replace h : Post P (relO P) G σ (divmodD ds ρ S) Q := h
    unfold divmodD at h
    split at h
    · rename_i i j
      obtain ⟨y, z, rfl, p1, p2⟩ := pl.two
      cases p1.int
      cases p2.int
      obtain ⟨hc, h⟩ := post_if h
      exact ⟨i, j, rfl, hc, fun p hp => post_tup h r hp (.cons (.int _) (.cons (.int _) .nil))⟩
    · exact h.elim
  | repr =>
    replace h : Post P (relO P) G σ (reprD ds ρ S) Q := h
    unfold reprD at h
    split at h
    · rename_i i
      obtain ⟨y, rfl, p1⟩ := pl.one
      cases p1.int
      obtain ⟨hc, h⟩ := post_if h
      refine ⟨i, rfl, hc, ?_⟩
      rw [str_decI]
      exact post_gives h r (.str _ (okChars _))
    · exact h.elim
end
/-! ### a def that calls itself: the bottom -/
theorem mkErr {P : Program} {w : World} {K : KW} {mg : Str → Option Value} {base : Heap} {cv : Nat → Value × Str} {x qual : Str} {params : Arguments} {body : List Stmt} {scope : Scope} {f : Addr} {fd : FuncData} {ps : List Str} {k n : Nat}
    (F : FunD K x qual params body scope [] [] f fd) (hg : mg x = some (.ref f)) (hn : ps.length = n) (hb : Binds K fd ps []) : CallAt P w K mg base cv k x n (fun _ _ => .err) :=
  ⟨f, fd, ps, hn, ⟨fun vs H Q E ⟨_, _, _, _, _, _, z⟩ => z.elim, fun {A outer s H args us vs Q E} _ _ _ _ _ ⟨_, _, _, _, _, _, z⟩ => z.elim⟩, hg, F.kp, hb⟩
/-! ### a call that looks at its arguments alone and gives a scalar: the caller keeps its own objects -/
mutual
def D.nc : D → Bool
  | .tup xs => D.ncL xs
  | .lst xs => D.ncL xs
  | .cell _ => false
  | .dct _ _ => false
  | .obj _ fs => D.ncL fs
  | .exn _ fs => D.ncL fs
  | _ => true
def D.ncL : List D → Bool
  | [] => true
  | x :: xs => D.nc x && D.ncL xs
end
mutual
theorem Rep.over {K : KW} {F F' : Hp} {ι ι' : List Addr} (s : Sub F F') : ∀ {v : V} {d : D}, Rep K F ι v d → D.nc d = true → Rep K F' ι' v d
  | _, _, .non, _ => .non
  | _, _, .bl b, _ => .bl b
  | _, _, .int i, _ => .int i
  | _, _, .str x h, _ => .str x h
  | _, _, .tup q r, h => .tup (sub_t s q) (RepL.over s r (by simpa [D.nc] using h))
  | _, _, .scr q, _ => .scr (sub_l s q)
  | _, _, .cell _, h => by simp [D.nc] at h
  | _, _, .ob q r, h => .ob (s _ _ q) (ORep.over s r h)
theorem ORep.over {K : KW} {F F' : Hp} {ι ι' : List Addr} (s : Sub F F') : ∀ {a : Addr} {o : HO} {d : D}, ORep K F ι a o d → D.nc d = true → ORep K F' ι' a o d
  | _, _, _, .lst r, h => .lst (RepL.over s r (by simpa [D.nc] using h))
  | _, _, _, .dct0 _ _, h => by simp [D.nc] at h
  | _, _, _, .dct1 _ _ _, h => by simp [D.nc] at h
  | _, _, _, .dct2 _ _, h => by simp [D.nc] at h
  | _, _, _, .dct3 _ _ _, h => by simp [D.nc] at h
  | _, _, _, .ins e r, h => .ins e (RepL.over s r (by simpa [D.nc] using h))
  | _, _, _, .exn0, _ => .exn0
  | _, _, _, .exn1 e r, h => .exn1 (s _ _ e) (Rep.over s r (by simpa [D.nc, D.ncL] using h))
  | _, _, _, .tbl e t q, _ => .tbl e t fun pos cv hc => let ⟨c, e1, e2⟩ := q pos cv hc; ⟨c, e1, s _ _ e2⟩
theorem RepL.over {K : KW} {F F' : Hp} {ι ι' : List Addr} (s : Sub F F') : ∀ {v : List V} {d : List D}, RepL K F ι v d → D.ncL d = true → RepL K F' ι' v d
  | _, _, .nil, _ => .nil
  | _, _, .cons a t, h => by
    simp only [D.ncL, Bool.and_eq_true] at h
    exact .cons (Rep.over s a h.1) (RepL.over s t h.2)
end
theorem Peek.over {K : KW} {G : Gh} {H F' : Hp} {v : V} {d : D} (s : Sub G.F F') (so : ∀ a e, Own K G H a e → F' a = H a) (p : Peek K G H v d) (h : D.nc d = true) : Rep K F' [] v d := by
  rcases p with p | ⟨a, rfl, o⟩
  · exact Rep.over s p h
  · have e := so a _ o
    obtain ⟨o, q, l⟩ := o
    exact .ob (e.trans q) (ORep.over s l h)
theorem PeekL.over {K : KW} {G : Gh} {H F' : Hp} (s : Sub G.F F') (so : ∀ a e, Own K G H a e → F' a = H a) : ∀ {vs : List V} {ds : List D}, PeekL K G H vs ds → D.ncL ds = true → RepL K F' [] vs ds
  | _, _, .nil, _ => .nil
  | _, _, .cons a t, h => by
    simp only [D.ncL, Bool.and_eq_true] at h
    exact .cons (a.over s so h.1) (PeekL.over s so t h.2)
def D.scal0 : D → Bool
  | .non => true
  | .bl _ => true
  | .int _ => true
  | .str _ => true
  | _ => false
def D.scal : D → Bool
  | .non => true
  | .bl _ => true
  | .int _ => true
  | .str _ => true
  | .tup xs => xs.all D.scal0
  | _ => false
theorem Rep.scal0 {K : KW} {F F' : Hp} {ι ι' : List Addr} {v : V} {d : D} (r : Rep K F ι v d) (h : D.scal0 d = true) : Rep K F' ι' v d := by
  cases r with
  | non => exact .non
  | bl b => exact .bl b
  | int i => exact .int i
  | str s hs => exact .str s hs
  | ob q r => cases r <;> simp [D.scal0] at h
  | _ => simp [D.scal0] at h
theorem RepL.scal0 {K : KW} {F F' : Hp} {ι ι' : List Addr} : ∀ {vs : List V} {ds : List D}, RepL K F ι vs ds → ds.all D.scal0 = true → RepL K F' ι' vs ds
  | _, _, .nil, _ => .nil
  | _, _, .cons a t, h => by
    simp only [List.all_cons, Bool.and_eq_true] at h
    exact .cons (a.scal0 h.1) (RepL.scal0 t h.2)
/-- what a call may look at: the frozen part and the caller's own objects, no more -/
noncomputable def peekF (K : KW) (G : Gh) (H : Hp) : Hp := fun a => by
  classical
  exact if (∃ d, Own K G H a d) ∨ G.F a ≠ none then H a else none
theorem peek_own {K : KW} {G : Gh} {H : Hp} (a : Addr) (d : D) (o : Own K G H a d) : peekF K G H a = H a := if_pos (.inl ⟨d, o⟩)
theorem peek_fr {K : KW} {G : Gh} {H : Hp} (s : Sub G.F H) : Sub G.F (peekF K G H) := fun a o e => by
  have : peekF K G H a = H a := if_pos (.inr (by rw [e]; simp))
  rw [this]
  exact s a o e
theorem peek_sub {K : KW} {G : Gh} {H : Hp} : Sub (peekF K G H) H := fun a o e => by
  unfold peekF at e
  split at e
  · exact e
  · cases e
theorem R.grow {K : KW} {b : Bs} {G : Gh} {ρ : Rho} {S : List D} {σ : L2.St} {H H' : Hp} (r : R K b G ρ S σ H) (h : ∀ a o, H a = some o → H' a = some o) : R K b G ρ S σ H' := by
  have own : ∀ {x d}, Own K G H x d → Own K G H' x d := fun {x d} w => by
    obtain ⟨u, q⟩ := w.some
    exact w.mono (Gh.le.refl G) ((h _ _ q).trans q.symm)
  refine ⟨r.fr.trans h, r.cn, fun n d e => ?_, r.nd, r.f0, r.fn, r.i0, fun x u e hm => h _ _ (r.kp x u e hm), r.ln, fun i own' d e => ?_, r.dj⟩
  · obtain ⟨x, e1, e2, e3⟩ := r.cl n d e
    exact ⟨x, e1, own e2, e3⟩
  · obtain ⟨v, e1, h1, h2⟩ := r.vs i own' d e
    exact ⟨v, e1, h1, fun z => let ⟨x, q, w, l⟩ := h2 z; ⟨x, q, own w, l⟩⟩
/-- a tuple of scalars that a call gives comes to the caller's frozen part -/
theorem tup_back {K : KW} {b b' : Bs} {G G' : Gh} {ρ : Rho} {S : List D} {σ : L2.St} {H H' : Hp} {ρ' : Rho} {S' : List D} {σ' : L2.St} (r : R K b G ρ S σ H) (eb : b' = ⟨H, peekF K G H, []⟩) (r' : R K b' G' ρ' S' σ' H') {v : V} {ds : List D} (w : Rep K G'.F G'.ι v (.tup ds)) (h : ds.all D.scal0 = true) :
    ∃ G2, G.le G2 ∧ R K b G2 ρ S σ H' ∧ Rep K G2.F G2.ι v (.tup ds) := by
  subst eb
  have r1 : R K b G ρ S σ H' := r.grow fun a o e => r'.kp a o e (by simp)
  obtain ⟨a, vs, rfl, q, l⟩ := w.toTup
  rcases q with q | q
  · by_cases hp : peekF K G H a = none
    · have hB : H a = none := by
        cases e : H a with
        | none => rfl
        | some o =>
          have := r'.fn a hp (by show H a ≠ none; rw [e]; simp)
          rcases q with q | ⟨o, q⟩
          · rw [this] at q; cases q
          · rw [this] at q; cases q
      obtain ⟨o, ho⟩ : ∃ o, G'.F a = some o := by
        rcases q with q | ⟨o, q⟩
        · exact ⟨_, q⟩
        · exact ⟨_, q⟩
      obtain ⟨r2, le⟩ := r1.freeze (r.loose hB) (r'.fr a o ho) (r.noVar hB)
      refine ⟨_, le, r2, .tup ?_ (l.scal0 h)⟩
      have : upd G.F a o a = some o := upd_same
      rcases q with q | ⟨o', q⟩
      · exact .inl (.inl (by show upd G.F a o a = _; rw [this, ← ho, q]))
      · exact .inl (.inr ⟨o', by show upd G.F a o a = _; rw [this, ← ho, q]⟩)
    · have hG : G.F a = G'.F a := by
        obtain ⟨o, e⟩ : ∃ o, peekF K G H a = some o := by
          cases e : peekF K G H a with
          | none => exact absurd e hp
          | some o => exact ⟨o, rfl⟩
        have e2 : G'.F a = some o := r'.f0 a o e
        have e3 : H a = some o := peek_sub a o e
        cases eg : G.F a with
        | some o' => rw [e2, ← e3]; exact (r.fr a o' eg).symm
        | none =>
          exfalso
          unfold peekF at hp
          split at hp
          · rename_i hc
            rcases hc with ⟨d, u, hu, ru⟩ | hc
            · rw [e3] at hu
              cases hu
              rcases q with q | ⟨o', q⟩
              · rw [e2] at q
                cases q
                cases ru
              · rw [e2] at q
                cases q
                cases ru
            · exact hc eg
          · exact hp rfl
      refine ⟨G, Gh.le.refl G, r1, .tup ?_ (l.scal0 h)⟩
      rcases q with q | ⟨o', q⟩
      · exact .inl (.inl (hG.trans q))
      · exact .inl (.inr ⟨o', hG.trans q⟩)
  · exact ⟨G, Gh.le.refl G, r1, .tup (.inr q) (l.scal0 h)⟩
def pcallR (n : Nat) (g : Fn) (ds : List D) : M OD := fun ρ S => if ds.length = n ∧ D.ncL ds = true then (match g ds [] with
    | .ok x _ _ => if !x.1 && D.scal x.2 then .ok (false, x.2) ρ S else .err
    | .exc c vs _ _ => (match vs with
      | [] => .exc c [] ρ S
      | _ => .err)
    | .err => .err) else .err
def pcallM (n : Nat) (g : Fn) (os : M (List Opd)) : M OD := biM os (pcallR n g)
section
variable {X : Cx} {P : Pm} {k : Nat} {x : Str} {p pos : Pos} {e : Expr} {es : List Expr} {g : Fn} {os : M (List Opd)}
theorem pcall_of {σ : L2.St} {H : Hp} {Q : VK} {n : Nat} (q : tmO P (pcallM n g os) σ H Q) : tmG P (relPL P) os σ H fun vs H1 => spF P.K P.cv g n vs H1 Q (WE P.W σ) := by
  refine tm_imp (tm_bind (rel1 := relPL P) q) fun vs H1 ⟨G, ρ, S, xs, r, w, q1⟩ => ?_
  obtain ⟨ds, pl, q2⟩ := resL_of r (pcallR n g) w q1
  unfold pcallR at q2
  by_cases hc : ds.length = n ∧ D.ncL ds = true
  · rw [if_pos hc] at q2
    have r0 : R P.K ⟨H1, peekF P.K G H1, []⟩ ⟨peekF P.K G H1, []⟩ [] [] [] H1 := ⟨peek_sub, rfl, fun n d e => by simp at e, List.nodup_nil, Sub.refl _, fun a e _ => e, ⟨[], rfl, fun a h => by simp at h⟩, fun a o e _ => e, rfl, fun i own d e => by simp at e, fun i j d d' a n e1 => by simp at e1⟩
    refine ⟨⟨peekF P.K G H1, []⟩, [], ds, r0, pl.over (peek_fr r.fr) peek_own hc.2, hc.1, ?_⟩
    cases eg : g ds [] with
    | ok y ρ' S' =>
      rw [eg] at q2
      by_cases hs : (!y.1 && D.scal y.2) = true
      · simp only [if_pos hs] at q2
        intro v H' G' le r' w'
        simp only [Bool.and_eq_true, Bool.not_eq_true'] at hs
        have hr := w'.1 hs.1
        have simple : D.scal0 y.2 = true → Q v H' := fun h0 => q2 v H' G (Gh.le.refl _) (r.grow fun a o h => r'.kp a o h (by simp)) (VOk.fz (hr.scal0 h0))
        obtain ⟨y1, y2⟩ := y
        cases y2 with
        | tup ts =>
          obtain ⟨G2, le2, r2, w2⟩ := tup_back r rfl r' hr hs.2
          exact q2 v H' G2 le2 r2 (VOk.fz w2)
        | _ => first | exact simple rfl | exact absurd hs.2 (by simp [D.scal])
      · simp only [if_neg hs] at q2
        exact q2.elim
    | exc c xs' ρ' S' =>
      rw [eg] at q2
      cases xs' with
      | nil =>
        intro cls dd H' G' le r' w'
        exact q2 cls dd H' G (Gh.le.refl _) (r.grow fun a o h => r'.kp a o h (by simp)) w'
      | cons a t => exact q2.elim
    | err => rw [eg] at q2; exact q2
  · rw [if_neg hc] at q2
    exact q2.elim
theorem t_pcall {j n : Nat} (o : Ok k X P) (c : CallAt X.prog X.w P.K X.mg X.base P.cv j x n g) (hj : j ≤ k) (gn : Gn X x) (ha : PA X (e :: es) (tmG P (relPL P) os)) (hs : (e :: es).all (fun e => !isStar e) = true) :
    PE X (.Call (.Name x p) (e :: es) [] pos) (tmO P (pcallM n g os)) := by
  obtain ⟨f, fd, ps, hn, F, hm, hk, hb⟩ := c.ex
  rw [← o.hK] at hk hb
  have F' : FnG X.prog X.w X.K X.mg X.base (L2.CX X.prog X.w) j f fd ps (spF P.K P.cv g n) := by rw [o.hK]; exact F
  simp only [List.all_cons, Bool.and_eq_true, Bool.not_eq_true'] at hs
  exact (pe_callG (F'.mono hj) o.room o.gd gn.g hm hk hb (passAt o.tk) ha gn.d (star1 hs.1) (star0 hs.2)).imp fun σ H Q q => pcall_of q
end
/-! ### while: as many turns as it needs -/
section
variable {c : M OD} {b : MS}
theorem whl_more : ∀ (n : Nat) (ρ : Rho) (S : List D), whlL c b n ρ S ≠ .err → whlL c b (n + 1) ρ S = whlL c b n ρ S
  | 0, ρ, S, h => absurd rfl h
  | n + 1, ρ, S, h => by
    have e : ∀ k, whlL c b (k + 1) ρ S = match c.test ρ S with
      | .ok t ρ1 S1 => (if t then fun ρ S => (match b ρ S with
        | .nxt ρ1 S1 => whlL c b k ρ1 S1
        | .cnt ρ1 S1 => whlL c b k ρ1 S1
        | .brk ρ1 S1 => .nxt ρ1 S1
        | r => r : SRes) else skipS) ρ1 S1
      | .exc c vs ρ' S' => .exc c vs ρ' S'
      | .err => .err := fun k => by
      show M.thn c.test _ ρ S = _
      unfold M.thn
      cases c.test ρ S <;> rfl
    rw [e (n + 1), e n]
    rw [e n] at h
    cases hc : c.test ρ S with
    | err => rfl
    | exc => rfl
    | ok t ρ1 S1 =>
      rw [hc] at h
      cases t with
      | false => rfl
      | true =>
        simp only [if_true] at h ⊢
        cases hb : b ρ1 S1 with
        | nxt ρ2 S2 => rw [hb] at h; exact whl_more n ρ2 S2 h
        | cnt ρ2 S2 => rw [hb] at h; exact whl_more n ρ2 S2 h
        | _ => rfl
theorem whl_add (n : Nat) (ρ : Rho) (S : List D) (h : whlL c b n ρ S ≠ .err) : ∀ k, whlL c b (n + k) ρ S = whlL c b n ρ S
  | 0 => rfl
  | k + 1 => by
    have ih := whl_add n ρ S h k
    rw [← Nat.add_assoc, whl_more (n + k) ρ S (by rw [ih]; exact h), ih]
end
open Classical in
noncomputable def whlX (c : M OD) (b : MS) : MS := fun ρ S => if h : ∃ n, whlL c b n ρ S ≠ .err then whlL c b (choose h) ρ S else .err
theorem whlX_eq {c : M OD} {b : MS} {n : Nat} {ρ : Rho} {S : List D} (h : whlL c b n ρ S ≠ .err) : whlX c b ρ S = whlL c b n ρ S := by
  unfold whlX
  have hx : ∃ n, whlL c b n ρ S ≠ .err := ⟨n, h⟩
  rw [dif_pos hx]
  have h2 := Classical.choose_spec hx
  generalize Classical.choose hx = m at h2 ⊢
  rw [← whl_add n ρ S h m, ← whl_add m ρ S h2 n, Nat.add_comm]
theorem whl_run {c : M OD} {b : MS} (I : Nat → Rho → List D → Prop) (Q : SRes → Prop) (hq : ¬ Q .err)
    (h : ∀ k ρ S, I k ρ S → ∃ t ρ1 S1, c.test ρ S = .ok t ρ1 S1 ∧ (t = false → Q (.nxt ρ1 S1)) ∧ (t = true → (∃ ρ2 S2 k', (b ρ1 S1 = .nxt ρ2 S2 ∨ b ρ1 S1 = .cnt ρ2 S2) ∧ k' < k ∧ I k' ρ2 S2) ∨ (∃ ρ2 S2, b ρ1 S1 = .brk ρ2 S2 ∧ Q (.nxt ρ2 S2)) ∨ (∃ x ρ2 S2, b ρ1 S1 = .ret x ρ2 S2 ∧ Q (.ret x ρ2 S2)) ∨ ∃ x vs ρ2 S2, b ρ1 S1 = .exc x vs ρ2 S2 ∧ Q (.exc x vs ρ2 S2))) :
    ∀ (k : Nat) (ρ : Rho) (S : List D), I k ρ S → Q (whlX c b ρ S) := by
  have key : ∀ (k : Nat) (ρ : Rho) (S : List D), I k ρ S → ∃ n, Q (whlL c b n ρ S) := by
    intro k
    induction k using Nat.strongRecOn with
    | ind k ih =>
      intro ρ S i
      obtain ⟨t, ρ1, S1, e, hf, ht⟩ := h k ρ S i
      cases t with
      | false =>
        refine ⟨1, ?_⟩
        have : whlL c b 1 ρ S = .nxt ρ1 S1 := by
          show M.thn c.test _ ρ S = _
          unfold M.thn
          rw [e]
          rfl
        rw [this]
        exact hf rfl
      | true =>
        rcases ht rfl with ⟨ρ2, S2, k', e2, hk, i2⟩ | ⟨ρ2, S2, e2, q⟩ | ⟨x, ρ2, S2, e2, q⟩ | ⟨x, vs, ρ2, S2, e2, q⟩
        · obtain ⟨n, q⟩ := ih k' hk ρ2 S2 i2
          refine ⟨n + 1, ?_⟩
          have : whlL c b (n + 1) ρ S = whlL c b n ρ2 S2 := by
            show M.thn c.test _ ρ S = _
            unfold M.thn
            rw [e]
            show (if true = true then fun ρ S => (match b ρ S with
              | .nxt ρ1 S1 => whlL c b n ρ1 S1
              | .cnt ρ1 S1 => whlL c b n ρ1 S1
              | .brk ρ1 S1 => .nxt ρ1 S1
              | r => r : SRes) else skipS) ρ1 S1 = _
            rw [if_pos rfl]
            rcases e2 with e2 | e2 <;> (simp only [e2])
          rw [this]
          exact q
        · refine ⟨1, ?_⟩
          have : whlL c b 1 ρ S = .nxt ρ2 S2 := by
            show M.thn c.test _ ρ S = _
            unfold M.thn
            rw [e]
            show (if true = true then fun ρ S => (match b ρ S with
              | .nxt ρ1 S1 => whlL c b 0 ρ1 S1
              | .cnt ρ1 S1 => whlL c b 0 ρ1 S1
              | .brk ρ1 S1 => .nxt ρ1 S1
              | r => r : SRes) else skipS) ρ1 S1 = _
            rw [if_pos rfl]
            simp only [e2]
          rw [this]
          exact q
        · refine ⟨1, ?_⟩
          have : whlL c b 1 ρ S = .ret x ρ2 S2 := by
            show M.thn c.test _ ρ S = _
            unfold M.thn
            rw [e]
            show (if true = true then fun ρ S => (match b ρ S with
              | .nxt ρ1 S1 => whlL c b 0 ρ1 S1
              | .cnt ρ1 S1 => whlL c b 0 ρ1 S1
              | .brk ρ1 S1 => .nxt ρ1 S1
              | r => r : SRes) else skipS) ρ1 S1 = _
            rw [if_pos rfl]
            simp only [e2]
          rw [this]
          exact q
        · refine ⟨1, ?_⟩
          have : whlL c b 1 ρ S = .exc x vs ρ2 S2 := by
            show M.thn c.test _ ρ S = _
            unfold M.thn
            rw [e]
            show (if true = true then fun ρ S => (match b ρ S with
              | .nxt ρ1 S1 => whlL c b 0 ρ1 S1
              | .cnt ρ1 S1 => whlL c b 0 ρ1 S1
              | .brk ρ1 S1 => .nxt ρ1 S1
              | r => r : SRes) else skipS) ρ1 S1 = _
            rw [if_pos rfl]
            simp only [e2]
          rw [this]
          exact q
  intro k ρ S i
  obtain ⟨n, q⟩ := key k ρ S i
  rw [whlX_eq (n := n) fun z => hq (z ▸ q)]
  exact q
theorem t_whl {X : Cx} {P : Pm} {k : Nat} {c : Expr} {body : List Stmt} {mc : M OD} {mb : MS} {pos : Pos} (o : Ok k X P) (hp : PassesOwn (model X.prog X.w) X.A X.env X.xe) (hc : PT X c (tmB P mc.test)) (hb : PSs X body (tsG P mb)) : PS X (.While c body [] pos) (tsG P (whlX mc mb)) := by
  refine ⟨fun pins s σ H D I ⟨G, ρ, S, r, q⟩ => ?_⟩
  unfold whlX at q
  by_cases h : ∃ n, whlL mc mb n ρ S ≠ .err
  · rw [dif_pos h] at q
    exact (s_whl (Classical.choose h) hp hc hb).run pins s σ H D I ⟨G, ρ, S, r, q⟩
  · rw [dif_neg h] at q
    exact q.elim
/-! ### a <= b <= c < d -/
section
variable {X : Cx} {a b c d : Expr} {ta tb tc td : TE} {pos : Pos}
def tChain3 (r r' r'' : R2) (ta tb tc td : TE) : TT := fun σ H Q => ta σ H fun x H1 => tb σ H1 fun y H2 => r x y H2 fun z H3 => ∃ k, z = .bl k ∧
  (if k = true then tc σ H3 fun u H4 => r' y u H4 fun z H5 => ∃ k, z = .bl k ∧ (if k = true then td σ H5 fun v H6 => r'' u v H6 fun z H7 => ∃ k, z = .bl k ∧ Q k H7 else Q false H5) else Q false H3)
theorem pt_chain3 {op op' op'' : CmpOp} {r r' r'' : R2} (ho : OpR X (compareOp op) r) (ho' : OpR X (compareOp op') r') (ho'' : OpR X (compareOp op'') r'') (ha : PE X a ta) (hb : PE X b tb) (hc : PE X c tc) (hd : PE X d td)
    (hm : lastMarks [op, op', op''] [b, c, d] = false) : PT X (.Compare a [op, op', op''] [b, c, d] pos) (tChain3 r r' r'' ta tb tc td) := by
  refine ⟨fun pins s σ H Q I h => ?_⟩
  refine isTrue_chain (thn (ha.run pins s σ H _ I h) fun v s1 ⟨x, H1, I1, r1, q1⟩ => test_link (thn (hb.run pins s1 σ H1 _ I1 q1) fun u s2 ⟨y, H2, I2, r2, q2⟩ =>
    thn (ho pins s2 σ H2 x y v u _ I2 r1 r2 q2) fun w s3 ⟨z, H3, I3, r3, k, e, q3⟩ => ?_)) hm
  subst e
  cases r3
  refine wpAny_truthy_bool ?_
  cases k with
  | false => exact ite_ff ⟨H3, I3, q3⟩
  | true =>
    refine ite_tt (test_link (thn (hc.run pins s3 σ H3 _ I3 q3) fun w' s4 ⟨z', H4, I4, r4, q4⟩ => thn (ho' pins s4 σ H4 y z' u w' _ I4 r2 r4 q4) fun d' s5 ⟨z2, H5, I5, r5, k2, e2, q5⟩ => ?_))
    subst e2
    cases r5
    refine wpAny_truthy_bool ?_
    cases k2 with
    | false => exact ite_ff ⟨H5, I5, q5⟩
    | true =>
      refine ite_tt (test_last (thn (hd.run pins s5 σ H5 _ I5 q5) fun w3 s6 ⟨z3, H6, I6, r6, q6⟩ => thn (ho'' pins s6 σ H6 z' z3 w' w3 _ I6 r4 r6 q6) fun d3 s7 ⟨z4, H7, I7, r7, k3, e3, q7⟩ => ?_))
      subst e3
      cases r7
      exact wpAny_truthy_bool ⟨H7, I7, q7⟩
end
section
variable {X : Cx} {P : Pm} {G : Gh} {ρ : Rho} {S : List D} {σ : L2.St} {H : Hp} {k : Nat} {a b c d : Expr} {oa ob oc od : M Opd} {pos : Pos}
theorem test_step {r : R2} {g : D → D → M OD} (h : QOk P r g) {x y : V} {d e : D} {f : Bool → M OD} {Q Q' : VK} (r1 : R P.K P.b G ρ S σ H) (p1 : Peek P.K G H x d) (p2 : Peek P.K G H y e) (q : Post P (relO P) G σ ((M.test (g d e) >>= f) ρ S) Q)
    (hk : ∀ (kb : Bool) (H3 : Hp) (G3 : Gh) (ρ3 : Rho) (S3 : List D), R P.K P.b G3 ρ3 S3 σ H3 → G.le G3 → Post P (relO P) G3 σ (f kb ρ3 S3) Q → Q' (.bl kb) H3) : r x y H Q' := by
  rw [test_bind_eq] at q
  refine h r1 p1 p2 ?_
  have h3 := Post.bind (rel1 := relO P) q
  generalize g d e ρ S = z at h3
  cases z with
  | ok od ρ2 S2 =>
    intro z H3 G'' l2 r2 w2'
    obtain ⟨G3, ρ3, S3, od, r3, w3, l3, q5⟩ := h3 z H3 G'' l2 r2 w2'
    obtain ⟨k, rfl, q6⟩ := bool_at w3 q5
    exact hk k H3 G3 ρ3 S3 r3 l3 q6
  | exc c vs ρ1 S1 => exact h3
  | err => exact h3
def ch3M (oa ob oc od : M Opd) (g g' g'' : D → D → M OD) : M OD := do
  let x ← oa
  let y ← ob
  let d ← resM x
  let e ← resM y
  let b ← M.test (g d e)
  if b then do
    let z ← oc
    let e' ← resM y
    let f ← resM z
    let b2 ← M.test (g' e' f)
    if b2 then do
      let w ← od
      let f' ← resM z
      let h ← resM w
      g'' f' h
    else ofBool false
  else ofBool false
theorem four_of {r r' r'' : R2} {g g' g'' : D → D → M OD} (h : QOk P r g) (h' : QOk P r' g') (h'' : QOk P r'' g'') {Q : Bool → Hp → Prop} (q : tmO P (ch3M oa ob oc od g g' g'') σ H fun x H1 => ∃ k, x = .bl k ∧ Q k H1) : tChain3 r r' r'' (tmP P oa) (tmP P ob) (tmP P oc) (tmP P od) σ H Q := by
  refine tm_imp (tm_two (rel1 := relP P) (rel2 := relP P) monoP q) fun x H1 q1 => tm_imp q1 fun y H2 ⟨G, ρ, S, o1, o2, r1, w1, w2, q2⟩ => ?_
  obtain ⟨d', p1, q3⟩ := res_of r1 w1 q2
  obtain ⟨e', p2, q4⟩ := res_of r1 w2 q3
  refine test_step h r1 p1 p2 q4 fun kb H3 G3 ρ3 S3 r3 l3 q5 => ⟨kb, rfl, ?_⟩
  rw [ite_ap] at q5
  cases kb with
  | false =>
    obtain ⟨k, e, qq⟩ := post_gives q5 r3 (.bl false)
    cases e
    exact qq
  | true =>
    refine tm_imp (tm_at (rel1 := relP P) r3 q5) fun u H4 ⟨G4, ρ4, S4, o, r4, w4, l4, q7⟩ => ?_
    obtain ⟨e2, p3, q8⟩ := res_of r4 (monoP (P := P) (ρ := ρ) (H := H2) (H' := H4) (ρ' := ρ4) (l3.trans l4) w2) q7
    obtain ⟨f2, p4, q9⟩ := res_of r4 w4 q8
    refine test_step h' r4 p3 p4 q9 fun kb H5 G5 ρ5 S5 r5 l5 q10 => ⟨kb, rfl, ?_⟩
    rw [ite_ap] at q10
    cases kb with
    | false =>
      obtain ⟨k, e, qq⟩ := post_gives q10 r5 (.bl false)
      cases e
      exact qq
    | true =>
      refine tm_imp (tm_at (rel1 := relP P) r5 q10) fun v H6 ⟨G6, ρ6, S6, o3, r6, w6, l6, q11⟩ => ?_
      obtain ⟨e3, p5, q12⟩ := res_of r6 (monoP (P := P) (ρ := ρ4) (H := H4) (H' := H6) (ρ' := ρ6) (l5.trans l6) w4) q11
      obtain ⟨f3, p6, q13⟩ := res_of r6 w6 q12
      exact h'' r6 p5 p6 q13
theorem t_chain3T (o : Ok k X P) (f f' f'' : CO) (ha : PE X a (tmP P oa)) (hb : PE X b (tmP P ob)) (hc : PE X c (tmP P oc)) (hd : PE X d (tmP P od)) (hm : lastMarks [f.op, f'.op, f''.op] [b, c, d] = false) :
    PT X (.Compare a [f.op, f'.op, f''.op] [b, c, d] pos) (tmB P (M.test (ch3M oa ob oc od f.sem f'.sem f''.sem))) :=
  (pt_chain3 (f.ok o) (f'.ok o) (f''.ok o) ha hb hc hd hm).imp fun _ _ _ q => four_of (f.q o) (f'.q o) (f''.q o) (tm_test q)
end
end Mi

namespace Mi
open PySem PySem.Spec PyProof.Rows L2

/-! ### sorted(xs) of a list of data -/
def rSortP (K : PySem.W.Frag) : List V → Hp → VK → Prop := fun xs H Q => ∃ (β : Type) (a : Addr) (bs : List β) (v : β → V) (enc : β → PyData), xs = [.ref a] ∧ SqL K H a (bs.map v) ∧ (∀ b ∈ bs, Dp K H (v b) (enc b) ∧ (enc b).depth ≤ 61) ∧
  PySem.W.AllAlike (bs.map enc) ∧ PySem.W.Sortable (bs.map enc) ∧ bs.length ≤ sizeLine ∧ ∀ q, H q = none → Q (.ref q) (upd H q (.lst ((bs.mergeSort (PySem.W.dataLe false enc)).map v)))
theorem each_vals {β : Type} {v : β → V} {P : Value → β → Prop} : ∀ {bs : List β} {us : List Value}, Vals (bs.map v) us → (∀ b ∈ bs, ∀ u, RelV (v b) u → P u b) → PySem.W.EachIs P us bs
  | [], _, r, _ => by cases r; exact .nil
  | b :: bs, _, r, h => by
    cases r with
    | cons r1 r2 => exact .cons (h b List.mem_cons_self _ r1) (each_vals r2 fun c hc => h c (List.mem_cons_of_mem _ hc))
theorem vals_each {β : Type} {v : β → V} : ∀ {bs : List β} {us : List Value}, PySem.W.EachIs (fun u b => RelV (v b) u) us bs → Vals (bs.map v) us
  | _, _, .nil => .nil
  | _, _, .cons h t => .cons h (vals_each t)
theorem call_sortedP {X : Cx} (hu : X.A.units + 200 < cLine) : CallR X (.builtin "sorted") (rSortP X.K) := by
  intro pins s σ H xs us Q I r h
  obtain ⟨β, a, bs, v, enc, rfl, hs, hd, hal, hk, hl, q⟩ := h
  obtain rfl := Vals.ref1 r
  obtain ⟨its, rv, pl, hz⟩ := I.list hs
  refine PySem.W.sorted_data (vs := its) (bs := bs) (enc := enc) (R := fun u b => RelV (v b) u) pl.isList (each_vals rv fun b _ u h => h) (each_vals rv fun b hb u h => Dp.reads I _ _ _ (hd b hb).1 h) hal hk hl (fun b hb => by have := (hd b hb).2; omega) fun out ho eo => ?_
  have hn : s.heap.objs.size ≤ s.heap.objs.size + 1 := Nat.le_succ _
  refine ⟨.ref (s.heap.objs.size + 1), upd H (s.heap.objs.size + 1) (.lst ((bs.mergeSort (PySem.W.dataLe false enc)).map v)), ?_, rfl, q _ (I.hok.fresh hn)⟩
  refine I.laid (t' := s.toks) (fun b o e => sortedAll_old e) hn ⟨?_, out, ?_⟩
  · rw [List.length_map, List.length_mergeSort]
    exact hl
  · obtain ⟨e, he⟩ := sortedAll_at s.heap its out.toArray
    exact ⟨e, vals_each eo, he⟩
def D.le (x y : D) : Bool := PySem.W.dataLe false D.py x y
def D.alk (x y : D) : Bool := PySem.W.alike x.py y.py
def D.tupB : D → Bool
  | .tup (_ :: _) => true
  | _ => false
def D.plnB : D → Bool
  | .int _ => true
  | .str _ => true
  | .bl _ => true
  | .lst _ => true
  | _ => false
def sortOk (xs : List D) : Bool := decide (xs.length ≤ LN) && D.dleL 60 xs && (xs.all fun x => xs.all fun y => D.alk x y) && (xs.all D.tupB || xs.all D.plnB)
def sortD : List D → M OD
  | [.lst xs] => if sortOk xs = true then fresh (.lst (xs.mergeSort D.le)) else M.err
  | [.dct _ es] => if sortOk (es.map (·.1)) = true then fresh (.lst ((es.map (·.1)).mergeSort D.le)) else M.err
  | _ => M.err
theorem dleL_mem {n : Nat} : ∀ {xs : List D}, D.dleL (n + 1) xs = true → ∀ x ∈ xs, D.dle n x = true
  | x :: xs, h, y, hy => by
    simp only [D.dleL, Bool.and_eq_true] at h
    rcases List.mem_cons.mp hy with rfl | hy
    · exact h.1
    · exact dleL_mem h.2 y hy
theorem RepL.ofZip {K : KW} {F : Hp} {ι : List Addr} : ∀ {ts : List (V × D)}, (∀ t ∈ ts, Rep K F ι t.1 t.2) → RepL K F ι (ts.map (·.1)) (ts.map (·.2))
  | [], _ => .nil
  | t :: ts, h => .cons (h t List.mem_cons_self) (RepL.ofZip fun u hu => h u (List.mem_cons_of_mem _ hu))
theorem RepL.zipAll {K : KW} {F : Hp} {ι : List Addr} : ∀ {vs : List V} {ds : List D}, RepL K F ι vs ds → (vs.zip ds).map (·.1) = vs ∧ (vs.zip ds).map (·.2) = ds ∧ ∀ t ∈ vs.zip ds, Rep K F ι t.1 t.2
  | _, _, .nil => ⟨rfl, rfl, fun t h => by simp at h⟩
  | _, _, .cons a t => by
    obtain ⟨h1, h2, h3⟩ := RepL.zipAll t
    refine ⟨by simp [h1], by simp [h2], fun u hu => ?_⟩
    simp only [List.zip_cons_cons, List.mem_cons] at hu
    rcases hu with rfl | hu
    · exact a
    · exact h3 u hu
theorem boot_sorted : bootBuiltins "sorted" = some (.builtin "sorted") := by decide +kernel
end Mi

namespace Mi
open PySem PySem.Spec PyProof.Rows L2

/-! ### a dict's keys and values, in their order -/
structure DR (X : Cx) (H : Hp) (a : Addr) (ks vs : List V) : Prop where
  at_ : ∀ (pins : List (Addr × Obj)) (σ : L2.St) (s : Shared), L2.Inv X pins σ H s → ∃ es ep, s.heap.DictRaw a es ep ∧ (a == sysModules) = false ∧ es.size ≤ sizeLine ∧ Vals ks (es.toList.map (·.key)) ∧ Vals vs (es.toList.map (·.val))
theorem pairs_kv {P : Program} {w : World} : ∀ {es : List DictEntry} {vs : List (Key × Value)} {kvs : List (Key × V)}, Pairs (mixKind P w) es vs → KV kvs vs → Vals (kvs.map fun p => kV p.1) (es.map (·.key)) ∧ Vals (kvs.map (·.2)) (es.map (·.val))
  | _, _, _, .nil, .nil => ⟨.nil, .nil⟩
  | _, _, _, .cons h1 h2 t, .cons q r => by
    obtain ⟨a, b⟩ := pairs_kv t r
    refine ⟨.cons ?_ a, .cons ?_ b⟩
    · show RelV (kV _) _
      rw [q.1]
      exact relV_key (show keyIs _ _ = true from h1)
    · show RelV _ (DictEntry.val _)
      rw [h2]
      exact q.2
theorem KM.dr {X : Cx} {H : Hp} {a : Addr} {kvs : List (Key × V)} (d : KM X H a kvs) : DR X H a (kvs.map fun p => kV p.1) (kvs.map (·.2)) := ⟨fun _ _ _ I => by
  obtain ⟨hz, hs, vs, kv, o, es, ep, g1, g2, g3, _, g5, _⟩ := d.at_ _ _ _ I
  obtain ⟨v1, v2⟩ := pairs_kv g5 kv
  refine ⟨es, ep, ⟨o, g1, g2, g3⟩, hs, ?_, v1, v2⟩
  have := v2.length
  simp only [List.length_map, Array.length_toList] at this
  omega⟩
theorem keyed_kv {P : Program} {w : World} : ∀ {ys : List (NestedKey × Addr × Value)} {xs : List (NestedKey × Addr × V)}, KV (kvN xs) (pairsH ys) → ys.map (fun y => (y.1, y.2.1)) = xs.map (fun x => (x.1, x.2.1)) →
    Vals (xs.map fun x => V.ref x.2.1) ((ys.map (entryOfKey (nestedKind P w))).map (·.key)) ∧ Vals (xs.map (·.2.2)) ((ys.map (entryOfKey (nestedKind P w))).map (·.val))
  | [], [], _, _ => ⟨.nil, .nil⟩
  | [], _ :: _, _, h => by simp at h
  | _ :: _, [], _, h => by simp at h
  | y :: ys, x :: xs, r, h => by
    have r : KV ((x.1, x.2.2) :: kvN xs) ((y.1, y.2.2) :: pairsH ys) := r
    cases r with
    | cons q t =>
      simp only [List.map_cons, List.cons.injEq, Prod.mk.injEq] at h
      obtain ⟨a, b⟩ := keyed_kv (P := P) (w := w) t h.2
      refine ⟨.cons ?_ a, .cons q.2 b⟩
      show Value.ref y.2.1 = Value.ref x.2.1
      rw [h.1.2]
theorem KD.dr {X : Cx} {H : Hp} {a : Addr} {xs : List (NestedKey × Addr × V)} (d : KD X H a xs) : DR X H a (xs.map fun x => V.ref x.2.1) (xs.map (·.2.2)) := ⟨fun _ _ _ I => by
  obtain ⟨ys, ⟨o, es, ep, g1, g2, g3, g4, _⟩, kv, k2, hs, hz, hl⟩ := d.at_ _ _ _ I
  obtain ⟨v1, v2⟩ := keyed_kv (P := X.prog) (w := X.w) kv k2
  rw [← g4] at v1 v2
  refine ⟨es, ep, ⟨o, g1, g2, g3⟩, hs, ?_, v1, v2⟩
  have := v2.length
  simp only [List.length_map, Array.length_toList] at this
  omega⟩
theorem Peek.dr {X : Cx} {K : KW} {G : Gh} {H : Hp} {x : V} {k : Nat} {es : List (D × D)} (hK : X.K = K.fr) (hw : X.w = K.w) (s : Sub G.F H) (w1 : Peek K G H x (.dct k es)) : ∃ a ks vs, x = .ref a ∧ DR X H a ks vs ∧ RepL K G.F G.ι ks (es.map (·.1)) ∧ RepL K G.F G.ι vs (es.map (·.2)) := by
  obtain ⟨a, rfl, l0, l1, _, hk⟩ := w1.dlook (X := X) hK hw s
  rcases kind_02 hk with hk | hk
  · obtain ⟨kvs, km, r1, r2⟩ := l0 hk
    exact ⟨a, _, _, rfl, km.dr, r1, r2⟩
  · obtain ⟨xs, kd, _, r1, r2⟩ := l1 hk
    exact ⟨a, _, _, rfl, kd.dr, r1, r2⟩
theorem items_keys {es : Array DictEntry} {acc : Array Value} (f : DictEntry → Value) (h : ItemsOf (fun i v => ∃ hi : i < es.size, v = f es[i]) acc es.size) : acc.toList = es.toList.map f := by
  refine List.ext_getElem ?_ fun i h1 h2 => ?_
  · rw [Array.length_toList, List.length_map, Array.length_toList]; exact h.1
  · obtain ⟨hi, e⟩ := h.2 i acc[i] (by simp)
    rw [Array.getElem_toList, e, List.getElem_map, Array.getElem_toList]

/-! ### sorted of what is walked -/
def SortC (K : PySem.W.Frag) (H : Hp) {β : Type} (bs : List β) (v : β → V) (enc : β → PyData) (Q : VK) : Prop := (∀ b ∈ bs, Dp K H (v b) (enc b) ∧ (enc b).depth ≤ 61) ∧ PySem.W.AllAlike (bs.map enc) ∧ PySem.W.Sortable (bs.map enc) ∧ bs.length ≤ sizeLine ∧
  ∀ q, H q = none → Q (.ref q) (upd H q (.lst ((bs.mergeSort (PySem.W.dataLe false enc)).map v)))
section
variable {X : Cx} {pins : List (Addr × Obj)} {σ : L2.St} {H : Hp} {s : Shared} {T : String} {r d : Addr} {n : Nat} {Pv : Nat → Value → Prop} {OK : Heap → Prop}
/-- sorted(x), x gathered as is told -/
theorem sorted_col (hu : X.A.units + 200 < cLine) {Q : VK}
    (col : ∀ (R : List Value → Shared → Prop) (E : Value → Shared → Prop), (∀ (l : List Value) (s1 : Shared) (H1 : Hp) (β : Type) (bs : List β) (v : β → V) (enc : β → PyData), L2.Inv X pins σ H1 s1 → Vals (bs.map v) l → SortC X.K H1 bs v enc Q → R l s1) → wpAny (model X.prog X.w) X.A.in1 (collect (.ref r)) R E s) :
    wpAny (model X.prog X.w) X.A (call (.builtin "sorted") [.ref r]) (EP X pins σ Q) X.xe s := by
  refine Calls.call_function_entry kind_sorted plain_sorted entry_sorted (args_sorted1 _) ?_
  unfold Builtin.«sorted»
  refine wpAny_bind (m := checkCount "sorted" 1 1 _) (wpAny_pure ?_)
  refine wpAny_bind (col _ _ fun l s1 H1 β bs v enc I1 rv ⟨hd, hal, hk, hl, q⟩ => ?_)
  have hl2 : l.length = bs.length := by rw [← rv.length, List.length_map]
  refine wpAny_bind (wpAny_newList ?_ (by rw [hl2]; exact hl))
  have hN : s1.heap.objs.size ≤ s1.heap.objs.size := Nat.le_refl _
  have ho : (s1.heap.push { cls := .type "list", data := .seq l.toArray }).get? s1.heap.objs.size = some (seqObj "list" l.toArray 0) := Heap.get?_push_size _ rfl
  have e : PySem.W.EachIs (fun u b => RelV (v b) u) l bs := each_vals rv fun b _ u h => h
  have er : PySem.W.EachIs (fun u b => ∃ as, Reads s1.heap u (enc b) as) l bs := each_vals rv fun b hb u h => Dp.reads I1 _ _ _ (hd b hb).1 h
  have kp : ∀ b o, s1.heap.get? b = some o → (PySem.W.sortingHeap (s1.heap.push { cls := .type "list", data := .seq l.toArray }) s1.heap.objs.size l).get? b = some o := fun b o q => PySem.W.sortingHeap_old (Nat.ne_of_lt (Heap.lt_size q)) (Heap.get?_push_of_some _ q)
  have er' : PySem.W.EachIs (fun u b => ∃ as, Reads (PySem.W.sortingHeap (s1.heap.push { cls := .type "list", data := .seq l.toArray }) s1.heap.objs.size l) u (enc b) as) l bs := er.mono fun _ _ ⟨as, r⟩ => ⟨as, PyProof.Rows.Reads.keeps kp r⟩
  refine wpAny_bind (wpAny_holding (wpAny_mono (Q := fun _ s' => EP X pins σ Q (.ref s1.heap.objs.size) s') (wpAny_call_entry slot_list_sort ⟨_, ho, rfl⟩ entry_list_sort (PySem.W.list_sort_vals (κ := PySem.W.dataKind _ (bs.map enc)) ho
    (PySem.W.SortsAt.data (PySem.W.each_map (R := fun u d => ∃ as, Reads _ u d as) enc er') hal hk (PySem.W.bound_map fun b hb => ?_)) (by rw [hl2]; exact hl) ⟨.none, rfl, ?_⟩) (args_list_sort _)) (fun _ s' x => wpAny_pure ⟨_, rfl, x⟩) fun _ _ e => e))
  · have := (hd b hb).2
    show X.A.units + 1 + 1 + _ < cLine
    omega
  · have eo := PySem.W.sortVals_data (h' := PySem.W.sortingHeap (s1.heap.push { cls := .type "list", data := .seq l.toArray }) s1.heap.objs.size l) false e er' hal
    refine ⟨.ref s1.heap.objs.size, upd H1 s1.heap.objs.size (.lst ((bs.mergeSort (PySem.W.dataLe false enc)).map v)), ?_, rfl, q _ (I1.hok.fresh hN)⟩
    obtain ⟨c, he⟩ := sortedHeap_at (vs := l) (out := (PySem.W.sortVals (PySem.W.dataKind (PySem.W.sortingHeap (s1.heap.push { cls := .type "list", data := .seq l.toArray }) s1.heap.objs.size l) (bs.map enc)) false l l).toArray) ho
    refine I1.laid (t' := s1.toks) (fun b o q => ?_) hN ⟨?_, _, c, vals_each eo, he⟩
    · have q2 : (s1.heap.push { cls := .type "list", data := .seq l.toArray }).get? b = some o := Heap.get?_push_of_some _ q
      exact (sortedHeap_old (Nat.ne_of_lt (Heap.lt_size q)) (Heap.lt_size q2)).trans q2
    · rw [List.length_map, List.length_mergeSort]
      exact hl
theorem sorted_src (I : L2.Inv X pins σ H s) (hc : X.calm = true) (hu : X.A.units + 200 < cLine) (K : PySem.W.KdlSrc X.prog X.w T r d n Pv OK) (hok : OK s.heap) (hn : n ≤ sizeLine) {β : Type} (bs : List β) (v : β → V) (enc : β → PyData)
    (hv : ∀ acc : Array Value, ItemsOf Pv acc n → Vals (bs.map v) acc.toList) {Q : VK} (q : SortC X.K H bs v enc Q) : wpAny (model X.prog X.w) X.A (call (.builtin "sorted") [.ref r]) (EP X pins σ Q) X.xe s :=
  sorted_col hu fun R E k => PySem.W.kdu_collect (A := X.A.in1) K (I.ok.hd hc) hok hn fun h' tk acc hk' hacc => k acc.toList _ H β bs v enc (I.kept hk') (hv acc hacc) q
/-- sorted(d) -/
def rSortK (X : Cx) : List V → Hp → VK → Prop := fun xs H Q => ∃ (β : Type) (a : Addr) (bs : List β) (v : β → V) (enc : β → PyData) (vs : List V), xs = [.ref a] ∧ DR X H a (bs.map v) vs ∧ SortC X.K H bs v enc Q
theorem call_sortedK (hc : X.calm = true) (hu : X.A.units + 200 < cLine) : CallR X (.builtin "sorted") (rSortK X) := by
  intro pins s σ H xs us Q I r h
  obtain ⟨β, a, bs, v, enc, vs, rfl, d, h1, h2, h3, h4, q⟩ := h
  obtain rfl := Vals.ref1 r
  obtain ⟨es, ep, raw, hs, hz, v1, v2⟩ := d.at_ _ _ _ I
  exact sorted_src I hc hu (PySem.KdlSrc.rawDict hs) raw hz bs v enc (fun acc ha => by rw [items_keys (·.key) ha]; exact v1) ⟨h1, h2, h3, h4, q⟩
theorem sort_data {P : Pm} {G : Gh} {ρ : Rho} {S : List D} {us : List V} {xs : List D} {Q : VK} (hK : X.K = P.K) (r : R P.K P.b G ρ S σ H) (l : RepL P.K G.F G.ι us xs) (c : sortOk xs = true) (h : Post P (relO P) G σ (fresh (.lst (xs.mergeSort D.le)) ρ S) Q) :
    ∃ bs : List (V × D), bs.map (·.1) = us ∧ SortC X.K H bs (·.1) (fun t => t.2.py) Q := by
  unfold sortOk at c
  simp only [Bool.and_eq_true, decide_eq_true_eq] at c
  obtain ⟨⟨⟨c1, c2⟩, c3⟩, c4⟩ := c
  obtain ⟨z1, z2, z3⟩ := l.zipAll
  have e2 : ∀ t ∈ us.zip xs, t.2 ∈ xs := fun t ht => by
    rw [← z2]
    exact List.mem_map.mpr ⟨t, ht, rfl⟩
  have em : (us.zip xs).map (fun t => t.2.py) = xs.map D.py := by
    rw [show (fun t : V × D => t.2.py) = D.py ∘ (·.2) from rfl, ← List.map_map, z2]
  have dm := dleL_mem (n := 59) c2
  refine ⟨us.zip xs, z1, fun t ht => ?_, ?_, ?_, ?_, fun p hp => ?_⟩
  · have hd := dm _ (e2 t ht)
    refine ⟨by rw [hK]; exact (z3 t ht).dp r.fr hd, ?_⟩
    have := ((z3 t ht).lay hd).2
    show t.2.py.depth ≤ 61
    omega
  · rw [em]
    intro d hd d' hd'
    obtain ⟨x, hx, rfl⟩ := List.mem_map.mp hd
    obtain ⟨y, hy, rfl⟩ := List.mem_map.mp hd'
    exact List.all_eq_true.mp (List.all_eq_true.mp c3 x hx) y hy
  · rw [em]
    rcases Bool.or_eq_true_iff.mp c4 with c4 | c4
    · left
      intro d hd
      obtain ⟨x, hx, rfl⟩ := List.mem_map.mp hd
      have := List.all_eq_true.mp c4 x hx
      unfold D.tupB at this
      split at this
      · exact ⟨_, _, by simp only [D.py, D.pyL]; rfl⟩
      · cases this
    · right
      intro d hd
      obtain ⟨x, hx, rfl⟩ := List.mem_map.mp hd
      have := List.all_eq_true.mp c4 x hx
      unfold D.plnB at this
      split at this <;> first | (cases this; done) | (constructor <;> simp [D.py])
  · rw [LN_eq, List.length_zip, l.length, Nat.min_self]; exact c1
  · have fin := post_fresh (p := p) (vs := ((us.zip xs).mergeSort (PySem.W.dataLe false fun t : V × D => t.2.py)).map (·.1)) h r hp (by
      have e3 : xs.mergeSort D.le = ((us.zip xs).mergeSort (PySem.W.dataLe false fun t : V × D => t.2.py)).map (·.2) := by
        rw [List.map_mergeSort (r := PySem.W.dataLe false fun t : V × D => t.2.py) (s := D.le) (f := fun t : V × D => t.2) (fun a _ b _ => rfl), z2]
      rw [e3]
      exact RepL.ofZip fun t ht => z3 t (List.mem_mergeSort.mp ht))
    exact fin
theorem q_sort {P : Pm} {G : Gh} {ρ : Rho} {S : List D} {vs : List V} {ds : List D} {Q : VK} (hK : X.K = P.K) (hw : X.w = P.K.w) (r : R P.K P.b G ρ S σ H) (pl : PeekL P.K G H vs ds) (h : Post P (relO P) G σ (sortD ds ρ S) Q) : rSortP X.K vs H Q ∨ rSortK X vs H Q := by
  unfold sortD at h
  split at h
  · rename_i xs
    obtain ⟨y, rfl, p⟩ := pl.one
    obtain ⟨a, us, rfl, q, l⟩ := p.lst r.fr
    obtain ⟨c, h⟩ := post_if h
    obtain ⟨bs, e, h1, h2, h3, h4, h5⟩ := sort_data (X := X) hK r l c h
    exact .inl ⟨V × D, a, bs, (·.1), fun t => t.2.py, rfl, by rw [e, hK]; exact SqL.of q, h1, h2, h3, h4, h5⟩
  · rename_i xs
    obtain ⟨y, rfl, p⟩ := pl.one
    obtain ⟨a, ks, us, rfl, dr, l, _⟩ := p.dr (X := X) (by rw [hK]) hw r.fr
    obtain ⟨c, h⟩ := post_if h
    obtain ⟨bs, e, hh⟩ := sort_data (X := X) hK r l c h
    exact .inr ⟨V × D, a, bs, (·.1), fun t => t.2.py, us, rfl, by rw [e]; exact dr, hh⟩
  · exact h.elim
end
theorem t_sort {X : Cx} {P : Pm} {k : Nat} {e : Expr} {os : M (List Opd)} {p pos : Pos} (ok : Ok k X P) (bn : Bn X "sorted") (ha : PA X [e] (tmG P (relPL P) os)) (hs : isStar e = false) : PE X (.Call (.Name "sorted" p) [e] [] pos) (tmO P (biM os sortD)) := by
  refine (pe_callB (CallR.or (call_sortedP (X := X) (by have := ok.un; omega)) (call_sortedK ok.calm ok.un)) bn.g.g bn.m boot_sorted ha (by decide +kernel) (by decide +kernel) (star1 hs) (by rfl)).imp fun σ H Q q => call_of (fun {G ρ S H vs ds Q} r pl h => q_sort ok.hK ok.hw r pl h) q

/-! ### {} -/
section
variable {X : Cx} {P : Pm} {G : Gh} {ρ : Rho} {S : List D} {σ : L2.St} {H : Hp} {Q : VK}
theorem post_own {p : Addr} {o : HO} {d : D} (h : Post P (relO P) G σ (fresh d ρ S) Q) (r : R P.K P.b G ρ S σ H) (hp : H p = none) (l : ORep P.K G.F G.ι p o d) : Q (.ref p) (upd H p o) :=
  h _ _ G (Gh.le.refl _) (r.new hp o) ⟨fun z => (nomatch z), fun _ => ⟨p, rfl, ⟨o, upd_same, l⟩, r.loose hp, r.noVar hp⟩⟩
theorem t_dnew {pos : Pos} : PE X (.Dict [] [] pos) (tmO P (fresh (.dct 0 []))) := pe_dnewK.imp fun σ H Q ⟨G, ρ, S, r, h⟩ p hp => post_own h r hp (.dct0 .nil .nil)
/-! ### {k: v, ..} -/
def pairsM : List (M OD × M OD) → M (List (D × D))
  | [] => pure []
  | p :: r => do
    let k ← p.1.val
    let v ← p.2.val
    let es ← pairsM r
    pure ((k, v) :: es)
def mergeE (es : List (D × D)) : List (D × D) := es.foldl (fun acc e => putE acc e.1 e.2) []
def dispM (ps : List (M OD × M OD)) : M OD := fun ρ S => match pairsM ps ρ S with
  | .ok es ρ' S' => if (es.all fun e => keyOk 0 e.1) = true ∧ es.length ≤ 15 then .ok (true, .dct 0 (mergeE es)) ρ' S' else if (es.all fun e => keyOk 1 e.1) = true ∧ es.length ≤ 15 then .ok (true, .dct 1 (mergeE es)) ρ' S' else .err
  | _ => .err
theorem bind_ok {α β : Type} {m : M α} {f : α → M β} {b : β} {ρ2 : Rho} {S2 : List D} (h : (m >>= f) ρ S = .ok b ρ2 S2) : ∃ a ρ1 S1, m ρ S = .ok a ρ1 S1 ∧ f a ρ1 S1 = .ok b ρ2 S2 := by
  rw [bind_ap] at h
  cases e : m ρ S with
  | ok a ρ1 S1 => rw [e] at h; exact ⟨a, ρ1, S1, rfl, h⟩
  | exc c vs ρ1 S1 => rw [e] at h; cases h
  | err => rw [e] at h; cases h
def trsOf (P : Pm) (ps : List (M OD × M OD)) : List (TE × TE) := ps.map fun p => (eAny P p.1.val, eAny P p.2.val)
theorem pairs_run {b : Bs} : ∀ {ps : List (M OD × M OD)} {G : Gh} {ρ : Rho} {S : List D} {H : Hp} {es : List (D × D)} {ρ' : Rho} {S' : List D} {Q : List (V × V) → Hp → Prop}, R P.K b G ρ S σ H → pairsM ps ρ S = .ok es ρ' S' →
    (∀ vs H' G', G.le G' → R P.K b G' ρ' S' σ H' → RepL P.K G'.F G'.ι (vs.map (·.1)) (es.map (·.1)) → RepL P.K G'.F G'.ι (vs.map (·.2)) (es.map (·.2)) → Q vs H') → tPairs (trsOf P ps) σ H Q
  | [], G, ρ, S, H, es, ρ', S', Q, r, e, q => by
    cases e
    exact q [] H G (Gh.le.refl _) r .nil .nil
  | p :: ps, G, ρ, S, H, es, ρ', S', Q, r, e, q => by
    obtain ⟨k, ρ1, S1, e1, e⟩ := bind_ok e
    obtain ⟨v, ρ2, S2, e2, e⟩ := bind_ok e
    obtain ⟨fs, ρ3, S3, e3, e⟩ := bind_ok e
    cases e
    refine ⟨b, G, ρ, S, r, ?_⟩
    rw [e1]
    intro x H1 G1 le1 r1 w1
    refine ⟨b, G1, ρ1, S1, r1, ?_⟩
    rw [e2]
    intro y H2 G2 le2 r2 w2
    refine pairs_run r2 e3 fun vs H' G' le' r' a1 a2 => ?_
    have w1' : Rep P.K G1.F G1.ι x k := w1
    have w2' : Rep P.K G2.F G2.ι y v := w2
    exact q _ H' G' (le1.trans (le2.trans le')) r' (.cons (w1'.mono (le2.trans le')) a1) (.cons (w2'.mono le') a2)
/-- the new dict is nobody's while the pairs are made -/
theorem disp_run {ps : List (M OD × M OD)} {es : List (D × D)} {ρ' : Rho} {S' : List D} {Q : List (V × V) → Hp → Prop} {p : Addr} (r : R P.K P.b G ρ S σ H) (e : pairsM ps ρ S = .ok es ρ' S') (hp : H p = none)
    (q : ∀ vs H' G', G.le G' → R P.K P.b G' ρ' S' σ H' → Lone P.b G' ρ' σ p → H' p = some (.dK []) → RepL P.K G'.F G'.ι (vs.map (·.1)) (es.map (·.1)) → RepL P.K G'.F G'.ι (vs.map (·.2)) (es.map (·.2)) → Q vs H') : tPairs (trsOf P ps) σ (upd H p (.dK [])) Q := by
  have l := r.lone hp
  have r1 := (r.new hp (.dK [])).ext l upd_same
  refine pairs_run r1 e fun vs H' G' le r' a1 a2 => ?_
  obtain ⟨r2, l2, h2⟩ := r'.unext l.b (r.f00 l.f) (r.c00 l.c)
  exact q vs H' G' le r2 l2 h2 a1 a2
theorem own_other {K : KW} {b : Bs} {p : Addr} {o : HO} {d : D} (r : R K b G ρ S σ H) (l : Lone b G ρ σ p) (w : ORep K G.F G.ι p o d) : R K b G ρ S σ (upd H p o) ∧ VOk K b G ρ σ (upd H p o) true d (.ref p) :=
  ⟨r.other l o, ⟨fun z => (nomatch z), fun _ => ⟨p, rfl, ⟨o, upd_same, w⟩, ⟨l.f, l.c, l.b⟩, l.v⟩⟩⟩
theorem merge_k {K : KW} {F : Hp} {ι : List Addr} : ∀ {vs : List (V × V)} {es : List (D × D)} {acc : List (Key × V)} {ace : List (D × D)}, (es.all fun e => keyOk 0 e.1) = true → RepL K F ι (vs.map (·.1)) (es.map (·.1)) → RepL K F ι (vs.map (·.2)) (es.map (·.2)) →
    RepL K F ι (acc.map fun p => kV p.1) (ace.map (·.1)) → RepL K F ι (acc.map (·.2)) (ace.map (·.2)) → ∃ kvs : List (Key × V), vs = kvs.map (fun kv => (kV kv.1, kv.2)) ∧ kvs.length = es.length ∧
      RepL K F ι ((mergeK acc kvs).map fun p => kV p.1) ((es.foldl (fun acc e => putE acc e.1 e.2) ace).map (·.1)) ∧ RepL K F ι ((mergeK acc kvs).map (·.2)) ((es.foldl (fun acc e => putE acc e.1 e.2) ace).map (·.2))
  | [], [], acc, ace, _, _, _, r1, r2 => ⟨[], rfl, rfl, r1, r2⟩
  | [], _ :: _, _, _, _, h, _, _, _ => by cases h
  | _ :: _, [], _, _, _, h, _, _, _ => by cases h
  | v :: vs, e :: es, acc, ace, hk, h1, h2, r1, r2 => by
    rw [List.map_cons, List.map_cons] at h1 h2
    rw [List.all_cons, Bool.and_eq_true] at hk
    cases h1 with
    | cons a1 t1 =>
      cases h2 with
      | cons a2 t2 =>
        obtain ⟨k, e1, e2, rk⟩ := key0 (G := ⟨F, ι⟩) (H := F) (.inl a1) hk.1
        rw [e1, e2] at rk
        obtain ⟨p1, p2⟩ := put_k rk a2 r1 r2
        rw [← e2] at p1 p2
        obtain ⟨kvs, f1, f2, f3, f4⟩ := merge_k hk.2 t1 t2 p1 p2
        refine ⟨(k, v.2) :: kvs, ?_, by simp [f2], f3, f4⟩
        rw [List.map_cons, f1]
        congr 1
        exact Prod.ext e1 rfl
def mergeN (acc xs : List (NestedKey × Addr × V)) : List (NestedKey × Addr × V) := xs.foldl (fun acc x => putN acc x.1 x.2.1 x.2.2) acc
theorem merge_n {K : KW} {F : Hp} {ι : List Addr} {hK : X.K = K.fr} (s : Sub F H) : ∀ {vs : List (V × V)} {es : List (D × D)} {acc : List (NestedKey × Addr × V)} {ace : List (D × D)}, (es.all fun e => keyOk 1 e.1) = true → RepL K F ι (vs.map (·.1)) (es.map (·.1)) → RepL K F ι (vs.map (·.2)) (es.map (·.2)) →
    ace.map (fun e => D.nk e.1) = acc.map (fun x => some x.1) → RepL K F ι (acc.map fun x => V.ref x.2.1) (ace.map (·.1)) → RepL K F ι (acc.map (·.2.2)) (ace.map (·.2)) →
    ∃ xs : List (NestedKey × Addr × V), vs = xs.map (fun x => (V.ref x.2.1, x.2.2)) ∧ xs.length = es.length ∧ (∀ x ∈ xs, KK X H x.2.1 x.1) ∧ (es.foldl (fun acc e => putE acc e.1 e.2) ace).map (fun e => D.nk e.1) = (mergeN acc xs).map (fun x => some x.1) ∧
      RepL K F ι ((mergeN acc xs).map fun x => V.ref x.2.1) ((es.foldl (fun acc e => putE acc e.1 e.2) ace).map (·.1)) ∧ RepL K F ι ((mergeN acc xs).map (·.2.2)) ((es.foldl (fun acc e => putE acc e.1 e.2) ace).map (·.2))
  | [], [], acc, ace, _, _, _, r0, r1, r2 => ⟨[], rfl, rfl, fun x h => by simp at h, r0, r1, r2⟩
  | [], _ :: _, _, _, _, h, _, _, _, _ => by cases h
  | _ :: _, [], _, _, _, h, _, _, _, _ => by cases h
  | v :: vs, e :: es, acc, ace, hk, h1, h2, r0, r1, r2 => by
    rw [List.map_cons, List.map_cons] at h1 h2
    rw [List.all_cons, Bool.and_eq_true] at hk
    cases h1 with
    | cons a1 t1 =>
      cases h2 with
      | cons a2 t2 =>
        obtain ⟨b, q, e1, e2, kk, rk⟩ := key1 (X := X) (G := ⟨F, ι⟩) hK s (.inl a1) hk.1
        rw [e1] at rk
        obtain ⟨p0, p1, p2⟩ := put_n e2 rk a2 r0 r1 r2
        obtain ⟨xs, f1, f2, f3, f4, f5, f6⟩ := merge_n (hK := hK) s hk.2 t1 t2 p0 p1 p2
        refine ⟨(q, b, v.2) :: xs, ?_, by simp [f2], fun x hx => ?_, f4, f5, f6⟩
        · rw [List.map_cons, f1]
          congr 1
          exact Prod.ext e1 rfl
        · rcases List.mem_cons.mp hx with rfl | hx
          · exact kk
          · exact f3 x hx
def tDispH (X : Cx) (trs : List (TE × TE)) : TE := fun σ H Q => ∀ p, H p = none → tPairs trs σ (upd H p (.dK [])) fun ps H2 => H2 p = some (.dK []) ∧ ∃ xs : List (NestedKey × Addr × V), ps = xs.map (fun x => (V.ref x.2.1, x.2.2)) ∧ (∀ x ∈ xs, KK X H2 x.2.1 x.1) ∧ xs.length ≤ 15 ∧ Q (.ref p) (upd H2 p (nO X.w p (mergeN [] xs)))
theorem stored_all {P : Program} {w : World} {u : List Value} : ∀ {xs acc : List (NestedKey × Addr × V)} {zs acz : List (NestedKey × Addr × Value)}, KV (kvN xs) (pairsH zs) → zs.map (fun y => (y.1, y.2.1)) = xs.map (fun x => (x.1, x.2.1)) → KV (kvN acc) (pairsH acz) → acz.map (fun y => (y.1, y.2.1)) = acc.map (fun x => (x.1, x.2.1)) →
    KV (kvN (mergeN acc xs)) (pairsH (storedAllH acz zs)) ∧ (storedAllH acz zs).map (fun y => (y.1, y.2.1)) = (mergeN acc xs).map (fun x => (x.1, x.2.1))
  | [], _, [], _, _, _, r, h => ⟨r, h⟩
  | [], _, _ :: _, _, _, h, _, _ => by simp at h
  | _ :: _, _, [], _, _, h, _, _ => by simp at h
  | x :: xs, acc, z :: zs, acz, q, h, r, k => by
    have q : KV ((x.1, x.2.2) :: kvN xs) ((z.1, z.2.2) :: pairsH zs) := q
    cases q with
    | cons q t =>
      simp only [List.map_cons, List.cons.injEq, Prod.mk.injEq] at h
      have e : storedH acz z.1 z.2.1 z.2.2 = storedH acz x.1 x.2.1 z.2.2 := by rw [h.1.1, h.1.2]
      show KV (kvN (mergeN (putN acc x.1 x.2.1 x.2.2) xs)) (pairsH (storedAllH (storedH acz z.1 z.2.1 z.2.2) zs)) ∧ (storedAllH (storedH acz z.1 z.2.1 z.2.2) zs).map _ = (mergeN (putN acc x.1 x.2.1 x.2.2) xs).map _
      rw [e]
      refine stored_all (P := P) (w := w) (u := u) t h.2 ?_ (stored_keys k)
      rw [kv_put, pairsH_storedH]
      exact r.put _ q.2
theorem len_mergeN : ∀ (xs acc : List (NestedKey × Addr × V)), (mergeN acc xs).length ≤ acc.length + xs.length
  | [], acc => Nat.le_refl _
  | x :: xs, acc => by
    have h1 := len_mergeN xs (putN acc x.1 x.2.1 x.2.2)
    have h2 := len_putN (xs := acc) (q := x.1) (b := x.2.1) (v := x.2.2)
    show (mergeN (putN acc x.1 x.2.1 x.2.2) xs).length ≤ _
    rw [List.length_cons]; omega
theorem carriesH_of {pins : List (Addr × Obj)} {s : Shared} (I : L2.Inv X pins σ H s) : ∀ {xs : List (NestedKey × Addr × V)} {ws : List (Value × Value)}, VV (xs.map fun x => (V.ref x.2.1, x.2.2)) ws → (∀ x ∈ xs, KK X H x.2.1 x.1) →
    ∃ zs, CarriesH (nestedKind X.prog X.w) s.heap ws zs ∧ KV (kvN xs) (pairsH zs) ∧ zs.map (fun y => (y.1, y.2.1)) = xs.map (fun x => (x.1, x.2.1))
  | [], _, r, _ => by rw [List.map_nil] at r; cases r; exact ⟨[], True.intro, .nil, rfl⟩
  | x :: xs, _, r, hk => by
    rw [List.map_cons] at r
    cases r with
    | @cons a b as bs h t =>
      obtain ⟨zs, c, k1, k2⟩ := carriesH_of I t fun y hy => hk y (List.mem_cons_of_mem _ hy)
      obtain ⟨b1, b2⟩ := b
      have hb : b1 = Value.ref x.2.1 := h.1
      subst hb
      have kk := hk x List.mem_cons_self
      refine ⟨(x.1, x.2.1, b2) :: zs, ⟨rfl, rfl, ⟨kk.is _ _ _ _ I rfl, kk.dp⟩, c⟩, .cons ⟨rfl, h.2⟩ k1, by rw [List.map_cons, List.map_cons, k2]⟩
theorem pe_dispH {pos : Pos} {keys : List (Option Expr)} {values : List Expr} {trs : List (TE × TE)} (hu : X.A.units + 16 < cLine) (h : PPs X pos keys values trs) (hall : keys.all (·.isSome) = true) (hl : keys.length = values.length) (h0 : keys ≠ [])
    (h15 : keys.length ≤ 15) : PE X (.Dict keys values pos) (tDispH X trs) := by
  refine ⟨fun pins s σ H Q I q => ?_⟩
  have hn := I.hok.fresh (Nat.le_refl s.heap.objs.size)
  have I1 := I.laid (a := s.heap.objs.size) (o := .dK []) (h' := s.heap.push { cls := .type "dict", data := .dict #[] }) (t' := s.toks) (fun _ _ q => Heap.get?_push_of_some _ q) (Nat.le_refl _) (dk_empty s.heap I.big)
  have hpl := pairTrees_length keys values X.env pos hall hl
  rw [arm_eval_Dict, zip_pairTrees keys values X.env pos hall hl, dictDisplay_pairs (pairTrees keys values X.env pos) (fun he => by rw [he] at hpl; exact h0 (List.length_eq_zero_iff.mp hpl.symm)) (by omega)]
  refine wpAny_bind (wpAny_standAt (wpAny_bind (wpAny_subDictH (knd := nestedKind X.prog X.w) (Q := fun d s' => wpAny (model X.prog X.w) X.A (pure (Value.ref d)) (EP X pins σ Q) X.xe s') (by show X.A.units + 8 < cLine; omega) (by omega)
    (thn (h.run pins _ σ _ _ I1 (q _ hn)) fun ws s2 ⟨ps, H2, I2, rel, e, xs, ep, hkk, lk, q2⟩ => ?_))))
  subst ep
  obtain ⟨zs, c, k1, k2⟩ := carriesH_of I2 rel hkk
  obtain ⟨ys, dd, kv, ke, hs, _, hyl⟩ := ((KM.mk' (X := X) (.inl e)).empty).at_ _ _ _ I2
  cases ys with
  | cons y ys => cases hyl
  | nil =>
    refine ⟨zs, c, dd, fun h' tk dd' sb => wpAny_pure ⟨.ref s.heap.objs.size, _, ?_, rfl, q2⟩⟩
    obtain ⟨s1, s2'⟩ := stored_all (P := X.prog) (w := X.w) (u := []) (acc := []) (acz := []) k1 k2 .nil rfl
    refine d_write I2 (by rw [e]; exact True.intro) sb (let ⟨q, _, _, hq, _⟩ := dd'; ⟨q, hq⟩) (nO_ok dd' hs ?_ s1 s2')
    have h1 := len_mergeN xs []
    rw [List.length_nil] at h1
    rw [sizeLine_eq]; omega
theorem s_disp {pos : Pos} {keys : List (Option Expr)} {values : List Expr} {ps : List (M OD × M OD)} (hK : X.K = P.K) (hw : X.w = P.K.w) (hu : X.A.units + 16 < cLine) (h : PPs X pos keys values (trsOf P ps)) (hall : keys.all (·.isSome) = true) (hl : keys.length = values.length) (h0 : keys ≠ [])
    (h15 : keys.length ≤ 15) : PE X (.Dict keys values pos) (tmO P (dispM ps)) := by
  refine ⟨fun pins s σ H Q I q => ?_⟩
  obtain ⟨G, ρ, S, r, q⟩ := q
  unfold dispM at q
  cases e : pairsM ps ρ S with
  | exc c ws ρ1 S1 => rw [e] at q; exact q.elim
  | err => rw [e] at q; exact q.elim
  | ok es ρ' S' =>
    rw [e] at q
    dsimp only at q
    by_cases c0 : (es.all fun e => keyOk 0 e.1) = true ∧ es.length ≤ 15
    · rw [if_pos c0] at q
      refine (pe_disp h hall hl h0 h15).run pins s σ H Q I fun p hp => disp_run r e hp fun vs H' G' le r' l' hd a1 a2 => ⟨hd, ?_⟩
      obtain ⟨kvs, f1, f2, f3, f4⟩ := merge_k (acc := []) (ace := []) c0.1 a1 a2 .nil .nil
      refine ⟨kvs, f1, by rw [f2]; exact c0.2, ?_⟩
      obtain ⟨r2, w2⟩ := own_other r' l' (o := .dK (mergeK [] kvs)) (d := .dct 0 (mergeE es)) (.dct0 f3 f4)
      exact q _ _ G' le r2 w2
    · rw [if_neg c0] at q
      by_cases c1 : (es.all fun e => keyOk 1 e.1) = true ∧ es.length ≤ 15
      · rw [if_pos c1] at q
        refine (pe_dispH hu h hall hl h0 h15).run pins s σ H Q I fun p hp => disp_run r e hp fun vs H' G' le r' l' hd a1 a2 => ⟨hd, ?_⟩
        obtain ⟨xs, f1, f2, fk, f0, f3, f4⟩ := merge_n (X := X) (hK := by rw [hK]) r'.fr (acc := []) (ace := []) c1.1 a1 a2 rfl .nil .nil
        refine ⟨xs, f1, fk, by rw [f2]; exact c1.2, ?_⟩
        obtain ⟨r2, w2⟩ := own_other r' l' (o := nO P.K.w p (mergeN [] xs)) (d := .dct 1 (mergeE es)) (.dct1 f0 f3 f4)
        rw [hw]
        exact q _ _ G' le r2 w2
      · rw [if_neg c1] at q
        exact q.elim
inductive PKV (X : Cx) (P : Pm) : List (Option Expr) → List Expr → List (M OD × M OD) → Prop
  | nil : PKV X P [] [] []
  | cons {k v : Expr} {ks : List (Option Expr)} {vs : List Expr} {mk mv : M OD} {ps : List (M OD × M OD)} : PE X k (tmO P mk) → PE X v (tmO P mv) → PKV X P ks vs ps → PKV X P (some k :: ks) (v :: vs) ((mk, mv) :: ps)
theorem any_pe {e : Expr} {m : M OD} (h : ∀ b, PE X e (tmO (P.calm b) m)) : PE X e (eAny P m.val) := ⟨fun pins s σ H Q I ⟨b, q⟩ => (PE.val (h b)).run pins s σ H Q I q⟩
theorem PKV.inv {ks : List (Option Expr)} {vs : List Expr} {mk mv : M OD} {ps : List (M OD × M OD)} (h : PKV X P ks vs ((mk, mv) :: ps)) : ∃ k v ks' vs', ks = some k :: ks' ∧ vs = v :: vs' ∧ PE X k (tmO P mk) ∧ PE X v (tmO P mv) ∧ PKV X P ks' vs' ps := by
  cases h with
  | cons a b c => exact ⟨_, _, _, _, rfl, rfl, a, b, c⟩
theorem PKV.nilv {ks : List (Option Expr)} {vs : List Expr} (h : PKV X P ks vs []) : ks = [] ∧ vs = [] := by
  cases h with
  | nil => exact ⟨rfl, rfl⟩
theorem pkv_pps {pos : Pos} : ∀ {ps : List (M OD × M OD)} {ks : List (Option Expr)} {vs : List Expr}, (∀ b, PKV X (P.calm b) ks vs ps) → PPs X pos ks vs (trsOf P ps)
  | [], ks, vs, h => by
    obtain ⟨rfl, rfl⟩ := (h P.b).nilv
    exact pps_nil
  | (mk, mv) :: ps, ks, vs, h => by
    obtain ⟨k, v, ks', vs', rfl, rfl, _, _, _⟩ := (h P.b).inv
    have h' : ∀ b, PE X k (tmO (P.calm b) mk) ∧ PE X v (tmO (P.calm b) mv) ∧ PKV X (P.calm b) ks' vs' ps := fun b => by
      obtain ⟨_, _, _, _, e1, e2, a, c, d⟩ := (h b).inv
      cases e1
      cases e2
      exact ⟨a, c, d⟩
    exact pps_cons (any_pe fun b => (h' b).1) (any_pe fun b => (h' b).2.1) (pkv_pps fun b => (h' b).2.2)
theorem t_disp {N : List Str} {sx : Scope} {fl : Str → Bool} {pos : Pos} {k : Nat} {keys : List (Option Expr)} {values : List Expr} {ps : List (M OD × M OD)} (o : Ok k X P) (z : Cxt X N sx fl)
    (hs : (keys.all (·.isSome) && decide (keys.length = values.length) && !keys.isEmpty && decide (keys.length ≤ 15)) = true)
    (h : ∀ (X' : Cx) (P' : Pm), Ok k X' P' → Cxt X' N sx fl → Same X' P' X.prog X.w P.K X.mg X.base P.cv → PKV X' P' keys values ps) : PE X (.Dict keys values pos) (tmO P (dispM ps)) := by
  simp only [Bool.and_eq_true, decide_eq_true_eq, Bool.not_eq_true', List.isEmpty_eq_false_iff] at hs
  obtain ⟨⟨⟨h1, h2⟩, h3⟩, h4⟩ := hs
  exact s_disp (by rw [o.hK]) o.hw (by have := o.un; omega) (pkv_pps fun b => h X (P.calm b) ⟨o.hK, o.hN, o.calm, o.room, takes0, o.hw, o.gd⟩ z ⟨rfl, rfl, rfl, rfl, rfl, rfl⟩) h1 h2 h3 h4
/-! ### d.get, d.setdefault -/
/-- what d holds at y -/
def Look (X : Cx) (H : Hp) (a : Addr) (y : V) (o : Option V) : Prop := (∃ kvs k, y = kV k ∧ KM X H a kvs ∧ o = valV kvs k) ∨ ∃ xs b q, y = .ref b ∧ KD X H a xs ∧ KK X H b q ∧ o = valV (kvN xs) q
def IsDc (X : Cx) (H : Hp) (x : V) : Prop := ∃ a, x = .ref a ∧ ((∃ kvs, KM X H a kvs) ∨ ∃ xs, KD X H a xs)
theorem isDc_at {pins : List (Addr × Obj)} {s : Shared} {x : V} {u : Value} (I : L2.Inv X pins σ H s) (r : RelV x u) (h : IsDc X H x) : s.TypeIs u "dict" ∧ ∀ a, u = .ref a → ∃ ob, s.heap.get? a = some ob ∧ ob.dict = none := by
  obtain ⟨a, rfl, h⟩ := h
  cases (show u = Value.ref a from r)
  rcases h with ⟨kvs, d⟩ | ⟨xs, d⟩
  · obtain ⟨_, _, vs, _, dd⟩ := d.at_ _ _ _ I
    refine ⟨dd.typeIs, fun b q => ?_⟩
    cases q
    obtain ⟨ob, _, _, h1, h2, _⟩ := dd
    exact ⟨ob, h1, h2.2.1⟩
  · obtain ⟨vs, dd, _⟩ := d.at_ _ _ _ I
    refine ⟨dd.typeIs, fun b q => ?_⟩
    cases q
    obtain ⟨ob, _, _, h1, h2, _⟩ := dd
    exact ⟨ob, h1, h2.2.1⟩
def rGet (X : Cx) : V → List V → Hp → VK → Prop := fun x vs H Q => ∃ a y o, x = .ref a ∧ Look X H a y o ∧ ((vs = [y] ∧ Q (o.getD .non) H) ∨ ∃ d, vs = [y, d] ∧ Q (o.getD d) H)
theorem Vals.one {x : V} {us : List Value} (r : Vals [x] us) : ∃ u, us = [u] ∧ RelV x u := by
  cases r with
  | cons h t => cases t; exact ⟨_, rfl, h⟩
theorem Vals.two {x y : V} {us : List Value} (r : Vals [x, y] us) : ∃ u v, us = [u, v] ∧ RelV x u ∧ RelV y v := by
  cases r with
  | cons h t =>
    obtain ⟨v, rfl, g⟩ := Vals.one t
    exact ⟨_, _, rfl, h, g⟩
theorem mt_get (hu : X.A.units + 16 < cLine) : MtR X "dict.get" (rGet X) := by
  intro pins s σ H x vs v us Q I rx r h
  obtain ⟨a, y, o, rfl, g, h⟩ := h
  cases (show v = Value.ref a from rx)
  rcases h with ⟨rfl, q⟩ | ⟨d, rfl, q⟩
  · obtain ⟨u, rfl, ry⟩ := Vals.one r
    rcases g with ⟨kvs, k, rfl, km, rfl⟩ | ⟨xs, b, k, rfl, kd, kk, rfl⟩
    · obtain ⟨z, hd, vs, rel, dd⟩ := km.at_ _ _ _ I
      exact call_meetsIn PySem.F.slot_dict_get dd.typeIs PySem.F.entry_dict_get (PySem.F.args_dict_get_2 _ _) (meets_dict_get (mixKind X.prog X.w) a (kV_is ry) hd) ⟨_, dd.mapOf, ⟨_, H, I.tok _, (rel.val k).getD (d := V.non) (d' := Value.none) rfl, q⟩⟩
    · cases (show u = Value.ref b from ry)
      obtain ⟨ys, dd, k1, _, hs, _⟩ := kd.at_ _ _ _ I
      exact get_keyed (knd := nestedKind X.prog X.w) (room1 hu) ⟨kk.is _ _ _ _ I rfl, kk.dp⟩ hs ⟨ys, dd, rfl⟩ ⟨_, H, I.tok _, (k1.val k).getD (d := V.non) (d' := Value.none) rfl, q⟩
  · obtain ⟨u, e, rfl, ry, rd⟩ := Vals.two r
    rcases g with ⟨kvs, k, rfl, km, rfl⟩ | ⟨xs, b, k, rfl, kd, kk, rfl⟩
    · obtain ⟨z, hd, vs, rel, dd⟩ := km.at_ _ _ _ I
      exact call_meetsIn PySem.F.slot_dict_get dd.typeIs PySem.F.entry_dict_get (PySem.F.args_dict_get_3 _ _ _) (meets_dict_get_default (mixKind X.prog X.w) a (kV_is ry) hd _) ⟨_, dd.mapOf, ⟨_, H, I.tok _, (rel.val k).getD rd, q⟩⟩
    · cases (show u = Value.ref b from ry)
      obtain ⟨ys, dd, k1, _, hs, _⟩ := kd.at_ _ _ _ I
      exact getOr_keyed (knd := nestedKind X.prog X.w) (room1 hu) ⟨kk.is _ _ _ _ I rfl, kk.dp⟩ hs ⟨ys, dd, rfl⟩ ⟨_, H, I.tok _, (k1.val k).getD rd, q⟩
def rSdf (X : Cx) : V → List V → Hp → VK → Prop := fun x vs H Q => ∃ a y o d, x = .ref a ∧ vs = [y, d] ∧ Look X H a y o ∧ match o with
  | some v => Q v H
  | none => ∀ Q' : Hp → Prop, True → rDset X x y d H fun H' => Q d H'
def isDct : D → Bool
  | .dct _ _ => true
  | _ => false
def getD' : D → List D → M OD
  | .dct k es, [d] => if kOk k es d = true then gives ((findE es d).getD .non) else M.err
  | .dct k es, [d, x] => if kOk k es d = true ∧ x.flat = true then gives ((findE es d).getD x) else M.err
  | _, _ => M.err
def getM (o : M Opd) (os : M (List Opd)) : M OD := do
  let x ← o
  let d0 ← resM x
  if isDct d0 then do
    let xs ← os
    let d ← resM x
    let ds ← resL xs
    getD' d ds
  else M.err
theorem Peek.isDc {G : Gh} {x : V} {d : D} (hK : X.K = P.K) (hw : X.w = P.K.w) (s : Sub G.F H) (w : Peek P.K G H x d) (h : isDct d = true) : IsDc X H x := by
  cases d with
  | dct k es =>
    obtain ⟨a, rfl, l0, l1, _, hk⟩ := w.dlook (X := X) (by rw [hK]) hw s
    refine ⟨a, rfl, ?_⟩
    rcases kind_02 hk with hk | hk
    · obtain ⟨kvs, km, _⟩ := l0 hk
      exact .inl ⟨kvs, km⟩
    · obtain ⟨xs, kd, _⟩ := l1 hk
      exact .inr ⟨xs, kd⟩
  | _ => cases h
theorem Peek.flat {K : KW} {G : Gh} {x : V} {d : D} (w : Peek K G H x d) (h : d.flat = true) : Rep K G.F G.ι x d := by
  rcases w with w | ⟨a, _, o⟩
  · exact w
  · exact (o.no h).elim
theorem OptR.getD {K : KW} {F : Hp} {ι : List Addr} {o : Option V} {o' : Option D} {v : V} {d : D} (h : OptR K F ι o o') (r : Rep K F ι v d) : Rep K F ι (o.getD v) (o'.getD d) := by
  cases o <;> cases o' <;> first | exact h.elim | exact r | exact h
theorem q_get {x : V} {vs : List V} {d : D} {ds : List D} (hK : X.K = P.K) (hw : X.w = P.K.w) (r : R P.K P.b G ρ S σ H) (w : Peek P.K G H x d) (ws : PeekL P.K G H vs ds) (h : Post P (relO P) G σ (getD' d ds ρ S) Q) : rGet X x vs H Q := by
  unfold getD' at h
  split at h
  · obtain ⟨y, rfl, w2⟩ := ws.one
    obtain ⟨ok, h⟩ := post_if h
    obtain ⟨a, o, rfl, oo, hx⟩ := w.dget (X := X) (by rw [hK]) hw r.fr w2 ok
    exact ⟨a, y, o, rfl, hx, .inl ⟨rfl, post_gives h r (oo.getD .non)⟩⟩
  · obtain ⟨y, z, rfl, w2, w3⟩ := ws.two
    obtain ⟨⟨ok, fl⟩, h⟩ := post_if h
    obtain ⟨a, o, rfl, oo, hx⟩ := w.dget (X := X) (by rw [hK]) hw r.fr w2 ok
    exact ⟨a, y, o, rfl, hx, .inr ⟨z, rfl, post_gives h r (oo.getD (w3.flat fl))⟩⟩
  · exact h.elim
theorem t_get {k : Nat} {a e : Expr} {es : List Expr} {oa : M Opd} {os : M (List Opd)} {apos cpos : Pos} (o : Ok k X P) (ho : PE X a (tmP P oa)) (ha : PA X (e :: es) (tmG P (relPL P) os)) (h0 : isCall0 a = false) (hs : (e :: es).all (fun e => !isStar e) = true) (hl : (e :: es).length < 30)
    (hline : (apos.endLine == cpos.line) = true) : PE X (.Call (.Attribute a "get" apos) (e :: es) [] cpos) (tmO P (getM oa os)) := by
  have hs1 := hs
  simp only [List.all_cons, Bool.and_eq_true, Bool.not_eq_true'] at hs1
  refine ⟨fun pins s σ H Q I q => ?_⟩
  obtain ⟨G, ρ, S, r, q⟩ := q
  have q0 := tm_at (rel1 := relP P) r q
  refine wpAny_Call_method_late (base0 h0) (fewB hs hl) hline rfl (thn (ho.run pins s σ H _ I q0) fun v s1 ⟨x, H1, I1, rx, G1, ρ1, S1, o1, r1, w1, l1, q1⟩ => ?_)
  obtain ⟨d0, p0, q2⟩ := res_of r1 w1 q1
  rw [ite_ap] at q2
  by_cases hc : isDct d0 = true
  · rw [if_pos hc] at q2
    obtain ⟨t1, t2⟩ := isDc_at I1 rx (p0.isDc (X := X) o.hK o.hw r1.fr hc)
    refine ⟨"dict", "dict.get", F.plainAttrs_dict, F.slot_dict_get, F.type_dict_get, t1, t2, ?_⟩
    have hA := ha.run cpos pins s1 σ H1 _ I1 (tm_at (rel1 := relPL P) r1 q2)
    rw [star1 hs1.1] at hA ⊢
    refine Calls.callWith_builtin (by show (false || (backTo cpos (starEach es X.env)).any (·.1)) = false; rw [star0 hs1.2] <;> rfl) (Calls.evalArgs_plain ?_)
    refine thn hA fun us s2 ⟨vs, H2, I2, r2, G2, ρ2, S2, xs, rr, w2, l2, q3⟩ => ?_
    obtain ⟨d, p, q4⟩ := res_of rr (monoP (P := P) (ρ := ρ1) (ρ' := ρ2) (H := H1) (H' := H2) l2 w1) q3
    obtain ⟨ds, ps, q5⟩ := resL_of rr (fun ds => getD' d ds) w2 q4
    exact mt_get (by have := o.un; omega) pins s2 σ H2 x vs v us Q I2 rx r2 (q_get o.hK o.hw rr p ps q5)
  · rw [if_neg hc] at q2
    exact q2.elim
/-! ### list(d.values()), sorted(d.items()) -/
def dctM (o : M Opd) (g : List (D × D) → M OD) : M OD := do
  let x ← o
  let d ← resM x
  match d with
  | .dct _ es => g es
  | _ => M.err
def lvalsD (es : List (D × D)) : M OD := fresh (.lst (es.map (·.2)))
def itemsL (es : List (D × D)) : List D := es.map fun e => .tup [e.1, e.2]
def sitemsD (es : List (D × D)) : M OD := if sortOk (itemsL es) = true then fresh (.lst ((itemsL es).mergeSort D.le)) else M.err
theorem isItems {h : Heap} {r d : Addr} (e : h.get? r = some { cls := .type "dict_items", data := .fields #[.ref d] }) : h.IsItemsView r d := ⟨_, e, rfl, rfl⟩
theorem isValues {h : Heap} {r d : Addr} (e : h.get? r = some { cls := .type "dict_values", data := .fields #[.ref d] }) : h.IsValuesView r d := ⟨_, e, rfl, rfl⟩
/-- what dctM tells -/
theorem dct_of {oa : M Opd} {g : List (D × D) → M OD} (hK : X.K = P.K) (hw : X.w = P.K.w) (q : tmO P (dctM oa g) σ H Q) : tmP P oa σ H fun x H1 => ∃ a ks vs es G ρ S, x = .ref a ∧ DR X H1 a ks vs ∧ IsDc X H1 x ∧ R P.K P.b G ρ S σ H1 ∧ RepL P.K G.F G.ι ks (es.map (·.1)) ∧ RepL P.K G.F G.ι vs (es.map (·.2)) ∧ Post P (relO P) G σ (g es ρ S) Q := by
  refine tm_imp (tm_bind (rel1 := relP P) q) fun x H1 ⟨G, ρ, S, o, r, w, q⟩ => ?_
  obtain ⟨d, p, q⟩ := res_of r w q
  cases d with
  | dct k es =>
    obtain ⟨a, ks, vs, e, dr, r1, r2⟩ := p.dr (X := X) (by rw [hK]) hw r.fr
    exact ⟨a, ks, vs, es, G, ρ, S, e, dr, p.isDc (X := X) hK hw r.fr rfl, r, r1, r2, q⟩
  | _ => exact q.elim
section
variable {k : Nat} {a : Expr} {oa : M Opd} {p apos cpos pos : Pos}
theorem boot_list : bootBuiltins "list" = some (.type "list") := by decide +kernel
theorem t_lvals (o : Ok k X P) (bn : Bn X "list") (ho : PE X a (tmP P oa)) (h0 : isCall0 a = false) (hline : (apos.endLine == cpos.line) = true) :
    PE X (.Call (.Name "list" p) [.Call (.Attribute a "values" apos) [] [] cpos] [] pos) (tmO P (dctM oa lvalsD)) := by
  refine ⟨fun pins s σ H Q I q => ?_⟩
  have q := dct_of o.hK o.hw q
  have hs : starEach [.Call (.Attribute a "values" apos) [] [] cpos] X.env = (false, eval (.Call (.Attribute a "values" apos) [] [] cpos) X.env) :: starEach [] X.env := star1 rfl
  refine wpAny_Call_Name_kw (ld_blt I bn.g.g bn.m boot_list ?_ (by decide +kernel) (by decide +kernel))
  refine PyProof.Rows.callWith_type1 ?_ hs rfl
  rw [hs]
  show wpAny _ _ (spliced ((false, eval (.Call (.Attribute a "values" apos) [] [] cpos) X.env) :: backTo pos (starEach [] X.env))) _ _ s
  refine Calls.spliced_cons ?_
  refine wpAny_Call_method (T := "dict") (id := "dict.values") (base0 h0) rfl hline F.plainAttrs_dict F.slot_dict_values F.type_dict_values (thn (ho.run pins s σ H _ I q) fun u s1 ⟨x, H1, I1, rx, d, ks, vs, es, G, ρ, S, ex, dr, dc, r, r1, r2, q1⟩ => ?_)
  obtain ⟨t1, t2⟩ := isDc_at I1 rx dc
  subst ex
  obtain rfl : u = Value.ref d := rx
  obtain ⟨ents, ep, raw, hs0, hz, v1, v2⟩ := dr.at_ _ _ _ I1
  refine ⟨t1, t2, ?_⟩
  show wpAny _ _ (callWith cpos (.builtin "dict.values") [.ref d] [] []) _ X.xe s1
  refine method_meetsIn F.slot_dict_values F.entry_dict_values rfl (PySem.evalArgs_none ⟨rfl, t1, F.args_dict_values_1 _, _, meets_dict_values_raw d hs0, ⟨⟨ents, ep, raw⟩, ?_⟩⟩)
  refine Calls.spliced_nil ?_
  have I2 : L2.Inv X pins σ H1 { s1 with heap := s1.heap.push { cls := .type "dict_values", data := .fields #[.ref d] } } := I1.kept (t' := s1.toks) fun b ob q => Heap.get?_push_of_some _ q
  refine PySem.W.kdl_call (s := { s1 with heap := s1.heap.push { cls := .type "dict_values", data := .fields #[.ref d] } }) (PySem.KdlSrc.rawValues (r := s1.heap.objs.size) (d := d) (es := ents) (ep := ep)) (I2.ok.hd o.calm) ⟨isValues (Heap.get?_push_size _ rfl), raw.push _⟩ hz fun h' tk acc c hk hS hacc => ?_
  have e := items_keys (·.val) hacc
  rw [← e] at v2
  refine ⟨.ref _, _, I2.laid (o := .lst vs) (t' := tk) hk (Nat.le_refl _) ⟨?_, acc.toList, c, v2, ?_⟩, rfl, post_fresh q1 r (I2.hok.fresh (Nat.le_refl _)) r2⟩
  · rw [v2.length, Array.length_toList, hacc.1]; exact hz
  · rw [Array.toArray_toList]; exact hS
/-- pairs come to stand -/
theorem pairs_laid {pins : List (Addr × Obj)} {s1 : Shared} {h' : Heap} (fp : ∀ (a : Addr) (H' : Hp), a ∈ ([] : List Addr) → True) :
    ∀ {as : List Addr} {ents : List DictEntry} {ks vs : List V} {es : List (D × D)} {G : Gh} {H : Hp}, L2.Inv X pins σ H { s1 with heap := h' } → R P.K P.b G ρ S σ H → as.Nodup → (∀ a ∈ as, H a = none) → (∀ a ∈ as, ∀ H' : Hp, H' a = none → FpOk X pins H' a) →
    Paired (fun (a : Addr) (e : DictEntry) => h'.get? a = some { cls := .type "tuple", data := .seq #[e.key, e.val] }) as ents → Vals ks (ents.map (·.key)) → Vals vs (ents.map (·.val)) → RepL P.K G.F G.ι ks (es.map (·.1)) → RepL P.K G.F G.ι vs (es.map (·.2)) →
    ∃ H' G', G.le G' ∧ L2.Inv X pins σ H' { s1 with heap := h' } ∧ R P.K P.b G' ρ S σ H' ∧ RepL P.K G'.F G'.ι (as.map V.ref) (itemsL es)
  | [], ents, ks, vs, es, G, H, I, r, _, _, _, pr, k1, k2, r1, r2 => by
    cases pr
    rw [List.map_nil] at k1
    cases k1
    cases es with
    | cons e es => cases r1
    | nil => exact ⟨H, G, Gh.le.refl _, I, r, .nil⟩
  | a :: as, ents, ks, vs, es, G, H, I, r, nd, hn, fp', pr, k1, k2, r1, r2 => by
    cases pr with
    | @cons _ e _ ents pa pt =>
      rw [List.map_cons] at k1 k2
      cases k1 with
      | cons ka kt =>
        cases k2 with
        | cons va vt =>
          cases es with
          | nil => cases r1
          | cons e0 es =>
            rw [List.map_cons] at r1 r2
            cases r1 with
            | cons ra rt =>
              cases r2 with
              | cons qa qt =>
                obtain ⟨nd1, nd2⟩ := List.nodup_cons.mp nd
                have ha := hn a List.mem_cons_self
                obtain ⟨G1, le1, r', w⟩ := r.newTup ha (.cons ra (.cons qa .nil))
                have I' := I.take (h' := h') (t' := s1.toks) (fun b ob _ e => e) (fp' a List.mem_cons_self H ha) (o := .tup _) ⟨by show 2 ≤ sizeLine; decide, [e.key, e.val], .cons ka (.cons va .nil), ⟨_, pa, rfl, _, rfl⟩⟩
                have ne : ∀ x ∈ as, x ≠ a := fun x hx z => nd1 (z ▸ hx)
                obtain ⟨H', G', le', I2, r2, w2⟩ := pairs_laid fp I' r' nd2 (fun x hx => by rw [upd_ne (ne x hx)]; exact hn x (List.mem_cons_of_mem _ hx)) (fun x hx => fp' x (List.mem_cons_of_mem _ hx)) pt kt vt (rt.mono le1) (qt.mono le1)
                exact ⟨H', G', le1.trans le', I2, r2, .cons (w.mono le') w2⟩
theorem t_sitems (o : Ok k X P) (bn : Bn X "sorted") (ho : PE X a (tmP P oa)) (h0 : isCall0 a = false) (hline : (apos.endLine == cpos.line) = true) :
    PE X (.Call (.Name "sorted" p) [.Call (.Attribute a "items" apos) [] [] cpos] [] pos) (tmO P (dctM oa sitemsD)) := by
  refine ⟨fun pins s σ H Q I q => ?_⟩
  have q := dct_of o.hK o.hw q
  have hs : starEach [.Call (.Attribute a "items" apos) [] [] cpos] X.env = (false, eval (.Call (.Attribute a "items" apos) [] [] cpos) X.env) :: starEach [] X.env := star1 rfl
  refine wpAny_Call_Name_kw (ld_blt I bn.g.g bn.m boot_sorted ?_ (by decide +kernel) (by decide +kernel))
  refine PyProof.Rows.callWith_builtin1 ?_ hs rfl
  rw [hs]
  show wpAny _ _ (spliced ((false, eval (.Call (.Attribute a "items" apos) [] [] cpos) X.env) :: backTo pos (starEach [] X.env))) _ _ s
  refine Calls.spliced_cons ?_
  refine wpAny_Call_method (T := "dict") (id := "dict.items") (base0 h0) rfl hline F.plainAttrs_dict F.slot_dict_items F.type_dict_items (thn (ho.run pins s σ H _ I q) fun u s1 ⟨x, H1, I1, rx, d, ks, vs, es, G, ρ, S, ex, dr, dc, r, r1, r2, q1⟩ => ?_)
  obtain ⟨t1, t2⟩ := isDc_at I1 rx dc
  subst ex
  obtain rfl : u = Value.ref d := rx
  obtain ⟨ents, ep, raw, hs0, hz, v1, v2⟩ := dr.at_ _ _ _ I1
  refine ⟨t1, t2, ?_⟩
  show wpAny _ _ (callWith cpos (.builtin "dict.items") [.ref d] [] []) _ X.xe s1
  refine method_meetsIn F.slot_dict_items F.entry_dict_items rfl (PySem.evalArgs_none ⟨rfl, t1, F.args_dict_items_1 _, _, meets_dict_items_raw d hs0, ⟨⟨ents, ep, raw⟩, ?_⟩⟩)
  refine Calls.spliced_nil ?_
  have I2 : L2.Inv X pins σ H1 { s1 with heap := s1.heap.push { cls := .type "dict_items", data := .fields #[.ref d] } } := I1.kept (t' := s1.toks) fun b ob q => Heap.get?_push_of_some _ q
  refine sorted_col o.un fun R E kont => PySem.W.dil_collect (A := X.A.in1) (s := { s1 with heap := s1.heap.push { cls := .type "dict_items", data := .fields #[.ref d] } }) (d := d) (es := ents) (ep := ep) (I2.ok.hd o.calm) (isItems (Heap.get?_push_size _ rfl)) (raw.push _) hz fun h' tk as hk hl hG => ?_
  unfold sitemsD at q1
  obtain ⟨c, q1⟩ := post_if q1
  have I3 : L2.Inv X pins σ H1 { s1 with heap := h', toks := tk } := I2.kept (t' := tk) hk
  have hn : ∀ a ∈ as, (s1.heap.push { cls := .type "dict_items", data := .fields #[.ref d] }).objs.size ≤ a := fun a ha => Nat.le_of_lt (hG.above a ha)
  have pr : Paired (fun (a : Addr) (e : DictEntry) => h'.get? a = some { cls := .type "tuple", data := .seq #[e.key, e.val] }) as ents.toList := by
    have hl2 : as.length = ents.toList.length := by rw [Array.length_toList]; exact hl
    have hp := hG.pairs
    have gen : ∀ (as : List Addr) (l : List DictEntry), as.length = l.length → (∀ (j : Nat) (a : Addr), as[j]? = some a → ∃ e, l[j]? = some e ∧ h'.get? a = some { cls := .type "tuple", data := .seq #[e.key, e.val] }) → Paired (fun (a : Addr) (e : DictEntry) => h'.get? a = some { cls := .type "tuple", data := .seq #[e.key, e.val] }) as l := by
      intro as
      induction as with
      | nil => intro l hl _; cases l with
        | nil => exact .nil
        | cons e l => cases hl
      | cons a as ih => intro l hl h; cases l with
        | nil => cases hl
        | cons e l =>
          obtain ⟨e', h1, h2⟩ := h 0 a rfl
          cases h1
          exact .cons h2 (ih l (by simpa using hl) fun j b hb => h (j + 1) b hb)
    refine gen as ents.toList hl2 fun j a ha => ?_
    obtain ⟨hj, e⟩ := hp j a ha
    exact ⟨ents[j], by simp [hj], e⟩
  obtain ⟨H', G', le', I4, r', w'⟩ := pairs_laid (s1 := { s1 with toks := tk }) (P := P) (fun _ _ _ => trivial) I3 r (hG.rise.imp fun {a b} (h : a < b) => Nat.ne_of_lt h) (fun a ha => I2.hok.fresh (hn a ha)) (fun a ha H' hh => I2.fpOk (hn a ha) hh) pr v1 v2 r1 r2
  obtain ⟨bs, e, hh⟩ := sort_data (X := X) (H := H') (Q := Q) o.hK r' w' c (Post.weak q1 le')
  exact kont (as.map Value.ref) _ H' (V × D) bs (·.1) (fun t => t.2.py) I4 (by rw [e]; exact LiI.vals_refs as) hh
end
end
end Mi

namespace Mi
open PySem PySem.Spec PyProof.Rows L2

/-! ### an object that stands already comes to be tracked -/
theorem xv_ok {P : Program} {w : World} {H : Hp} {h : Heap} {a : Addr} {cls : Value} {dd : Option Addr} {oe : Obj} {vs : Array Value} (e : h.get? a = some oe) (z : Zc cls dd oe) (d : oe.data = .fields vs) : ObjOk P w H h a (xvO a cls dd) :=
  ⟨⟨oe, vs, e, z.1, z.2, d⟩, ⟨oe, e⟩, fun _ _ ⟨o, v, q, r⟩ k => ⟨o, v, k o q, r⟩⟩
section
variable {X : Cx} {pins : List (Addr × Obj)} {σ : L2.St} {H : Hp} {s : Shared} {a : Addr} {o : HO}
theorem track (I : L2.Inv X pins σ H s) (hn : H a = none) (h0 : X.s_0.heap.get? a = none) (hL : a ≠ X.env.locals) (hC : ∀ x c, X.env.cells.lookup x = some c → c ≠ a) (hP : ∀ p ∈ X.pn ++ pins, p.1 ≠ a) (new : ObjOk X.prog X.w (upd H a o) s.heap a o) :
    L2.Inv X pins σ (upd H a o) s := by
  have keep : ∀ {b u}, H b = some u → upd H a o b = some u := fun {b u} e => by rw [upd_ne (ne_of_none e hn)]; exact e
  have ne0 : ∀ {b u}, X.s_0.heap.get? b = some u → b ≠ a := fun {b u} e z => by rw [z, h0] at e; cases e
  refine ⟨I.ok, I.os, I.bare, ⟨I.base.keep, I.base.slot, fun b u e n hx => ?_, I.base.there, fun b xs e => keep (I.base.tups b xs e), fun b u v e => keep (I.base.frzs b u v e), fun b ps e => ?_⟩, I.loc, I.cell, ?_, fun x c e => ?_, fun p hp => ?_, fun b u e => ?_, I.len⟩
  · rw [upd_ne (ne0 e)]
    exact I.base.free b u e n hx
  · obtain ⟨more, q⟩ := I.base.tbls b ps e
    exact ⟨more, keep q⟩
  · rw [upd_ne (Ne.symm hL)]
    exact I.free
  · rw [upd_ne (hC x c e)]
    exact I.freeC x c e
  · obtain ⟨e, un, more⟩ := I.pin p hp
    exact ⟨e, by rw [upd_ne (hP p hp)]; exact un, more⟩
  · by_cases hb : b = a
    · subst hb
      rw [upd_same] at e
      cases e
      exact new
    · rw [upd_ne hb] at e
      exact (I.hok b u e).stay (fun c v _ q => q) (fun c q => keep q) fun c xs q => keep q
end
/-! ### try: .. except C as n: m = n -/
def wKeep (K : PySem.W.Frag) (c : Value) (i j : Nat) (Wout : WX) (D : Ends) : WX := fun cls d σ H =>
  ∃ b, PySem.W.exmOne K cls c = some b ∧ (b = true → ∀ a, H a = none → D.nx (((σ.set i (some (.ref a))).set j (some (.ref a))).set i none) (upd H a (xvO a cls d))) ∧ (b = false → Wout cls d σ H)
section
variable {X : Cx} {x n m : Str} {c : Value} {i j : Nat} {body : List Stmt} {np np2 mp pos pos' pos2 : Pos} {tb : WX → TS} {Wout : WX}
theorem ps_keep (T : Top X) (hN : X.N.Nodup) (hi : X.N[i]? = some n) (hln : X.env.kindOf n = some .local) (hj : X.N[j]? = some m) (hlm : Loc X.env.scope m) (hfm : X.fn m = true ∨ X.env.scope.names.lookup m = some .local) (hv : Vis X.env.scope n)
    (hd : (n == ("__debug__" : Str)) = false) (hcd : (n == ("__classdict__" : Str)) = false) (hc : Names X x c) (tk : Takes X Wout)
    (hb : ∀ (W : WX) (pn : List (Addr × Obj)) (xe : Value → Shared → Prop), Takes (X.tr pn xe) W → PassesOwn (model X.prog X.w) X.A X.env xe → PSs (X.tr pn xe) body (tb W)) :
    PS X (.Try body [.ExceptHandler (some (.Name x np)) (some n) [.Assign [.Name m mp] (.Name n np2) pos2] pos'] [] [] pos) (fun D σ H => tb (wKeep X.K c i j Wout D) D σ H) := by
  refine ⟨fun pins s σ H D I wish => ?_⟩
  have ok := I.ok
  have aFr : X.A.frames = some (X.env :: X.outer) := by rw [ok.frames, T.st]
  refine wpAny_Try_except (wpAny_mono ((hb (wKeep X.K c i j Wout D) (X.pn ++ pins) (fun e s₁ => wpAny (model X.prog X.w) X.A (noteFrame e X.env) (fun _ s₂ => wpAny (model X.prog X.w) X.A (setFlight e none) (fun _ s₃ =>
    wpAny (model X.prog X.w) X.A (handleBy e X.env [.ExceptHandler (some (.Name x np)) (some n) [.Assign [.Name m mp] (.Name n np2) pos2] pos']) (SP X pins D) X.xe s₃) X.xe s₂) X.xe s₁) (fun u s' air => ?_) PassesOwn.looking).run [] s σ H D (I.toTry _) wish) (fun f s1 hsp => ?_) fun e s1 he => he)
  · obtain ⟨a, B, s₂, pins₂, σ₂, H₂, cls, dd, rfl, I₂, ground, up, sky, unt, os, ag, b, hb1, yes, no⟩ := air
    have J : L2.Inv X pins σ₂ H₂ s₂ := I₂.ofTry ok
    have sky' : Sky B (X.env :: X.outer) a (Zc cls dd) X.env.locals s'.heap := by rw [← T.st]; exact sky
    change wpAny (model X.prog X.w) X.A (noteFrame (.ref a) X.env) _ _ _
    refine Sky.land Zc.steady aFr T.fr sky' fun h3 fly up3 => ?_
    have I3 : L2.Inv X pins σ₂ H₂ { s' with heap := h3 } := J.landed ground fly.1 (up.trans up3) os ag
    obtain ⟨ob3, ws3, at3, zc3, fd3⟩ := fly.there
    have away : a ∉ frs (X.env :: X.outer) := fun hm => by
      obtain ⟨_, o', e', hnf⟩ := fly.2.2.1.mem hm
      rw [at3] at e'
      cases e'
      exact hnf _ fd3
    have offL : a ≠ X.env.locals := fun z => away (List.mem_filterMap.mpr ⟨X.env, List.mem_cons_self, by rw [T.fr, z]⟩)
    have offF : a ∉ X.fs := fun hm => by
      obtain ⟨en, hen, q⟩ := List.mem_filterMap.mp hm
      exact away (List.mem_filterMap.mpr ⟨en, List.mem_cons_of_mem _ hen, q⟩)
    have n2 : s₂.heap.get? a = none := by
      cases q : s₂.heap.get? a with
      | none => rfl
      | some o =>
        have g := ground a o q (by rw [T.st]; exact away)
        rw [fly.2.1] at g
        cases g
    have new0 : X.s_0.heap.get? a = none := by
      cases q : X.s_0.heap.get? a with
      | none => rfl
      | some o =>
        obtain ⟨o', g⟩ := J.base.there a o q (by rw [T.ex]; exact fun z => nomatch z)
        rw [n2] at g
        cases g
    have nC : ∀ y k, X.env.cells.lookup y = some k → k ≠ a := fun y k e z => by
      obtain ⟨v, q⟩ := J.cell y k e
      obtain ⟨o, g, _⟩ := q
      rw [z, n2] at g
      cases g
    have nP : ∀ p ∈ X.pn ++ pins, p.1 ≠ a := fun p hp z => by
      have g := (J.pin p hp).1
      rw [z, n2] at g
      cases g
    have U3 := I3.suite at3 fd3 unt offL offF
    refine wpAny_handleBy_cons (codeAny_handlers_test ?_) (fun q => nomatch q)
    have clsAt : PySem.W.Looks (model X.prog X.w) h3 (typeOf (.ref a)) cls := fun A Q E s k q => wpAny_typeOf_ref (k _ _ at3) (by rw [zc3.1]; exact q)
    have asked := PySem.W.exm_one (M := model X.prog X.w) (I3.kIn) clsAt hb1
    have named : ∀ {Q : Value → Shared → Prop} {E : Value → Shared → Prop}, Q c { s' with heap := h3 } → wpAny (model X.prog X.w) (X.A.mark (some (.ref a))) (eval (.Name x np) X.env) Q E { s' with heap := h3 } := fun {Q E} q => by
      obtain ⟨hg, ndb, hm | ⟨hm, hv, nnm⟩⟩ := hc
      · exact ld_glob (X := X.suite a ((a, ob3) :: (X.pn ++ pins))) U3 hg hm q ndb
      · exact ld_blt (X := X.suite a ((a, ob3) :: (X.pn ++ pins))) U3 hg hm hv q nnm ndb
    refine named (asked.here ?_)
    cases b with
    | true =>
      refine codeAny_handlers_suite_as (HandSPX.lands_againZ fly fun h4 fly2 up4 => ?_)
      have I4 : L2.Inv X pins σ₂ H₂ { s' with heap := h4 } := J.landed ground fly2.1 ((up.trans up3).trans up4) os ag
      obtain ⟨ob4, ws4, at4, zc4, fd4⟩ := fly2.there
      have U4 := I4.suite at4 fd4 unt offL offF
      refine store_ok (X := X.suite a ((a, ob4) :: (X.pn ++ pins))) (v := .ref a) U4 hN hi (.inl hln) rfl (fun s5 S5 => ?_) (.inr hln)
      have hi2 : i < σ₂.length := by
        rw [J.len]
        exact (List.getElem?_eq_some_iff.mp hi).1
      have asg : PSs (X.suite a ((a, ob4) :: (X.pn ++ pins))) [.Assign [.Name m mp] (.Name n np2) pos2] _ := pss_one (ps_set hN hj hlm (pe_var (X := X.suite a ((a, ob4) :: (X.pn ++ pins))) hi hv hd hcd) (sw0 rfl) hfm)
      refine wpAny_mono (asg.run [] s5 _ H₂ { nx := fun σ' H' => σ' = (σ₂.set i (some (.ref a))).set j (some (.ref a)) ∧ H' = H₂, rt := fun _ _ => False, bk := fun _ _ => False, ct := fun _ _ => False } S5 ⟨.ref a, List.getElem?_set_self hi2, rfl, rfl⟩) (fun f s6 hsp => ?_) (fun _ _ z => False.elim z)
      cases f with
      | next =>
        obtain ⟨σ6, H6, S6, rfl, rfl⟩ := hsp
        refine gone_ok (X := X.suite a ((a, ob4) :: (X.pn ++ pins))) S6 hN hi hln fun s7 S7 => ?_
        obtain ⟨g, _⟩ := S7.pin (a, ob4) (List.mem_append_left _ List.mem_cons_self)
        exact ⟨_, _, track (S7.unsuite ok) unt new0 offL nC nP (xv_ok g zc4 fd4), yes rfl a unt⟩
      | brk =>
        obtain ⟨_, _, _, z⟩ := hsp
        exact z.elim
      | cont =>
        obtain ⟨_, _, _, z⟩ := hsp
        exact z.elim
      | ret u =>
        obtain ⟨_, _, _, _, _, z⟩ := hsp
        exact z.elim
    | false =>
      change wpAny _ X.A (handleBy (.ref a) X.env []) _ _ _
      refine wpAny_handleBy_nil ?_
      obtain ⟨k1, k2, k3, oe, vs, T0, oT, ts', he, hz, hd, h1, hr⟩ := id fly
      unfold PySem.passOn
      refine wpAny_bind (wpAny_field he hd h1 ?_)
      rw [if_neg (show ¬ ((Value.ref T0 == Value.none) = true) from by simp)]
      have out : wpAny (model X.prog X.w) X.A (setFlight (.ref a) X.env.frame) (fun _ s4 => wpAny (model X.prog X.w) X.A (throw (.ref a) : Sem Flow) (SP X pins D) X.xe s4) X.xe { s' with heap := h3 } := by
        rw [T.fr]
        exact HandSPX.setFlight_upZ fly fun h4 hh4 up4 => wpAny_throw (tk _ _ ⟨a, B, s₂, pins, σ₂, H₂, cls, dd, rfl, J, ground, (up.trans up3).trans up4, .inr (.inr (by rw [T.st]; exact hh4)), unt, os, ag, no rfl⟩)
      first
        | exact wpAny_bind (wpAny_pure (wpAny_bind out))
        | exact wpAny_bind out
  · cases f with
    | next =>
      obtain ⟨σ', H', I1, q⟩ := hsp
      exact wpAny_execs_nil ⟨σ', H', I1.ofTry ok, q⟩
    | brk =>
      obtain ⟨σ', H', I1, q⟩ := hsp
      exact ⟨σ', H', I1.ofTry ok, q⟩
    | cont =>
      obtain ⟨σ', H', I1, q⟩ := hsp
      exact ⟨σ', H', I1.ofTry ok, q⟩
    | ret u =>
      obtain ⟨v, σ', H', I1, r, q⟩ := hsp
      exact ⟨v, σ', H', I1.ofTry ok, r, q⟩
end
/-! ### an exception's dict joins the frozen part -/
theorem ORep.noXd {K : KW} {F : Hp} {ι : List Addr} {a : Addr} {o : HO} {d : D} (r : ORep K F ι a o d) (fs : List (Str × V)) : o ≠ .xd fs := by
  cases r <;> intro z <;> first
    | exact nomatch z
    | exact nomatch (show HO.ext _ = HO.xd fs from z)
section
variable {K : KW} {b : Bs} {G : Gh} {ρ : Rho} {S : List D} {σ : L2.St} {H : Hp} {a dx : Addr} {d : D} {fs : List (Str × V)}
theorem own_noXd (o : Own K G H dx d) (h : H dx = some (.xd fs)) : False := by
  obtain ⟨u, q, r⟩ := o
  rw [h] at q
  cases q
  exact r.noXd fs rfl
theorem R.xd (r : R K b G ρ S σ H) (h : H dx = some (.xd fs)) (hb : b.B dx = none) : ∃ G', G.le G' ∧ R K b G' ρ S σ H ∧ G'.F dx = some (.xd fs) := by
  cases e : G.F dx with
  | some o =>
    have q := r.fr dx o e
    rw [h] at q
    cases q
    exact ⟨G, Gh.le.refl G, r, e⟩
  | none =>
    have nc : dx ∉ G.ι := fun hm => by
      obtain ⟨n, hn, q⟩ := List.getElem_of_mem hm
      have hl : n < S.length := by rw [← r.cn]; exact hn
      obtain ⟨x, q1, q2, _⟩ := r.cl n S[n] (List.getElem?_eq_getElem hl)
      rw [List.getElem?_eq_getElem hn, q] at q1
      cases q1
      exact own_noXd q2 h
    obtain ⟨r', le⟩ := r.freeze ⟨e, nc, hb⟩ h fun i d' e' z => by
      obtain ⟨v, q1, _, q2⟩ := r.vs i true d' e'
      obtain ⟨x, q3, q4, _⟩ := q2 rfl
      rw [q1, q3] at z
      cases z
      exact own_noXd q4 h
    exact ⟨_, le, r', upd_same⟩
theorem R.xval {P : Pm} {c : Nat} {vs : List D} {cls : Value} {dd : Option Addr} (r : R P.K P.b G ρ S σ H) (x : XRep P G H c vs cls dd) (ha : H a = none) :
    ∃ G', G.le G' ∧ R P.K P.b G' ρ S σ (upd H a (xvO a cls dd)) ∧ Rep P.K G'.F G'.ι (.ref a) (.exn c vs) := by
  obtain ⟨e1, e2⟩ := x
  subst e1
  cases vs with
  | nil =>
    have e2 : dd = none := e2
    subst e2
    have r2 := r.new ha (xvO a (P.K.cv c).1 none)
    obtain ⟨r3, le⟩ := r2.freeze (r.loose ha) upd_same (r.noVar ha)
    exact ⟨_, le, r3, .ob upd_same .exn0⟩
  | cons d ds =>
    obtain ⟨e3, dx, v, e4, e5, e6, e7⟩ := e2
    subst e3 e4
    obtain ⟨G1, le1, r1, f1⟩ := r.xd e5 e7
    have r2 := r1.new ha (xvO a (P.K.cv c).1 (some dx))
    obtain ⟨r3, le⟩ := r2.freeze (r1.loose ha) upd_same (r1.noVar ha)
    exact ⟨_, le1.trans le, r3, .ob upd_same (.exn1 (le.sub _ _ f1) (e6.mono (le1.trans le)))⟩
end
/-! ### the readings of try -/
def tryKeepS (m : MS) (sub : List Bool) (i j : Nat) : MS := fun ρ S => match m ρ S with
  | .exc c vs ρ' S' => (match sub[c]? with
    | some true => .nxt (((ρ'.set i none).set j (some (false, .exn c vs))).set i none) S'
    | some false => .exc c vs ρ' S'
    | none => .err)
  | r => r
/-- what stands behind an except clause's name -/
structure ExmAt (K : KW) (mg : Str → Option Value) (x : Str) (sub : List Bool) : Prop where
  ex : ∃ c : Value, mg x = some c ∧ ∀ n b, sub[n]? = some b → PySem.W.exmOne K.fr (K.cv n).1 c = some b
def isLoc (sc : Scope) (x : Str) : Bool := match sc.names.lookup x with
  | some .local => true
  | _ => false
section
variable {X : Cx} {P : Pm} {k : Nat} {x n m : Str} {i j : Nat} {body : List Stmt} {np np2 mp pos pos' pos2 : Pos} {mb : MS} {sub : List Bool} {N : List Str} {sx : Scope} {fl : Str → Bool}
theorem Cxt.loc (z : Cxt X N sx fl) (h : isLoc sx x = true) : X.env.kindOf x = some .local := by
  have e : X.env.kindOf x = sx.names.lookup x := by rw [← z.sc] <;> rfl
  rw [e]
  unfold isLoc at h
  split at h
  · assumption
  · cases h
theorem Ok.tr (o : Ok k X P) (pn : List (Addr × Obj)) (xe : Value → Shared → Prop) {W : WX} (tk : Takes (X.tr pn xe) W) : Ok k (X.tr pn xe) { P with W := W } := ⟨o.hK, o.hN, o.calm, o.room, tk, o.hw, o.gd⟩
theorem t_keep (T : Top X) (o : Ok k X P) (z : Cxt X N sx fl) (gx : Gn X x) (ex : ExmAt P.K X.mg x sub) (vi : At X i n) (hln : isLoc sx n = true) (vj : To X j m)
    (hb : ∀ (X' : Cx) (P' : Pm), Ok k X' P' → Cxt X' N sx fl → Same X' P' X.prog X.w P.K X.mg X.base P.cv → PassesOwn (model X'.prog X'.w) X'.A X'.env X'.xe → Top X' → PSs X' body (tsG P' mb)) :
    PS X (.Try body [.ExceptHandler (some (.Name x np)) (some n) [.Assign [.Name m mp] (.Name n np2) pos2] pos'] [] [] pos) (tsG P (tryKeepS mb sub i j)) := by
  obtain ⟨c, hc, he⟩ := ex.ex
  refine (ps_keep (Wout := P.W) (tb := fun W => tsG { P with W := W } mb) T o.hN vi.N (z.loc hln) vj.N vj.l vj.f vi.v vi.d vi.c ⟨gx.g, gx.d, .inl hc⟩ o.tk fun W pn xe tk hp => ?_).imp fun D σ H q => ?_
  · exact hb _ _ (o.tr pn xe tk) ⟨z.N, z.sc, z.fn⟩ ⟨rfl, rfl, rfl, rfl, rfl, rfl⟩ hp ⟨T.st, T.fr, T.ex⟩
  · obtain ⟨G, ρ, S, r, h⟩ := q
    refine ⟨G, ρ, S, r, ?_⟩
    unfold tryKeepS at h
    cases e : mb ρ S with
    | exc c' vs ρ' S' =>
      rw [e] at h
      intro cls dd σ' H' G' le r' xr
      have xr : XRep P G' H' c' vs cls dd := xr
      cases hs : sub[c']? with
      | none => simp only [hs] at h; exact h.elim
      | some b =>
        simp only [hs] at h
        refine ⟨b, ?_, fun hb a ha => ?_, fun hb => ?_⟩
        · rw [o.hK, xr.1]
          exact he _ _ hs
        · subst hb
          obtain ⟨G2, le2, r2, rp⟩ := R.xval (P := P) r' xr ha
          refine h _ _ G2 (le.trans le2) ?_
          exact ((r2.unset i _).store (VOk.fz rp) j).unset i none
        · subst hb
          exact h cls dd σ' H' G' le r' xr
    | nxt ρ' S' => rw [e] at h; exact h
    | brk ρ' S' => rw [e] at h; exact h
    | cnt ρ' S' => rw [e] at h; exact h
    | ret y ρ' S' => rw [e] at h; exact h
    | err => rw [e] at h; exact h
end
/-! ### try: .. except C: y = a constant -/
def tryOnlyS (m : MS) (sub : List Bool) (s : MS) : MS := fun ρ S => match m ρ S with
  | .exc c vs ρ' S' => (match sub[c]? with
    | some true => s ρ' S'
    | some false => .exc c vs ρ' S'
    | none => .err)
  | r => r
section
variable {X : Cx} {P : Pm} {k : Nat} {x y : Str} {j : Nat} {body : List Stmt} {np yp pos pos' pos2 : Pos} {mb : MS} {sub : List Bool} {N : List Str} {sx : Scope} {fl : Str → Bool} {e : Expr} {d : D}
theorem t_only (T : Top X) (o : Ok k X P) (z : Cxt X N sx fl) (gx : Gn X x) (ex : ExmAt P.K X.mg x sub) (vj : To X j y) (he : ∀ X' : Cx, PE X' e (tmO P (gives d))) (h0 : isLc e = false)
    (hb : ∀ (X' : Cx) (P' : Pm), Ok k X' P' → Cxt X' N sx fl → Same X' P' X.prog X.w P.K X.mg X.base P.cv → PassesOwn (model X'.prog X'.w) X'.A X'.env X'.xe → Top X' → PSs X' body (tsG P' mb)) :
    PS X (.Try body [.ExceptHandler (some (.Name x np)) none [.Assign [.Name y yp] e pos2] pos'] [] [] pos) (tsG P (tryOnlyS mb sub (setS j (gives d)))) := by
  obtain ⟨c, hc, hx⟩ := ex.ex
  refine (ps_try_only (Wout := P.W) (tb := fun W => tsG { P with W := W } mb) (ts := fun _ _ _ => tsG P (setS j (gives d))) T.st T.fr ⟨gx.g, gx.d, .inl hc⟩ o.tk (fun W pn xe tk hp => ?_) fun a oe cls dd pn _ _ => ?_).imp fun D σ H q => ?_
  · exact hb _ _ (o.tr pn xe tk) ⟨z.N, z.sc, z.fn⟩ ⟨rfl, rfl, rfl, rfl, rfl, rfl⟩ hp ⟨T.st, T.fr, T.ex⟩
  · exact pss_one (s_set o.hN vj.N vj.l (he _) (sw0 h0) vj.f)
  · obtain ⟨G, ρ, S, r, h⟩ := q
    refine ⟨G, ρ, S, r, ?_⟩
    unfold tryOnlyS at h
    cases e : mb ρ S with
    | exc c' vs ρ' S' =>
      rw [e] at h
      intro cls dd σ' H' G' le r' xr
      have xr : XRep P G' H' c' vs cls dd := xr
      cases hs : sub[c']? with
      | none => simp only [hs] at h; exact h.elim
      | some b =>
        simp only [hs] at h
        refine ⟨b, ?_, fun hb a ha => ?_, fun hb => ?_⟩
        · rw [o.hK, xr.1]
          exact hx _ _ hs
        · subst hb
          exact ⟨G', ρ', S', r', PostS.weak h le⟩
        · subst hb
          exact h cls dd σ' H' G' le r' xr
    | nxt ρ' S' => rw [e] at h; exact h
    | brk ρ' S' => rw [e] at h; exact h
    | cnt ρ' S' => rw [e] at h; exact h
    | ret y ρ' S' => rw [e] at h; exact h
    | err => rw [e] at h; exact h
end
/-! ### raise -/
def raise0S (c : Nat) : MS := fun ρ S => .exc c [] ρ S
def raise1S (c : Nat) (m : M OD) : MS := m.val.thn fun d ρ S => .exc c [d] ρ S
/-- an own class over ValueError without own __init__ -/
structure Rz0 (K : KW) (mg : Str → Option Value) (x : Str) (c : Nat) : Prop where
  ex : ∃ C : Addr, mg x = some (.ref C) ∧ (K.cv c).1 = .ref C ∧ PySem.W.excIn K.fr C He.veBase "ValueError.__new__" = true ∧ PySem.W.keepIn K.fr (.ref C) = true ∧
    PySem.W.subIn K.fr (.ref C) (.type "BaseException") = some true ∧ PySem.W.typeIn K.fr (.ref C) = some (.type "type")
/-- .. with __init__(self, x): B.__init__(self, x); self.f = x -/
def spI (K : PySem.W.Frag) (C : Addr) (f : Str) : Sp := fun vs H Q _ => ∃ (a : Addr) (v : V), vs = [.ref a, v] ∧ OexC K C ∧ PySem.W.findIn K (.ref C) f = some none ∧ H a = some (exo a C none) ∧
  ∀ dx, H dx = none → dx ≠ a → Q .non (upd (upd H dx (exd dx [(f, v)])) a (exo a C (some dx)))
structure Rz1 (P : Program) (w : World) (K : KW) (mg : Str → Option Value) (base : Heap) (k : Nat) (x : Str) (c : Nat) : Prop where
  ex : ∃ (C fI : Addr) (fd : FuncData) (ps : List Str), mg x = some (.ref C) ∧ (K.cv c).1 = .ref C ∧ OexC K.fr C ∧ PySem.W.findIn K.fr (.ref C) (K.cv c).2 = some none ∧ PySem.W.findIn K.fr (.ref C) "__init__" = some (some (.ref fI)) ∧
    PySem.W.typeIn K.fr (.ref fI) = some (.type "function") ∧ FnOk P w K.fr mg base (L2.CX P w) k fI fd ps (spI K.fr C (K.cv c).2) ∧ Binds K.fr fd ps []
section
variable {X : Cx} {P : Pm} {k : Nat} {x s : Str} {c : Nat} {p p2 pos pos' : Pos} {jj : Option Str} {e : Expr} {m : M OD}
theorem t_raise0 {j : Nat} (o : Ok k X P) (gx : Gn X x) (z : Rz0 P.K X.mg x c) : PS X (.Raise (some (.Call (.Name x p) [.Constant (.str s) j p2] [] pos)) none pos') (tsG P (raise0S c)) := by
  obtain ⟨C, hm, hc, h1, h2, h3, h4⟩ := z.ex
  rw [← o.hK] at h1 h2 h3 h4
  refine (ps_raise o.calm o.tk (pmk_own PySem.F.excBase_ValueError h1 hm h2 (raises_own h3 h4) gx.g gx.d)).imp fun D σ H ⟨G, ρ, S, r, h⟩ => ?_
  exact h (.ref C) none σ H G (Gh.le.refl G) r ⟨hc.symm, rfl⟩
theorem t_raise1 {j : Nat} (o : Ok (k + 1) X P) (gx : Gn X x) (z : Rz1 X.prog X.w P.K X.mg X.base j x c) (hj : j ≤ k) (he : PE X e (tmO P m)) (hs : isStar e = false) : PS X (.Raise (some (.Call (.Name x p) [e] [] pos)) none pos') (tsG P (raise1S c m)) := by
  obtain ⟨C, fI, fd, ps, hm, hc, h1, hn, h2, h3, F, hb⟩ := z.ex
  have hK := o.hK
  rw [← hK] at h1 h2 h3 F hb hn
  refine (ps_raise o.calm o.tk (pmk_oex h1 h2 h3 (F.mono hj) o.room hb .nil passL gx.g hm (pa_cons he pa_nil (star1 hs)) gx.d (star1 hs) (by rfl))).imp fun D σ H ⟨G, ρ, S, r, h⟩ => ?_
  refine val_of (tm_imp (thn_of (rel := relV P) r h) fun v H1 ⟨G1, ρ1, S1, a, r1, w, le, q1⟩ => ?_)
  refine ⟨Nat.le_of_ble_eq_true rfl, fun a ha => ⟨a, v, by simp, h1, hn, upd_same, fun dx hdx hne => ⟨rfl, dx, [((P.K.cv c).2, v)], upd_same, ?_, ?_, ?_⟩⟩⟩
  · rw [upd_ne hne, upd_same]
  · rw [upd_ne hne] at hdx; exact hdx
  · rw [upd_ne hne] at hdx
    have eH : upd (del (upd (upd (upd H1 a (exo a C none)) dx (exd dx [((P.K.cv c).2, v)])) a (exo a C (some dx))) a) dx (.xd [((P.K.cv c).2, v)]) = upd H1 dx (.xd [((P.K.cv c).2, v)]) := by
      funext y
      by_cases h1 : y = dx
      · subst h1; rw [upd_same, upd_same]
      · rw [upd_ne h1, upd_ne h1]
        by_cases h2 : y = a
        · subst h2; rw [del_same, ha]
        · rw [del_ne h2, upd_ne h2, upd_ne h1, upd_ne h2]
    rw [eH]
    exact q1 (.ref C) (some dx) σ _ G1 (Gh.le.refl G1) (r1.new hdx _) ⟨hc.symm, rfl, dx, v, rfl, upd_same, w, r1.newB hdx⟩
end
/-! ### an exception class's own __init__ -/
def oexB (K : PySem.W.Frag) (C : Addr) : Bool := match K.lookup C with
  | some ⟨.type t, _, .cls cd, sl⟩ => decide (t = "type") && (match cd.mro, sl.toList with
    | .ref C' :: bm, [_, _, _, _, some (.builtin n), _] => decide (C' = C) && (decide (n = "ValueError.__new__") && (cd.hasDict && (!cd.hasDel && PySem.HandSPX.refsVE bm)))
    | _, _ => false)
  | _ => false
theorem oexB_ok {K : PySem.W.Frag} {C : Addr} (h : oexB K C = true) : ∃ nm q N bs bm sn sub ab col dd k0 k1 k2 k3 k5, K.lookup C = some (excClassObj nm q C N bs bm true sn sub ab col dd k0 k1 k2 k3 k5 "ValueError.__new__") ∧ PySem.HandSPX.refsVE bm = true := by
  unfold oexB at h
  split at h
  · rename_i t dd cd sl hl
    obtain ⟨h1, h2⟩ := He.ba h
    split at h2
    · rename_i C' bm k0 k1 k2 k3 n k5 hm hs
      obtain ⟨h3, h4⟩ := He.ba h2
      obtain ⟨h5, h6⟩ := He.ba h4
      obtain ⟨h7, h8⟩ := He.ba h6
      obtain ⟨h9, h10⟩ := He.ba h8
      obtain ⟨nm, bs, mro, ns, qn, hd, sn, sub, ab, col, del⟩ := cd
      dsimp only at hm h7 h9
      have e1 := of_decide_eq_true h1
      have e3 := of_decide_eq_true h3
      have e5 := of_decide_eq_true h5
      have e9 : del = false := by simpa using h9
      subst e1 e3 e5 hm e9 h7
      have es : sl = #[k0, k1, k2, k3, some (.builtin "ValueError.__new__"), k5] := by
        cases sl with
        | mk l => exact congrArg Array.mk hs
      subst es
      exact ⟨_, _, _, _, _, _, _, _, _, _, _, _, _, _, _, hl, h10⟩
    · cases h2
  · cases h
section
variable {X : Cx} {B : Str} {CB : Addr} {e : Expr} {es : List Expr} {ta : TA} {p1 p2 pos : Pos}
/-- B.__init__(self, ..), B an own class over ValueError -/
structure BIn (K : PySem.W.Frag) (CB : Addr) : Prop where
  rd : PySem.W.readsIn K CB (.type "type") = true
  ga : PySem.W.specialIn K (.ref CB) "__getattribute__" = some (some (.builtin "type.__getattribute__"))
  fc : PySem.W.findCls K (.ref CB) (.type "type") "__init__" = some (.val (.builtin "ValueError.__init__"))
theorem pe_binit {pl : Sem Bool} (hg : Gl X B) (hm : X.mg B = some (.ref CB)) (hdb : (B == ("__debug__" : Str)) = false) (z : BIn X.K CB) (ha : PA X (e :: es) ta)
    (he : starEach (e :: es) X.env = (false, eval e X.env) :: starEach es X.env) (hpl : (backTo pos (starEach es X.env)).any (·.1) = false)
    (hc : eval (.Call (.Attribute (.Name B p1) "__init__" p2) (e :: es) [] pos) X.env = (do
      let o ← eval (.Name B p1) X.env
      standAt p2.atName
      let (f, fs) ← holding [o] (getMethod o "__init__" pl)
      callWith pos f fs (backTo pos (starEach (e :: es) X.env)) (backToKw pos (keywordEach [] X.env)))) :
    PE X (.Call (.Attribute (.Name B p1) "__init__" p2) (e :: es) [] pos) (tVeI X.K ta) := by
  constructor
  intro pins s σ H Q I q
  refine PySem.W.methodCall_KW (ld_glob I hg hm ?_ hdb) hc
  have step : wpAny (model X.prog X.w) X.A (callWith pos (Value.builtin "ValueError.__init__") [] (backTo pos (starEach (e :: es) X.env)) []) (EP X pins σ Q) X.xe { s with toks := s.toks + 1 } := by
    refine PyProof.Rows.callWith_method1 (thn (ha.run pos pins _ σ H _ (I.tok _) q) fun us s1 y => ?_) he hpl
    obtain ⟨vs, H1, I1, r1, a, C, ws, ev, hl, T, ea, q1⟩ := y
    subst ev
    cases r1 with
    | @cons _ u _ ur ra rw' =>
      cases (show u = Value.ref a from ra)
      have len : ur.length ≤ sizeLine := by
        have := Paired.length rw'
        rw [LN_eq]
        unfold LN
        omega
      exact oinit_ok T I1 ea len fun s' J => ⟨.non, H1, J, rfl, q1⟩
  exact PySem.W.method_cls I.kIn z.ga (PySem.W.cls_value I.kIn z.rd z.fc (by decide +kernel) step)
end
theorem init_ok {P : Program} {w : World} {K : PySem.W.Frag} {mg : Str → Option Value} {base : Heap} {x qual B f sf ar : Str} {params : Arguments} {scope : Scope} {fI C CB : Addr} {fd : FuncData} {p1 p2 p3 p4 p5 p6 p7 p8 p9 p10 : Pos}
    (F : FunD K x qual params [.Expr (.Call (.Attribute (.Name B p1) "__init__" p2) [.Name sf p3, .Name ar p4] [] p5) p6, .Assign [.Attribute (.Name sf p7) f p8] (.Name ar p9) p10] scope [] [] fI fd)
    (Sc : FnScope [sf, ar] [sf, ar] scope) (hg : gnS scope B = true) (h1 : (visB scope sf && okName sf) = true) (h2 : (visB scope ar && okName ar) = true) (hm : mg B = some (.ref CB)) (z : BIn K CB) {pl : Env → Sem Bool}
    (hc : ∀ env : Env, eval (.Call (.Attribute (.Name B p1) "__init__" p2) [.Name sf p3, .Name ar p4] [] p5) env = (do
      let o ← eval (.Name B p1) env
      standAt p2.atName
      let (f, fs) ← holding [o] (getMethod o "__init__" (pl env))
      callWith p5 f fs (backTo p5 (starEach [.Name sf p3, .Name ar p4] env)) (backToKw p5 (keywordEach [] env)))) :
    FnOk P w K mg base (L2.CX P w) 1 fI fd [sf, ar] (spI K C f) := by
  refine F.ok Sc (fun vs H Q E ⟨a, v, e, _⟩ => by rw [e]; rfl) fun cdv A outer s H vs Q E hr ⟨a, v, e, T, hno, ha, q⟩ => ?_
  have v1 := (Cxt.mk (X := cxOf (L2.CX P w) P w K mg base [sf, ar] qual scope fI cdv A outer s H E) rfl rfl rfl : Cxt _ [sf, ar] scope fl1)
  have a1 := v1.at_ 0 sf rfl h1
  have a2 := v1.at_ 1 ar rfl h2
  have g1 := v1.gn B hg
  have pe1 := pe_var (pos := p3) a1.N a1.v a1.d a1.c
  have pe2 := pe_var (pos := p4) a2.N a2.v a2.d a2.c
  refine ⟨_, pss_cons (ps_expr (pe_binit g1.g hm g1.d z (pa_cons pe1 (pa_cons pe2 pa_nil (by rfl)) (by rfl)) (by rfl) (by rfl) (hc _)) (by rfl)) (pss_one (ps_ost (pe_var a1.N a1.v a1.d a1.c) (pe_var a2.N a2.v a2.d a2.c) (by rfl))), ?_⟩
  subst e
  refine ⟨.ref a, rfl, v, rfl, a, C, [v], rfl, Nat.le_of_ble_eq_true rfl, T, ha, ?_⟩
  refine ⟨v, rfl, .ref a, rfl, a, C, rfl, T, hno, .inl ⟨ha, fun dx h1 h2 => q dx h1 h2⟩⟩
end Mi

namespace Mi
open PySem PySem.Spec PyProof.Rows L2

/-! ### classes: what the written part says -/
/-- an exception's class, as its instances are looked at -/
structure XcF (K : PySem.W.Frag) (C : Addr) : Prop where
  cl : (PySem.W.clsIn K C).isSome = true
  ga : PySem.W.findIn K (.ref C) "__getattribute__" = some (some (.builtin "BaseException.__getattribute__"))
  gg : PySem.W.findIn K (.ref C) "__getattr__" = some none
  ex : PySem.W.subIn K (.ref C) (.type "BaseException") = some true
  hd : PySem.W.hasDictIn K C = true
  ca : PySem.W.findIn K (.ref C) "__class__" = some (some (.builtin "object.__class__"))
  cg : PySem.W.specialIn K (.builtin "object.__class__") "__get__" = some (some (.builtin "getset_descriptor.__get__"))
  ct : PySem.W.takesIn K (.builtin "object.__class__") = some true
  mr : PySem.W.mroIn K C (.type "object") = some true
def fiB (K : PySem.W.Frag) (c : Value) (f : Str) (v : Option Value) : Bool := decide (PySem.W.findIn K c f = some v)
theorem fiB_ok {K : PySem.W.Frag} {c : Value} {f : Str} {v : Option Value} (h : fiB K c f v = true) : PySem.W.findIn K c f = some v := of_decide_eq_true h
def ocB (K : PySem.W.Frag) (C : Addr) : Bool := fiB K (.ref C) "__class__" (some (.builtin "object.__class__")) && (decide (PySem.W.specialIn K (.builtin "object.__class__") "__get__" = some (some (.builtin "getset_descriptor.__get__"))) &&
  (decide (PySem.W.takesIn K (.builtin "object.__class__") = some true) && decide (PySem.W.mroIn K C (.type "object") = some true)))
def xcfB (K : PySem.W.Frag) (C : Addr) : Bool := (PySem.W.clsIn K C).isSome && (fiB K (.ref C) "__getattribute__" (some (.builtin "BaseException.__getattribute__")) && (fiB K (.ref C) "__getattr__" none &&
  (decide (PySem.W.subIn K (.ref C) (.type "BaseException") = some true) && (PySem.W.hasDictIn K C && ocB K C))))
theorem xcfB_ok {K : PySem.W.Frag} {C : Addr} (h : xcfB K C = true) : XcF K C := by
  obtain ⟨h1, h⟩ := He.ba h
  obtain ⟨h2, h⟩ := He.ba h
  obtain ⟨h3, h⟩ := He.ba h
  obtain ⟨h4, h⟩ := He.ba h
  obtain ⟨h5, h⟩ := He.ba h
  obtain ⟨h6, h⟩ := He.ba h
  obtain ⟨h7, h⟩ := He.ba h
  obtain ⟨h8, h9⟩ := He.ba h
  exact ⟨h1, fiB_ok h2, fiB_ok h3, of_decide_eq_true h4, h5, fiB_ok h6, of_decide_eq_true h7, of_decide_eq_true h8, of_decide_eq_true h9⟩
/-! ### isinstance(x, C), own classes -/
inductive Ity (K : PySem.W.Frag) (H : Hp) : V → Value → Prop
  | t {x : V} {t : Value} : TyX K H x t → Ity K H x t
  | e0 {a C : Addr} : H a = some (xvO a (.ref C) none) → XcF K C → Ity K H (.ref a) (.ref C)
  | e1 {a C dx : Addr} {fs : List (Str × V)} : H a = some (xvO a (.ref C) (some dx)) → H dx = some (.xd fs) → XcF K C → Ity K H (.ref a) (.ref C)
section
variable {X : Cx} {pins : List (Addr × Obj)} {σ : L2.St} {H : Hp} {s : Shared}
theorem xv_at (I : L2.Inv X pins σ H s) {a : Addr} {cls : Value} {dd : Option Addr} (h : H a = some (xvO a cls dd)) : ∃ (oe : Obj) (vs : Array Value), s.heap.get? a = some oe ∧ oe.cls = cls ∧ oe.dict = dd ∧ oe.data = .fields vs := by
  have z : ObjOk X.prog X.w H s.heap a (.ext fun h => ∃ (oe : Obj) (vs : Array Value), h.get? a = some oe ∧ oe.cls = cls ∧ oe.dict = dd ∧ oe.data = .fields vs) := I.hok a _ h
  exact z.1
theorem xd_at (I : L2.Inv X pins σ H s) {dx : Addr} {fs : List (Str × V)} (h : H dx = some (.xd fs)) : ∃ mA, s.heap.Ns1 dx mA ∧ ∀ f, RelO (fs.lookup f) (mA f) := by
  have z : ObjOk X.prog X.w H s.heap dx (.xd fs) := I.hok dx _ h
  exact z
theorem ity_kit (I : L2.Inv X pins σ H s) {x : V} {u t : Value} (rx : RelV x u) (y : Ity X.K H x t) : ∃ Pr : Heap → Prop, PySem.W.KitX X.K u t Pr ∧ Pr s.heap ∧ u ≠ .builtin "__main__.__loader__#opaque" := by
  cases y with
  | t h => exact kit_of I rx h
  | @e0 a C h z =>
    cases (show u = Value.ref a from rx)
    obtain ⟨oe, vs, e1, e2, e3, e4⟩ := xv_at I h
    exact ⟨_, PySem.W.kitx_exc (ox := oe) (od := none) z.cl z.ga z.gg z.ex z.ca z.cg z.ct z.mr, ⟨e1, e2, by unfold PySem.W.notCls; rw [e4], by rw [e3]; trivial⟩, fun q => nomatch q⟩
  | @e1 a C dx fs h hd z =>
    cases (show u = Value.ref a from rx)
    obtain ⟨oe, vs, e1, e2, e3, e4⟩ := xv_at I h
    obtain ⟨mA, ns, _⟩ := xd_at I hd
    obtain ⟨od, ho, _⟩ := lookIn_ns ns
    exact ⟨_, PySem.W.kitx_exc (ox := oe) (od := some od) z.cl z.ga z.gg z.ex z.ca z.cg z.ct z.mr, ⟨e1, e2, by unfold PySem.W.notCls; rw [e4], by rw [e3]; exact ho⟩, fun q => nomatch q⟩
def rIsO (K : PySem.W.Frag) : List V → Hp → VK → Prop := fun xs H Q => ∃ (x c : V) (t u : Value) (b : Bool), xs = [x, c] ∧ ClsV c u ∧ Ity K H x t ∧ PySem.W.kitOne K t u = some b ∧ Q (.bl b) H
def rIsM (K : PySem.W.Frag) : List V → Hp → VK → Prop := fun xs H Q => ∃ (x : V) (tp : Addr) (cs : List V) (t : Value) (us : List Value) (b : Bool), xs = [x, .ref tp] ∧ H tp = some (.tup cs) ∧ Paired ClsV cs us ∧ Ity K H x t ∧
  PySem.W.kitAny K t us = some b ∧ Q (.bl b) H
theorem call_isO : CallR X (.builtin "isinstance") (rIsO X.K) := by
  intro pins s σ H xs us Q I r ⟨x, c, t, u, b, e, k, y, z, q⟩
  subst e
  obtain ⟨w1, w2, rfl, r1, r2⟩ := vals2 r
  cases k.eq r2
  obtain ⟨Pr, Z, pr, nb⟩ := ity_kit I r1 y
  exact PySem.W.kia_one Z I.kIn pr z nb fun tk => ⟨V.bl b, H, I.tok tk, rfl, q⟩
theorem call_isM : CallR X (.builtin "isinstance") (rIsM X.K) := by
  intro pins s σ H xs us Q I r ⟨x, tp, cs, t, ws, b, e, hT, k, y, z, q⟩
  subst e
  obtain ⟨w1, w2, rfl, r1, r2⟩ := vals2 r
  cases (show w2 = Value.ref tp from r2)
  obtain ⟨Pr, Z, pr, nb⟩ := ity_kit I r1 y
  obtain ⟨_, its, rv, ob, g1, g2, n, g3⟩ := (show ObjOk X.prog X.w H s.heap tp (.tup cs) from I.hok tp _ hT)
  cases ClsV.all k rv
  obtain ⟨oc, od, dt, sl⟩ := ob
  dsimp only at g2 g3
  subst g2 g3
  exact PySem.W.kia_tup Z I.kIn pr g1 z nb fun tk => ⟨V.bl b, H, I.tok tk, rfl, q⟩
end
/-- the answers: for exceptions, for instances, by their classes' numbers -/
def isxD (tx to : List Bool) : D → M OD
  | .exn _ [_, _] => M.err
  | .exn c _ => (match tx[c]? with
    | some b => ofBool b
    | none => M.err)
  | .obj c _ => (match to[c]? with
    | some b => ofBool b
    | none => M.err)
  | .cell _ => M.err
  | .dct _ _ => M.err
  | _ => ofBool false
def isxM (o : M Opd) (tx to : List Bool) : M OD := do
  let x ← o
  let d ← resM x
  isxD tx to d
def kdAll : List Kd := [.non, .bl, .int, .str, .tup, .lst]
/-- names of classes (own, built-in), with the answers -/
structure IsxAt (K : KW) (mg : Str → Option Value) (xs : List Str) (tx to : List Bool) : Prop where
  nm : ∃ us : List Value, xs.length = us.length ∧ (∀ (i : Nat) (x : Str) (u : Value), xs[i]? = some x → us[i]? = some u → (∃ C : Addr, mg x = some (.ref C) ∧ u = .ref C) ∨ ∃ T : String, mg x = none ∧ bootBuiltins x = some (.type T) ∧ x ≠ "__name__" ∧ u = .type T) ∧
    (∀ c b, tx[c]? = some b → ∃ C : Addr, (K.cv c).1 = .ref C ∧ XcF K.fr C ∧ PySem.W.kitAny K.fr (.ref C) us = some b) ∧
    (∀ c b, to[c]? = some b → Cls K.fr (K.ct c).1 ∧ ocB K.fr (K.ct c).1 = true ∧ PySem.W.kitAny K.fr (.ref (K.ct c).1) us = some b) ∧
    ∀ k ∈ kdAll, PySem.W.kitAny K.fr (.type k.tyN) us = some false
theorem kit_sole {K : PySem.W.Frag} {t u : Value} {b : Bool} (h : PySem.W.kitAny K t [u] = some b) : PySem.W.kitOne K t u = some b := by
  unfold PySem.W.kitAny at h
  cases e : PySem.W.kitOne K t u with
  | none => rw [e] at h; cases h
  | some c =>
    rw [e] at h
    cases c with
    | true => exact h
    | false => exact h
section
variable {X : Cx} {P : Pm} {k : Nat} {e : Expr} {o : M Opd} {p p' p2 pos tpos : Pos} {G : Gh} {ρ : Rho} {S : List D} {σ : L2.St} {H : Hp} {xs : List Str} {x : Str} {tx to : List Bool}
theorem ity_of {K : KW} {mg : Str → Option Value} {v : V} {d : D} {us : List Value} {Q : VK} (s : Sub G.F H) (w : Peek K G H v d) (hx : ∀ c b, tx[c]? = some b → ∃ C : Addr, (K.cv c).1 = .ref C ∧ XcF K.fr C ∧ PySem.W.kitAny K.fr (.ref C) us = some b)
    (ho : ∀ c b, to[c]? = some b → Cls K.fr (K.ct c).1 ∧ ocB K.fr (K.ct c).1 = true ∧ PySem.W.kitAny K.fr (.ref (K.ct c).1) us = some b) (hk : ∀ k ∈ kdAll, PySem.W.kitAny K.fr (.type k.tyN) us = some false)
    (h : Post P (relO P) G σ (isxD tx to d ρ S) Q) : ∃ t b, Ity K.fr H v t ∧ PySem.W.kitAny K.fr t us = some b ∧ Post P (relO P) G σ (ofBool b ρ S) Q := by
  have plain : ∀ hn : d.kd ≠ .cell, d.kd ∈ kdAll → Post P (relO P) G σ (ofBool false ρ S) Q → ∃ t b, Ity K.fr H v t ∧ PySem.W.kitAny K.fr t us = some b ∧ Post P (relO P) G σ (ofBool b ρ S) Q := fun hn hm q =>
    ⟨_, false, .t (w.tyx s hn), hk _ hm, q⟩
  cases d with
  | exn c ds =>
    obtain ⟨a, ob, rfl, q, r⟩ := w.ob s rfl
    have hn2 : ∀ x y, ds ≠ [x, y] := fun x y z => by subst z; exact h.elim
    have hq : Post P (relO P) G σ ((match tx[c]? with
      | some b => ofBool b
      | none => M.err) ρ S) Q := by
      match ds, hn2, h with
      | [], _, h => exact h
      | [_], _, h => exact h
      | [x, y], n, _ => exact (n x y rfl).elim
      | _ :: _ :: _ :: _, _, h => exact h
    cases e : tx[c]? with
    | none => rw [e] at hq; exact hq.elim
    | some b =>
      rw [e] at hq
      obtain ⟨C, h1, h2, h3⟩ := hx c b e
      cases r with
      | exn0 =>
        rw [h1] at q
        exact ⟨_, b, .e0 q h2, h3, hq⟩
      | exn1 e1 _ =>
        rw [h1] at q
        exact ⟨_, b, .e1 q (s _ _ e1) h2, h3, hq⟩
      | tbl _ _ _ => exact (hn2 _ _ rfl).elim
  | obj c ds =>
    obtain ⟨a, ob, rfl, q, r⟩ := w.ob s rfl
    have hq : Post P (relO P) G σ ((match to[c]? with
      | some b => ofBool b
      | none => M.err) ρ S) Q := h
    cases e : to[c]? with
    | none => rw [e] at hq; exact hq.elim
    | some b =>
      rw [e] at hq
      obtain ⟨h1, h2, h3⟩ := ho c b e
      obtain ⟨g1, g2⟩ := He.ba h2
      obtain ⟨g3, g4⟩ := He.ba g2
      obtain ⟨g5, g6⟩ := He.ba g4
      cases r with
      | ins _ _ => exact ⟨_, b, .t (.base (.ins q h1 (fiB_ok g1) (of_decide_eq_true g3) (of_decide_eq_true g5) (of_decide_eq_true g6))), h3, hq⟩
  | cell n => exact h.elim
  | dct j es => exact h.elim
  | non => exact plain (by intro z; cases z) (by simp [D.kd, kdAll]) h
  | bl _ => exact plain (by intro z; cases z) (by simp [D.kd, kdAll]) h
  | int _ => exact plain (by intro z; cases z) (by simp [D.kd, kdAll]) h
  | str _ => exact plain (by intro z; cases z) (by simp [D.kd, kdAll]) h
  | tup _ => exact plain (by intro z; cases z) (by simp [D.kd, kdAll]) h
  | lst _ => exact plain (by intro z; cases z) (by simp [D.kd, kdAll]) h
  | scr _ => exact plain (by intro z; cases z) (by simp [D.kd, kdAll]) h
/-- a class's name -/
theorem pe_cls {u : Value} (gx : Gn X x) (h : (∃ C : Addr, X.mg x = some (.ref C) ∧ u = .ref C) ∨ ∃ T : String, X.mg x = none ∧ bootBuiltins x = some (.type T) ∧ x ≠ "__name__" ∧ u = .type T) : ∃ c, ClsV c u ∧ PE X (.Name x pos) (tC c) := by
  rcases h with ⟨C, h1, rfl⟩ | ⟨T, h1, h2, h3, rfl⟩
  · exact ⟨_, .own C, pe_glob gx.g h1 rfl gx.d⟩
  · exact ⟨_, .ty T, pe_bltn gx.g h1 h2 (show RelV (.ty T) (.type T) from rfl) h3 gx.d⟩
theorem t_isx (ok : Ok k X P) (bn : Bn X "isinstance") (gx : Gn X x) (z : IsxAt P.K X.mg [x] tx to) (ha : PE X e (tmP P o)) (hs : isStar e = false) : PE X (.Call (.Name "isinstance" p) [e, .Name x p'] [] pos) (tmO P (isxM o tx to)) := by
  obtain ⟨us, hl, hn, hx, ho, hk⟩ := z.nm
  obtain ⟨u, rfl⟩ : ∃ u, us = [u] := by
    match us, hl with
    | [u], _ => exact ⟨u, rfl⟩
  obtain ⟨c, hc, pc⟩ := pe_cls (pos := p') gx (hn 0 x u rfl rfl)
  refine (pe_callB call_isO bn.g.g bn.m boot_isi (pa_cons ha (pa_cons pc pa_nil (by rfl)) (star1 hs)) (by decide +kernel) (by decide +kernel) (star1 hs) (by rfl)).imp fun σ H Q q => ?_
  refine tm_imp (tm_bind (rel1 := relP P) q) fun v H1 ⟨G, ρ, S, y, r, w, q⟩ => ?_
  obtain ⟨d, pk, q⟩ := res_of r w q
  obtain ⟨t, b, it, ka, q⟩ := ity_of (mg := X.mg) r.fr pk hx ho hk q
  exact ⟨v, c, t, u, b, rfl, hc, by rw [ok.hK]; exact it, by rw [ok.hK]; exact kit_sole ka, post_gives q r (.bl _)⟩
end
/-! ### isinstance(x, (C, D, ..)) -/
inductive NmL (X : Cx) : List Expr → List Str → Prop
  | nil : NmL X [] []
  | cons {x : Str} {p : Pos} {es : List Expr} {xs : List Str} : Gn X x → NmL X es xs → NmL X (.Name x p :: es) (x :: xs)
theorem NmL.pa {X : Cx} : ∀ {es : List Expr} {xs : List Str} {us : List Value}, NmL X es xs → xs.length = us.length →
    (∀ (i : Nat) (x : Str) (u : Value), xs[i]? = some x → us[i]? = some u → (∃ C : Addr, X.mg x = some (.ref C) ∧ u = .ref C) ∨ ∃ T : String, X.mg x = none ∧ bootBuiltins x = some (.type T) ∧ x ≠ "__name__" ∧ u = .type T) →
    ∃ cs, Paired ClsV cs us ∧ PA X es (fun _ H Q => Q cs H)
  | _, _, [], .nil, _, _ => ⟨[], .nil, pa_nil⟩
  | _, _, u :: us, .cons gx r, hl, hn => by
    obtain ⟨c, hc, pc⟩ := pe_cls gx (hn 0 _ _ rfl rfl)
    obtain ⟨cs, hcs, pcs⟩ := r.pa (us := us) (by simpa using hl) fun i x u h1 h2 => hn (i + 1) x u (by simpa using h1) (by simpa using h2)
    exact ⟨c :: cs, .cons hc hcs, (pa_cons pc pcs (by rfl)).imp fun σ H Q q => q⟩
section
variable {X : Cx} {P : Pm} {k : Nat} {e : Expr} {es : List Expr} {o : M Opd} {p p' p2 pos tpos : Pos} {q : Nat} {G : Gh} {ρ : Rho} {S : List D} {σ : L2.St} {H : Hp} {xs : List Str} {x f : Str} {tx to : List Bool}
theorem t_isxT (ok : Ok k X P) (bn : Bn X "isinstance") (gs : NmL X es xs) (z : IsxAt P.K X.mg xs tx to) (ha : PE X e (tmP P o)) (hs : isStar e = false) (hlen : xs.length < 100) : PE X (.Call (.Name "isinstance" p) [e, .Tuple es q tpos] [] pos) (tmO P (isxM o tx to)) := by
  obtain ⟨us, hl, hn, hx, ho, hk⟩ := z.nm
  obtain ⟨cs, hcs, pcs⟩ := gs.pa hl hn
  refine (pe_callB call_isM bn.g.g bn.m boot_isi (pa_cons ha (pa_cons (pe_tup pcs) pa_nil (by rfl)) (star1 hs)) (by decide +kernel) (by decide +kernel) (star1 hs) (by rfl)).imp fun σ H Q q => ?_
  refine tm_imp (tm_bind (rel1 := relP P) q) fun v H1 ⟨G, ρ, S, y, r, w, q⟩ => ?_
  obtain ⟨d, pk, q⟩ := res_of r w q
  have ll : cs.length = us.length := Paired.length hcs
  refine ⟨by rw [LN_eq]; unfold LN; omega, fun tp htp => ?_⟩
  have r2 := r.new htp (.tup cs)
  have pk2 : Peek P.K G (upd H1 tp (.tup cs)) v d := pk.mono (Gh.le.refl G) (fun a o' h => by rw [upd_ne (ne_of_none h htp)]; exact h)
  obtain ⟨t, b, it, ka, q⟩ := ity_of (mg := X.mg) r2.fr pk2 hx ho hk q
  exact ⟨v, tp, cs, t, us, b, rfl, upd_same, hcs, by rw [ok.hK]; exact it, by rw [ok.hK]; exact ka, post_gives q r2 (.bl _)⟩
/-! ### e.f -/
def getF (of : List (Option Nat)) (c : Nat) (fs : List D) : M OD := match of[c]? with
  | some (some i) => (match fs[i]? with
    | some d => gives d
    | none => M.err)
  | _ => M.err
def fldD (xf : List Bool) (of : List (Option Nat)) : D → M OD
  | .exn c [d] => if xf[c]? = some true then gives d else M.err
  | .obj c fs => getF of c fs
  | .cell n => fun ρ S => (match S[n]? with
    | some (.obj c fs) => getF of c fs ρ S
    | _ => .err)
  | _ => M.err
def fldM (o : M Opd) (xf : List Bool) (of : List (Option Nat)) : M OD := do
  let x ← o
  let d ← resM x
  fldD xf of d
structure FldAt (K : KW) (f : Str) (xf : List Bool) (of : List (Option Nat)) : Prop where
  x : ∀ c : Nat, xf[c]? = some true → ∃ C : Addr, K.cv c = (.ref C, f) ∧ XcF K.fr C ∧ PySem.W.findIn K.fr (.ref C) f = some none
  o : ∀ c i : Nat, of[c]? = some (some i) → (K.ct c).2[i]? = some f ∧ (K.ct c).2.Nodup ∧ Cls K.fr (K.ct c).1 ∧ NoAttr K.fr (K.ct c).1 f
def rFl (K : PySem.W.Frag) (f : Str) : V → Hp → VK → Prop := fun x H Q => (∃ a C dx v, x = .ref a ∧ H a = some (xvO a (.ref C) (some dx)) ∧ H dx = some (.xd [(f, v)]) ∧ XcF K C ∧ PySem.W.findIn K (.ref C) f = some none ∧ Q v H) ∨
  ∃ a C dx fs v, x = .ref a ∧ H a = some (.ins C dx fs) ∧ Cls K C ∧ NoAttr K C f ∧ fs.lookup f = some v ∧ Q v H
theorem pe_fl {te : TE} (he : PE X e te) (hb : attributeBase e f X.env (eval e X.env) = eval e X.env) : PE X (.Attribute e f pos) (fun σ H Q => te σ H fun x H1 => rFl X.K f x H1 Q) := by
  constructor
  intro pins s σ H Q I h
  refine attr_of hb (thn (he.run pins s σ H _ I h) fun u s1 y => ?_)
  obtain ⟨x, H1, I1, rx, y⟩ := y
  rcases y with ⟨a, C, dx, v, e0, e1, e2, z, hno, q⟩ | ⟨a, C, dx, fs, v, e0, e1, z, hno, l, q⟩
  · subst e0
    cases (show u = Value.ref a from rx)
    obtain ⟨oe, vs, g1, g2, g3, g4⟩ := xv_at I1 e1
    obtain ⟨mA, ns, rel⟩ := xd_at I1 e2
    obtain ⟨od, ho, hl⟩ := lookIn_ns ns
    obtain ⟨w, hw, rw'⟩ := RelO.some_of (v := v) (o := mA f) (by have := rel f; rw [lookup_put, if_pos rfl] at this; exact this)
    have J : PySem.W.InstAt s1.heap a oe C (some od) := ⟨g1, g2, by unfold PySem.W.notCls; rw [g4], by rw [g3]; exact ho⟩
    exact HandSPX.exc_get I1.kIn J z.ga z.gg z.ex (PySem.W.findObj_own z.hd hno rfl (by rw [hl, hw])) (handed_of rw') ⟨v, H1, I1.tok _, rw', q⟩
  · subst e0
    cases (show u = Value.ref a from rx)
    exact getattr_ok I1 e1 z hno l fun w s2 I2 r2 => ⟨v, H1, I2, r2, q⟩
theorem zip_lookup {f : Str} : ∀ {ns : List Str} {vs : List V} {i : Nat} {v : V}, ns.Nodup → ns[i]? = some f → vs[i]? = some v → (ns.zip vs).lookup f = some v
  | [], _, _, _, _, h, _ => by simp at h
  | _ :: _, [], _, _, _, _, h => by simp at h
  | n :: ns, w :: vs, 0, v, _, h1, h2 => by
    simp at h1 h2
    subst h1 h2
    rw [List.zip_cons_cons, lookup_put, if_pos rfl]
  | n :: ns, w :: vs, i + 1, v, hd, h1, h2 => by
    have h1' : ns[i]? = some f := by simpa using h1
    have hne : f ≠ n := fun z => (List.nodup_cons.mp hd).1 (z ▸ List.mem_of_getElem? h1')
    rw [List.zip_cons_cons, lookup_put, if_neg hne]
    exact zip_lookup (List.nodup_cons.mp hd).2 h1' (by simpa using h2)
theorem getF_of {K : KW} {a : Addr} {ob : HO} {c : Nat} {fs : List D} {xf : List Bool} {of : List (Option Nat)} {Q : VK} (hK : P.K = K) (z : FldAt K f xf of) (r : R P.K P.b G ρ S σ H) (q : H a = some ob) (w : ORep P.K G.F G.ι a ob (.obj c fs)) (h : Post P (relO P) G σ (getF of c fs ρ S) Q) : rFl K.fr f (.ref a) H Q := by
  subst hK
  unfold getF at h
  cases e : of[c]? with
  | none => simp only [e] at h; exact h.elim
  | some oi =>
    cases oi with
    | none => simp only [e] at h; exact h.elim
    | some i =>
      simp only [e] at h
      cases e2 : fs[i]? with
      | none => simp only [e2] at h; exact h.elim
      | some d =>
        simp only [e2] at h
        obtain ⟨g1, g2, g3, g4⟩ := z.o c i e
        cases w with
        | @ins _ dx _ vs _ hl w =>
          obtain ⟨v, hv, rv⟩ := w.at e2
          exact .inr ⟨a, _, dx, _, v, rfl, q, g3, g4, zip_lookup g2 g1 hv, post_gives h r rv⟩
theorem t_fld (ok : Ok k X P) {xf : List Bool} {of : List (Option Nat)} (z : FldAt P.K f xf of) (he : PE X e (tmP P o)) (h0 : isCall0 e = false) : PE X (.Attribute e f pos) (tmO P (fldM o xf of)) := by
  refine (pe_fl he (base0 h0)).imp fun σ H Q q => ?_
  refine tm_imp (tm_bind (rel1 := relP P) q) fun v H1 ⟨G, ρ, S, y, r, w, q⟩ => ?_
  obtain ⟨d, pk, q⟩ := res_of r w q
  rw [ok.hK]
  match d, pk, q with
  | .exn c [d'], pk, q =>
    have q : Post P (relO P) G σ ((if xf[c]? = some true then gives d' else M.err) ρ S) Q := q
    obtain ⟨a, ob, rfl, e1, w1⟩ := pk.ob r.fr rfl
    by_cases hc : xf[c]? = some true
    · rw [if_pos hc] at q
      obtain ⟨C, g1, g2, g3⟩ := z.x c hc
      cases w1 with
      | exn1 e2 w2 =>
        rw [g1] at e1 e2
        exact .inl ⟨a, C, _, _, rfl, e1, r.fr _ _ e2, g2, g3, post_gives q r w2⟩
    · rw [if_neg hc] at q
      exact q.elim
  | .obj c fs, pk, q =>
    obtain ⟨a, ob, rfl, e1, w1⟩ := pk.ob r.fr rfl
    exact getF_of rfl z r e1 w1 q
  | .cell n, pk, q =>
    obtain ⟨a, rfl, e1⟩ := pk.cell
    have q : Post P (relO P) G σ (match S[n]? with
      | some (.obj c fs) => getF of c fs ρ S
      | _ => .err) Q := q
    cases e : S[n]? with
    | none => simp only [e] at q; exact q.elim
    | some d' =>
      obtain ⟨a', g1, g2, _⟩ := r.cl n d' e
      rw [e1] at g1
      cases g1
      simp only [e] at q
      match d', g2, q with
      | .obj c fs, g2, q =>
        obtain ⟨ob, e3, w3⟩ := g2
        exact getF_of rfl z r e3 w3 q
      | .non, _, q => exact q.elim
      | .bl _, _, q => exact q.elim
      | .int _, _, q => exact q.elim
      | .str _, _, q => exact q.elim
      | .tup _, _, q => exact q.elim
      | .lst _, _, q => exact q.elim
      | .scr _, _, q => exact q.elim
      | .cell _, _, q => exact q.elim
      | .dct _ _, _, q => exact q.elim
      | .exn _ _, _, q => exact q.elim
  | .exn _ [], _, q => exact q.elim
  | .exn _ (_ :: _ :: _), _, q => exact q.elim
  | .non, _, q => exact q.elim
  | .bl _, _, q => exact q.elim
  | .int _, _, q => exact q.elim
  | .str _, _, q => exact q.elim
  | .tup _, _, q => exact q.elim
  | .lst _, _, q => exact q.elim
  | .scr _, _, q => exact q.elim
  | .dct _ _, _, q => exact q.elim
end
/-! ### tables, read off the module -/
abbrev XL := List (Str × Str)
abbrev OL := List (Str × List Str)
def cvT (xl : XL) (K : PySem.W.Frag) : Nat → Value × Str := fun n => match xl[n]? with
  | some q => (.ref (He.ga K q.1), q.2)
  | none => (.none, "")
def ctT (ol : OL) (K : PySem.W.Frag) : Nat → Addr × List Str := fun n => match ol[n]? with
  | some q => (He.ga K q.1, q.2)
  | none => (0, [])
abbrev mkT (xl : XL) (ol : OL) (K : PySem.W.Frag) (w : World) : KW := ⟨K, w, cvT xl K, ctT ol K⟩
def glB (K : PySem.W.Frag) (x : Str) : Bool := (He.Fa.glo x).ok K
def each {α : Type} (l : List α) (f : α → Nat → Bool) : Bool := l.zipIdx.all fun p => f p.1 p.2
theorem each_at {α : Type} {l : List α} {f : α → Nat → Bool} (h : each l f = true) {n : Nat} {a : α} (e : l[n]? = some a) : f a n = true :=
  List.all_eq_true.mp h (a, n) (List.mem_zipIdx_iff_getElem?.mpr e)
section
variable {K : PySem.W.Frag} {h : Heap} {mg : Str → Option Value} {xl : XL} {ol : OL} {w : World} {x B f : Str} {sub tx to : List Bool} {c : Nat} {xs : List Str}
def exmB (xl : XL) (x : Str) (sub : List Bool) : Ck := fun K => glB K x && each sub fun b n => match xl[n]? with
  | some q => decide (PySem.W.exmOne K (.ref (He.ga K q.1)) (.ref (He.ga K x)) = some b)
  | none => false
theorem exmB_ok (X : K.In h) (G : h.Ns mainGlobals mg) (e : exmB xl x sub K = true) : ExmAt (mkT xl ol K w) mg x sub := by
  obtain ⟨e1, e2⟩ := He.ba e
  refine ⟨_, He.glo_ok X G e1, fun n b hb => ?_⟩
  have z := each_at e2 hb
  show PySem.W.exmOne K (cvT xl K n).1 _ = _
  unfold cvT
  cases q : xl[n]? with
  | none => simp only [q] at z; cases z
  | some y => simp only [q] at z; exact of_decide_eq_true z
def rz0B (xl : XL) (x : Str) (c : Nat) : Ck := fun K => glB K x && (decide (xl[c]? = some (x, ("" : Str))) && (He.Fa.exc x).ok K)
theorem rz0B_ok (X : K.In h) (G : h.Ns mainGlobals mg) (e : rz0B xl x c K = true) : Rz0 (mkT xl ol K w) mg x c := by
  obtain ⟨e1, e2⟩ := He.ba e
  obtain ⟨e2, e3⟩ := He.ba e2
  obtain ⟨g1, g2, g3, g4⟩ := He.exc_ok e3
  refine ⟨_, He.glo_ok X G e1, ?_, g1, g2, g3, g4⟩
  show (cvT xl K c).1 = _
  unfold cvT
  rw [of_decide_eq_true e2]
def cfB (K : PySem.W.Frag) (C : Addr) : Bool := match PySem.W.findCls K (.ref C) (.type "type") "__init__" with
  | some (.val (.builtin s)) => decide (s = "ValueError.__init__")
  | _ => false
theorem cfB_ok {C : Addr} (h : cfB K C = true) : PySem.W.findCls K (.ref C) (.type "type") "__init__" = some (.val (.builtin "ValueError.__init__")) := by
  unfold cfB at h
  split at h
  · rename_i s e
    rw [e, of_decide_eq_true h]
  · cases h
def binB (K : PySem.W.Frag) (C : Addr) : Bool := PySem.W.readsIn K C (.type "type") && (decide (PySem.W.specialIn K (.ref C) "__getattribute__" = some (some (.builtin "type.__getattribute__"))) && cfB K C)
theorem binB_ok {C : Addr} (h : binB K C = true) : BIn K C := by
  obtain ⟨h1, h⟩ := He.ba h
  obtain ⟨h2, h3⟩ := He.ba h
  exact ⟨h1, of_decide_eq_true h2, cfB_ok h3⟩
def rz1B (xl : XL) (x B f : Str) (c : Nat) : Ck := fun K => glB K x && (glB K B && (decide (xl[c]? = some (x, f)) && (oexB K (He.ga K x) && (binB K (He.ga K B) && (fiB K (.ref (He.ga K x)) "__setattr__" (some (.builtin "object.__setattr__")) &&
  (decide (PySem.W.subIn K (.ref (He.ga K x)) (.type "BaseException") = some true) && (decide (PySem.W.typeIn K (.ref (He.ga K x)) = some (.type "type")) && (PySem.W.keepIn K (.ref (He.ga K x)) && (fiB K (.ref (He.ga K x)) f none &&
  (fiB K (.ref (He.ga K x)) "__init__" (some (.ref (He.fAd K (x, some "__init__")))) && decide (PySem.W.typeIn K (.ref (He.fAd K (x, some "__init__"))) = some (.type "function"))))))))))))
structure Rzz (K : PySem.W.Frag) (xl : XL) (x B f : Str) (c : Nat) (mg : Str → Option Value) : Prop where
  gx : mg x = some (.ref (He.ga K x))
  gB : mg B = some (.ref (He.ga K B))
  at_ : xl[c]? = some (x, f)
  ox : OexC K (He.ga K x)
  bi : BIn K (He.ga K B)
  no : PySem.W.findIn K (.ref (He.ga K x)) f = some none
  ii : PySem.W.findIn K (.ref (He.ga K x)) "__init__" = some (some (.ref (He.fAd K (x, some "__init__"))))
  ft : PySem.W.typeIn K (.ref (He.fAd K (x, some "__init__"))) = some (.type "function")
theorem rz1B_ok (X : K.In h) (G : h.Ns mainGlobals mg) (e : rz1B xl x B f c K = true) : Rzz K xl x B f c mg := by
  obtain ⟨e1, e⟩ := He.ba e
  obtain ⟨e2, e⟩ := He.ba e
  obtain ⟨e3, e⟩ := He.ba e
  obtain ⟨e4, e⟩ := He.ba e
  obtain ⟨e5, e⟩ := He.ba e
  obtain ⟨e6, e⟩ := He.ba e
  obtain ⟨e7, e⟩ := He.ba e
  obtain ⟨e8, e⟩ := He.ba e
  obtain ⟨e9, e⟩ := He.ba e
  obtain ⟨e10, e⟩ := He.ba e
  obtain ⟨e11, e12⟩ := He.ba e
  exact ⟨He.glo_ok X G e1, He.glo_ok X G e2, of_decide_eq_true e3, ⟨oexB_ok e4, fiB_ok e6, of_decide_eq_true e7, of_decide_eq_true e8, e9⟩, binB_ok e5, fiB_ok e10, fiB_ok e11, of_decide_eq_true e12⟩
theorem Rzz.mk1 {P : Program} {base : Heap} {fd : FuncData} {ps : List Str} (z : Rzz K xl x B f c mg) (F : FnOk P w K mg base (L2.CX P w) 1 (He.fAd K (x, some "__init__")) fd ps (spI K (He.ga K x) f)) (hb : Binds K fd ps []) : Rz1 P w (mkT xl ol K w) mg base 1 x c := by
  have e : cvT xl K c = (.ref (He.ga K x), f) := by
    unfold cvT
    rw [z.at_]
  refine ⟨_, _, fd, ps, z.gx, ?_, z.ox, ?_, z.ii, z.ft, ?_, hb⟩
  · show (cvT xl K c).1 = _
    rw [e]
  · show PySem.W.findIn K _ (cvT xl K c).2 = _
    rw [e]; exact z.no
  · show FnOk P w K mg base (L2.CX P w) 1 _ fd ps (spI K _ (cvT xl K c).2)
    rw [e]; exact F
def fldB (xl : XL) (ol : OL) (f : Str) (xf : List Bool) (of : List (Option Nat)) : Ck := fun K => (each xf fun b n => !b || match xl[n]? with
    | some q => decide (q.2 = f) && (xcfB K (He.ga K q.1) && fiB K (.ref (He.ga K q.1)) f none)
    | none => false) && each of fun oi n => match oi with
    | none => true
    | some i => match ol[n]? with
      | some q => decide (q.2[i]? = some f) && (decide q.2.Nodup && ((He.Fa.cls q.1).ok K && (He.Fa.noat q.1 f).ok K))
      | none => false
theorem fldB_ok {xf : List Bool} {of : List (Option Nat)} (e : fldB xl ol f xf of K = true) : FldAt (mkT xl ol K w) f xf of := by
  obtain ⟨e1, e2⟩ := He.ba e
  refine ⟨fun c hc => ?_, fun c i hc => ?_⟩
  · have z := each_at e1 hc
    show ∃ C, cvT xl K c = _ ∧ _
    unfold cvT
    cases q : xl[c]? with
    | none => simp [q] at z
    | some y =>
      simp only [q, Bool.not_true, Bool.false_or] at z
      obtain ⟨z1, z2⟩ := He.ba z
      obtain ⟨z2, z3⟩ := He.ba z2
      exact ⟨_, by rw [← of_decide_eq_true z1], xcfB_ok z2, fiB_ok z3⟩
  · have z := each_at e2 hc
    show (ctT ol K c).2[i]? = _ ∧ (ctT ol K c).2.Nodup ∧ Cls K (ctT ol K c).1 ∧ NoAttr K (ctT ol K c).1 f
    unfold ctT
    cases q : ol[c]? with
    | none => simp [q] at z
    | some y =>
      simp only [q] at z
      obtain ⟨z1, z2⟩ := He.ba z
      obtain ⟨z2, z3⟩ := He.ba z2
      obtain ⟨z3, z4⟩ := He.ba z3
      exact ⟨of_decide_eq_true z1, of_decide_eq_true z2, He.cls_ok z3, He.noat_ok z4⟩
/-- what a class's name stands for -/
def nmV (K : PySem.W.Frag) (x : Str) : Option Value := match PySem.W.nsIn K mainGlobals x with
  | some (some (.ref a)) => some (.ref a)
  | some none => (match bootBuiltins x with
    | some (.type T) => if x = "__name__" then none else some (.type T)
    | _ => none)
  | _ => none
theorem nmV_ok (X : K.In h) (G : h.Ns mainGlobals mg) {u : Value} (e : nmV K x = some u) : (∃ C : Addr, mg x = some (.ref C) ∧ u = .ref C) ∨ ∃ T : String, mg x = none ∧ bootBuiltins x = some (.type T) ∧ x ≠ "__name__" ∧ u = .type T := by
  unfold nmV at e
  split at e
  · rename_i a q
    cases e
    exact .inl ⟨a, PySem.W.mg_of X G q, rfl⟩
  · rename_i q
    split at e
    · rename_i T b
      split at e
      · cases e
      · rename_i hn
        cases e
        exact .inr ⟨T, PySem.W.mg_none_of X G q, b, hn, rfl⟩
    · cases e
  · cases e
def nmAll (K : PySem.W.Frag) : List Str → Option (List Value)
  | [] => some []
  | x :: xs => match nmV K x, nmAll K xs with
    | some u, some us => some (u :: us)
    | _, _ => none
theorem nmAll_at : ∀ {xs : List Str} {us : List Value}, nmAll K xs = some us → xs.length = us.length ∧ ∀ (i : Nat) (x : Str) (u : Value), xs[i]? = some x → us[i]? = some u → nmV K x = some u
  | [], _, e => by
    cases e
    exact ⟨rfl, fun i x u h => by simp at h⟩
  | x :: xs, us, e => by
    unfold nmAll at e
    split at e
    · rename_i u us' e1 e2
      cases e
      obtain ⟨h1, h2⟩ := nmAll_at e2
      refine ⟨by simp [h1], fun i y v g1 g2 => ?_⟩
      cases i with
      | zero =>
        simp at g1 g2
        subst g1 g2
        exact e1
      | succ i => exact h2 i y v (by simpa using g1) (by simpa using g2)
    · cases e
def isxB (xl : XL) (ol : OL) (xs : List Str) (tx to : List Bool) : Ck := fun K => match nmAll K xs with
  | some us => (each tx fun b n => match xl[n]? with
      | some q => xcfB K (He.ga K q.1) && decide (PySem.W.kitAny K (.ref (He.ga K q.1)) us = some b)
      | none => false) && ((each to fun b n => match ol[n]? with
      | some q => (He.Fa.cls q.1).ok K && (ocB K (He.ga K q.1) && decide (PySem.W.kitAny K (.ref (He.ga K q.1)) us = some b))
      | none => false) && kdAll.all fun k => decide (PySem.W.kitAny K (.type k.tyN) us = some false))
  | none => false
theorem isxB_ok (X : K.In h) (G : h.Ns mainGlobals mg) (e : isxB xl ol xs tx to K = true) : IsxAt (mkT xl ol K w) mg xs tx to := by
  unfold isxB at e
  split at e
  · rename_i us hu
    obtain ⟨e1, e⟩ := He.ba e
    obtain ⟨e2, e3⟩ := He.ba e
    obtain ⟨g1, g2⟩ := nmAll_at hu
    refine ⟨us, g1, fun i x u h1 h2 => nmV_ok X G (g2 i x u h1 h2), fun c b hb => ?_, fun c b hb => ?_, fun k hk => of_decide_eq_true (List.all_eq_true.mp e3 k hk)⟩
    · have z := each_at e1 hb
      show ∃ C, (cvT xl K c).1 = _ ∧ _
      unfold cvT
      cases q : xl[c]? with
      | none => simp [q] at z
      | some y =>
        simp only [q] at z
        obtain ⟨z1, z2⟩ := He.ba z
        exact ⟨_, rfl, xcfB_ok z1, of_decide_eq_true z2⟩
    · have z := each_at e2 hb
      show Cls K (ctT ol K c).1 ∧ ocB K (ctT ol K c).1 = true ∧ PySem.W.kitAny K (.ref (ctT ol K c).1) us = _
      unfold ctT
      cases q : ol[c]? with
      | none => simp [q] at z
      | some y =>
        simp only [q] at z
        obtain ⟨z1, z2⟩ := He.ba z
        obtain ⟨z2, z3⟩ := He.ba z2
        exact ⟨He.cls_ok z1, z2, of_decide_eq_true z3⟩
  · cases e
end
/-! what is told of classes goes into every context -/
section
variable {X : Cx} {Q : Pm} {P : Program} {w : World} {K : KW} {mg : Str → Option Value} {base : Heap} {cv : Nat → Value × Str} {x f : Str} {sub tx to xf : List Bool} {of : List (Option Nat)} {xs : List Str} {c k : Nat}
theorem Same.exm (s : Same X Q P w K mg base cv) (z : ExmAt K mg x sub) : ExmAt Q.K X.mg x sub := by rw [← s.mg, ← s.K]; exact z
theorem Same.isx (s : Same X Q P w K mg base cv) (z : IsxAt K mg xs tx to) : IsxAt Q.K X.mg xs tx to := by rw [← s.mg, ← s.K]; exact z
theorem Same.fld (s : Same X Q P w K mg base cv) (z : FldAt K f xf of) : FldAt Q.K f xf of := by rw [← s.K]; exact z
theorem Same.rz0 (s : Same X Q P w K mg base cv) (z : Rz0 K mg x c) : Rz0 Q.K X.mg x c := by rw [← s.mg, ← s.K]; exact z
theorem Same.rz1 (s : Same X Q P w K mg base cv) (z : Rz1 P w K mg base k x c) : Rz1 X.prog X.w Q.K X.mg X.base k x c := by
  obtain ⟨e1, e2, e3, e4, e5, e6⟩ := s
  subst e1 e2 e3 e4 e5 e6
  exact z
end
/-! ### X.index(z), X a tuple of texts of the module -/
structure GlobT (K : KW) (mg : Str → Option Value) (x : Str) (d : List (List Nat)) : Prop where
  ex : ∃ (a : Addr) (o : Obj), mg x = some (.ref a) ∧ K.fr.lookup a = some o ∧ o.cls = .type "tuple" ∧ o.dict = none ∧ ∀ H : Hp, SqT K.fr H a ((d.map SX.S).map V.str)
def placeS (z : List Nat) : List (List Nat) → Option Nat
  | [] => none
  | y :: r => if y = z then some 0 else (placeS z r).map (· + 1)
theorem placeS_of {z : List Nat} : ∀ {ys : List (List Nat)} {j : Nat}, placeS z ys = some j → ys[j]? = some z ∧ ∀ m, m < j → ys[m]? ≠ some z
  | [], _, h => nomatch h
  | y :: r, j, h => by
    unfold placeS at h
    by_cases e : y = z
    · rw [if_pos e] at h
      cases h
      exact ⟨by simp [e], fun m hm => absurd hm (Nat.not_lt_zero _)⟩
    · rw [if_neg e] at h
      obtain ⟨i, hi, rfl⟩ := Option.map_eq_some_iff.mp h
      obtain ⟨h1, h2⟩ := placeS_of hi
      refine ⟨by simpa using h1, fun m hm q => ?_⟩
      cases m with
      | zero => simp at q; exact e q
      | succ m => exact h2 m (by omega) (by simpa using q)
theorem sx_inj {u w : List Nat} (h : SX.S u = ⟨w.toArray⟩) : u = w := by
  have := congrArg (fun s : Str => s.cps.toList) h
  simpa [SX.S] using this
def tixD (ys : List (List Nat)) : List D → M OD
  | [.str z] => optM (placeS z ys) fun (j : Nat) => gives (.int j)
  | _ => M.err
theorem t_tix {X : Cx} {P : Pm} {k : Nat} {x : Str} {d : List (List Nat)} {e : Expr} {os : M (List Opd)} {p apos cpos : Pos} (o : Ok k X P) (gx : Gn X x) (z : GlobT P.K X.mg x d) (ha : PA X [e] (tmG P (relPL P) os)) (hs : isStar e = false) (hline : (apos.endLine == cpos.line) = true) :
    PE X (.Call (.Attribute (.Name x p) "index" apos) [e] [] cpos) (tmO P (biM os (tixD d))) := by
  obtain ⟨a, ob, hm, lk, hc, hd, sq⟩ := z.ex
  rw [← o.hK] at lk sq
  refine (pe_bm PySem.F.plainAttrs_tuple PySem.F.slot_tuple_index PySem.F.type_tuple_index mt_tup_index (pe_glob (v := .ref a) gx.g hm rfl gx.d) ha (base0 rfl) (fewB (by simp [hs]) (by simp)) hline (star1 hs) (by rfl)).imp fun σ H Q q => ?_
  refine ⟨.inr (.inl ⟨rfl, ob, lk, hc, hd⟩), tm_imp (tm_bind (rel1 := relPL P) q) fun vs H1 ⟨G, ρ, S, xs, r, w, q⟩ => ?_⟩
  obtain ⟨ds, ps, q⟩ := resL_of r (fun ds => tixD d ds) w q
  unfold tixD at q
  split at q
  · obtain ⟨y, rfl, w2⟩ := ps.one
    obtain ⟨rfl, _⟩ := w2.str
    obtain ⟨j, hj, q⟩ := post_opt q
    obtain ⟨h1, h2⟩ := placeS_of hj
    refine ⟨a, d.map SX.S, _, j, rfl, rfl, sq H1, by rw [List.getElem?_map, h1]; rfl, fun m hm' z => ?_, post_gives q r (.int _)⟩
    rw [List.getElem?_map] at z
    obtain ⟨u, hu, e2⟩ := Option.map_eq_some_iff.mp z
    exact h2 m hm' (by rw [hu, sx_inj e2])
  · exact q.elim
def gtB (K : PySem.W.Frag) (x : Str) (d : List (List Nat)) : Bool := match PySem.W.nsIn K mainGlobals x with
  | some (some (.ref a)) => (match K.lookup a with
    | some ⟨.type c, none, .seq its _, _⟩ => decide (c = "tuple") && (decide (its.size ≤ sizeLine) && valsB K (d.map .str) its.toList)
    | _ => false)
  | _ => false
theorem gtB_ok {K : PySem.W.Frag} {h : Heap} {mg : Str → Option Value} {xl : XL} {ol : OL} {w : World} {x : Str} {d : List (List Nat)} (X : K.In h) (G : h.Ns mainGlobals mg) (e : gtB K x d = true) : GlobT (mkT xl ol K w) mg x d := by
  unfold gtB at e
  split at e
  · rename_i a q
    split at e
    · rename_i c its n sl lk
      obtain ⟨h1, h2⟩ := He.ba e
      obtain ⟨h3, h4⟩ := He.ba h2
      obtain ⟨vs, r, rl⟩ := valsB_ok (K := mkT xl ol K w) h4
      have e2 := (rl ⟨fun _ => none, []⟩).strs.1
      refine ⟨a, _, PySem.W.mg_of X G q, lk, congrArg Value.type (of_decide_eq_true h1), rfl, fun H => ?_⟩
      rw [← e2]
      exact .inr ⟨_, its, n, lk, congrArg Value.type (of_decide_eq_true h1), rfl, of_decide_eq_true h3, r⟩
    · cases e
  · cases e
theorem Same.glt {X : Cx} {Q : Pm} {P : Program} {w : World} {K : KW} {mg : Str → Option Value} {base : Heap} {cv : Nat → Value × Str} {x : Str} {d : List (List Nat)} (s : Same X Q P w K mg base cv) (z : GlobT K mg x d) : GlobT Q.K X.mg x d := by rw [← s.mg, ← s.K]; exact z
/-! ### letters and figures -/
def abcL : List Nat := [97, 98, 99, 100, 101, 102, 103, 104, 105, 106, 107, 108, 109, 110, 111, 112, 113, 114, 115, 116, 117, 118, 119, 120, 121, 122]
def figL : List Nat := [48, 49, 50, 51, 52, 53, 54, 55, 56, 57]
end Mi

namespace Mi
open PySem PySem.Spec PyProof.Rows L2
/-! ### own classes: instances made, methods -/
/-- C() where there is no __init__ but object's -/
theorem run_make0 {X : Cx} {C : Addr} {pins : List (Addr × Obj)} {σ : L2.St} {H : Hp} {s : Shared} {Q : VK} (hm : PySem.W.makesIn X.K C = true) (hi : PySem.W.findIn X.K (.ref C) "__init__" = some (some (.builtin "object.__init__"))) (I : Inv X pins σ H s)
    (h : ∀ x dx, H x = none → H dx = none → dx ≠ x → Q (.ref x) (upd (upd H dx (.own x)) x (.ins C dx []))) : wpAny (model X.prog X.w) X.A (call (.ref C) []) (EP X pins σ Q) X.xe s := by
  have hq := h (s.heap.objs.size + 1) s.heap.objs.size (I.hok.fresh (Nat.le_succ _)) (I.hok.fresh (Nat.le_refl _)) (Nat.ne_of_lt (Nat.lt_succ_self _))
  have I2 := Inv.made (C := C) I
  have Y := PySem.W.makes_of (M := model X.prog X.w) I.kIn hm
  refine wpAny_call (make_map0 I.kIn hm hi (fun self => PySem.W.Looks.of_pure (PySem.W.oi_bind self)) ?_)
  have e1 : ((s.heap.push PySem.W.emptyDict).push (PySem.W.instObj C s.heap.objs.size)).get? (s.heap.objs.size + 1) = some (PySem.W.instObj C s.heap.objs.size) := by
    have := Heap.get?_push_size (s.heap.push PySem.W.emptyDict) (o := PySem.W.instObj C s.heap.objs.size) rfl
    rwa [Heap.size_push] at this
  have t1 : PySem.W.Looks (model X.prog X.w) ((s.heap.push PySem.W.emptyDict).push (PySem.W.instObj C s.heap.objs.size)) (typeOf (.ref (s.heap.objs.size + 1))) (.ref C) := (PySem.W.Looks.ld e1).andThen .now
  have t2 : PySem.W.Looks (model X.prog X.w) ((s.heap.push PySem.W.emptyDict).push (PySem.W.instObj C s.heap.objs.size)) (isInstance (.ref (s.heap.objs.size + 1)) (.type "object")) true := t1.andThen (Y.top.keeps fun b o e => Heap.get?_push_of_some _ (Heap.get?_push_of_some _ e))
  refine codeAny_call_builtin PySem.W.oi_plain PySem.W.entry_oi (@PySem.W.check_slot (model X.prog X.w) _ _ _ "object.__init__" "object" "__init__" (.ref (s.heap.objs.size + 1)) [] [] _ PySem.W.oi_kind PySem.W.oi_split t2 (PySem.W.oi_args (.ref (s.heap.objs.size + 1))) ?_)
  rw [PySem.W.oi_run]
  exact wpAny_pure (And.intro rfl ⟨V.ref (s.heap.objs.size + 1), _, I2, rfl, hq⟩)
theorem pe_mk0 {X : Cx} {C : Addr} {x : Str} {p pos : Pos} (hm : PySem.W.makesIn X.K C = true) (hi : PySem.W.findIn X.K (.ref C) "__init__" = some (some (.builtin "object.__init__"))) (kp : PySem.W.keepIn X.K (.ref C) = true) (hg : Gl X x) (hx : X.mg x = some (.ref C)) (hdb : (x == ("__debug__" : Str)) = false) :
    PE X (.Call (.Name x p) [] [] pos) (fun σ H Q => ∀ x dx, H x = none → H dx = none → dx ≠ x → Q (.ref x) (upd (upd H dx (.own x)) x (.ins C dx []))) := by
  refine ⟨fun pins s σ H Q I h => ?_⟩
  refine wpAny_Call_Name_kw (ld_glob I hg hx ?_ hdb)
  exact PySem.W.callWith_K0 I.kIn kp (run_make0 hm hi I h)
/-- an __init__ that stores its parameters, each to a field -/
def spIni (C : Addr) (names : List Str) : Sp := fun vs H Q _ => ∃ (a dx : Addr) (us : List V), vs = .ref a :: us ∧ us.length = names.length ∧ H a = some (.ins C dx []) ∧ Q .non (upd H a (.ins C dx (names.zip us)))
inductive IniL (X : Cx) : Nat → List Str → List Stmt → Prop
  | nil {i : Nat} : IniL X i [] []
  | cons {i : Nat} {f x sf : Str} {p1 p2 p3 p4 : Pos} {fs : List Str} {rest : List Stmt} (s : At X 0 sf) (a : At X i x) (r : IniL X (i + 1) fs rest) : IniL X i (f :: fs) (.Assign [.Attribute (.Name sf p1) f p2] (.Name x p3) p4 :: rest)
theorem upd_id {H : Hp} {a : Addr} {o : HO} (h : H a = some o) : upd H a o = H := by
  funext b
  by_cases hb : b = a
  · subst hb; rw [upd_same, h]
  · rw [upd_ne hb]
theorem putF_new {f : Str} {v : V} : ∀ {fs : List (Str × V)}, f ∉ fs.map (·.1) → putF f v fs = fs ++ [(f, v)]
  | [], _ => rfl
  | (g, x) :: r, h => by
    rw [List.map_cons, List.mem_cons, not_or] at h
    show (if g = f then (g, v) :: r else (g, x) :: putF f v r) = _
    rw [if_neg (fun z => h.1 z.symm), putF_new h.2]
    rfl
theorem ini_pss {X : Cx} {C : Addr} (c : Cls X.K C) {i : Nat} {fs : List Str} {body : List Stmt} (b : IniL X i fs body) : (∀ f ∈ fs, NoAttr X.K C f) → fs.Nodup →
    ∃ t, PSs X body t ∧ ∀ (D : Ends) (σ : L2.St) (H : Hp) (a dx : Addr) (done : List (Str × V)) (us : List V), σ[0]? = some (some (V.ref a)) → H a = some (.ins C dx done) → us.length = fs.length → (∀ j, j < fs.length → σ[i + j]? = some (us[j]?)) → (∀ f ∈ fs, f ∉ done.map (·.1)) → done.length + fs.length < 1000 →
      D.nx σ (upd H a (.ins C dx (done ++ fs.zip us))) → t D σ H := by
  induction b with
  | nil =>
    intro _ _
    refine ⟨_, pss_nil, fun D σ H a dx done us _ ha _ _ _ _ q => ?_⟩
    simp only [List.zip_nil_left, List.append_nil] at q
    rw [upd_id ha] at q
    exact q
  | @cons i f x sf p1 p2 p3 p4 fs rest s at_ r ih =>
    intro hn hd
    rw [List.nodup_cons] at hd
    obtain ⟨t, ht, hr⟩ := ih (fun g hg => hn g (List.mem_cons_of_mem _ hg)) hd.2
    refine ⟨_, pss_cons (ps_fld (pe_var s.N s.v s.d s.c) (pe_var at_.N at_.v at_.d at_.c) (sw0 rfl)) ht, fun D σ H a dx done us h0 ha hl hu hf hz q => ?_⟩
    cases us with
    | nil => simp at hl
    | cons u us =>
      have hu0 := hu 0 (by simp)
      simp only [Nat.add_zero, List.getElem?_cons_zero] at hu0
      refine ⟨u, hu0, .ref a, h0, a, C, dx, done, rfl, ha, c, hn f List.mem_cons_self, by omega, ?_⟩
      rw [putF_new (hf f List.mem_cons_self)]
      refine hr D σ _ a dx (done ++ [(f, u)]) us h0 upd_same (by simpa using hl) (fun j hj => ?_) (fun g hg => ?_) (by simp at hz ⊢; omega) ?_
      · have := hu (j + 1) (by simp; omega)
        rw [List.getElem?_cons_succ] at this
        rw [← this]
        congr 1
        omega
      · rw [List.map_append, List.mem_append, not_or]
        refine ⟨hf g (List.mem_cons_of_mem _ hg), ?_⟩
        simp
        intro z
        subst z
        exact hd.1 hg
      · rw [upd_upd]
        simpa using q
theorem ini_ok {P : Program} {w : World} {K : PySem.W.Frag} {mg : Str → Option Value} {base : Heap} {qual : Str} {params : Arguments} {body : List Stmt} {scope : Scope} {f C : Addr} {fd : FuncData} {names N : List Str}
    (F : FunD K "__init__" qual params body scope [] [] f fd) (Sc : FnScope N N scope) (hN : N.length = names.length + 1) (c : Cls K C) (hn : ∀ f ∈ names, NoAttr K C f) (hd : names.Nodup) (hz : names.length < 1000)
    (hb : ∀ X : Cx, Cxt X N scope fl1 → IniL X 1 names body) : FnOk P w K mg base (L2.CX P w) 1 f fd N (spIni C names) := by
  refine F.ok Sc (fun vs H Q E ⟨a, dx, us, e, hl, _⟩ => by rw [e, hN]; simp [hl]) fun cdv A outer s H vs Q E hr ⟨a, dx, us, e, hl, ha, q⟩ => ?_
  obtain ⟨t, ht, hr⟩ := ini_pss (X := cxOf (L2.CX P w) P w K mg base N qual scope f cdv A outer s H E) c (hb _ ⟨rfl, rfl, rfl⟩) hn hd
  subst e
  have hs : ∀ j, j ≤ us.length → (start N (V.ref a :: us))[j]? = some ((V.ref a :: us)[j]?) := fun j hj => by
    have : start N (V.ref a :: us) = (V.ref a :: us).map some ++ List.replicate (N.length - (V.ref a :: us).length) none := rfl
    rw [this, List.getElem?_append_left (by simp; omega), List.getElem?_map]
    have hj2 : j < (V.ref a :: us).length := by simp; omega
    rw [List.getElem?_eq_getElem hj2]
    rfl
  refine ⟨t, ht, hr _ _ H a dx [] us (hs 0 (by omega)) ha hl (fun j hj => ?_) (by simp) (by simpa using hz) (by simpa using q)⟩
  have := hs (1 + j) (by omega)
  rw [this]
  congr 1
  rw [Nat.add_comm, List.getElem?_cons_succ]
/-- a class whose instances bear what they are made of -/
structure NewAt (P : Program) (w : World) (K : KW) (mg : Str → Option Value) (base : Heap) (x : Str) (c n : Nat) : Prop where
  nn : (K.ct c).2.length = n
  gm : mg x = some (.ref (K.ct c).1)
  made : ∃ f fd ps, Mk K.fr (K.ct c).1 f ∧ FnOk P w K.fr mg base (L2.CX P w) 1 f fd ps (spIni (K.ct c).1 (K.ct c).2) ∧ Binds K.fr fd ps []
structure New0At (K : KW) (mg : Str → Option Value) (x : Str) (c : Nat) : Prop where
  gm : mg x = some (.ref (K.ct c).1)
  made : PySem.W.makesIn K.fr (K.ct c).1 = true
  ini : PySem.W.findIn K.fr (.ref (K.ct c).1) "__init__" = some (some (.builtin "object.__init__"))
  kp : PySem.W.keepIn K.fr (.ref (K.ct c).1) = true
def newV (c n : Nat) (ms : M (List D)) : M OD := do
  let ds ← ms
  if ds.length = n then fresh (.obj c ds) else M.err
section
variable {X : Cx} {P : Pm} {k c n : Nat} {x : Str} {p pos : Pos} {e : Expr} {es : List Expr} {ms : M (List D)} {G : Gh} {ρ : Rho} {S : List D} {σ : L2.St} {H : Hp}
theorem R.newObj (r : R P.K P.b G ρ S σ H) {a dx : Addr} {vs : List V} {ds : List D} (ha : H a = none) (hdx : H dx = none) (ne : dx ≠ a) (hl : vs.length ≤ (P.K.ct c).2.length) (l : RepL P.K G.F G.ι vs ds) :
    R P.K P.b G ρ S σ (upd (upd H dx (.own a)) a (.ins (P.K.ct c).1 dx ((P.K.ct c).2.zip vs))) ∧ VOk P.K P.b G ρ σ (upd (upd H dx (.own a)) a (.ins (P.K.ct c).1 dx ((P.K.ct c).2.zip vs))) true (.obj c ds) (.ref a) := by
  have r1 := r.new hdx (.own a)
  have ha1 : upd H dx (.own a) a = none := by rw [upd_ne (Ne.symm ne)]; exact ha
  exact ⟨r1.new ha1 _, ⟨fun z => (nomatch z), fun _ => ⟨a, rfl, ⟨_, upd_same, .ins hl l⟩, r1.loose ha1, r1.noVar ha1⟩⟩⟩
theorem t_new {j : Nat} (o : Ok k X P) (z : NewAt X.prog X.w P.K X.mg X.base x c n) (hj : 2 ≤ k) (gn : Gn X x) (ha : PA X (e :: es) (tmL P ms)) (hs : (e :: es).all (fun e => !isStar e) = true) : PE X (.Call (.Name x p) (e :: es) [] pos) (tmO P (newV c n ms)) := by
  obtain ⟨f, fd, ps, M, F, hb⟩ := z.made
  rw [← o.hK] at M F hb
  simp only [List.all_cons, Bool.and_eq_true, Bool.not_eq_true'] at hs
  refine (pe_make (E := fun _ _ _ => False) M F (o.room.mono hj) gn.g z.gm hb .nil (fun _ _ _ _ _ _ _ ⟨a, B, H', cls, d, _, _, _, _, _, _, _, z⟩ => z.elim) ha gn.d (star1 hs.1) (star0 hs.2)).imp fun σ H Q q => ?_
  refine tm_imp (tm_bind (rel1 := relL P) q) fun vs H1 ⟨G1, ρ1, S1, ds, r, w, q1⟩ => ?_
  obtain ⟨hl, q1⟩ := post_if q1
  intro a dx h1 h2 h3
  have w : RepL P.K G1.F G1.ι vs ds := w
  have hvl : vs.length = (P.K.ct c).2.length := by rw [w.length, hl, z.nn]
  refine ⟨a, dx, vs, by rw [List.append_nil], hvl, upd_same, rfl, ?_⟩
  rw [upd_upd]
  obtain ⟨r2, w2⟩ := r.newObj (c := c) h1 h2 h3 (by omega) w
  exact q1 _ _ G1 (Gh.le.refl _) r2 w2
theorem t_new0 (o : Ok k X P) (z : New0At P.K X.mg x c) (gn : Gn X x) : PE X (.Call (.Name x p) [] [] pos) (tmO P (newV c 0 (pure []))) := by
  have mk := z.made
  have ini := z.ini
  have kp := z.kp
  rw [← o.hK] at mk ini kp
  refine (pe_mk0 mk ini kp gn.g z.gm gn.d).imp fun σ H Q ⟨G, ρ, S, r, q⟩ => ?_
  intro a dx h1 h2 h3
  obtain ⟨r2, w2⟩ := r.newObj (c := c) (vs := []) (ds := []) h1 h2 h3 (by simp) .nil
  rw [List.zip_nil_right] at r2 w2
  exact q _ _ G (Gh.le.refl _) r2 w2
end
/-! ### methods, by the receiver's class -/
structure MethAt (P : Program) (w : World) (K : KW) (mg : Str → Option Value) (base : Heap) (cv : Nat → Value × Str) (k : Nat) (m : Str) (n : Nat) (tbl : List (Option Fn)) : Prop where
  at_ : ∀ c g, tbl[c]? = some (some g) → m ∉ (K.ct c).2 ∧ Cls K.fr (K.ct c).1 ∧ ∃ f fd ps, Meth K.fr (K.ct c).1 m f ∧ ps.length = n + 1 ∧ FnG P w K.fr mg base (L2.CX P w) k f fd ps (spF K cv g (n + 1)) ∧ Binds K.fr fd ps []
def clsOf (d : D) (S : List D) : Option Nat := match d with
  | .obj c _ => some c
  | .cell j => (match S[j]? with
    | some (.obj c _) => some c
    | _ => none)
  | _ => none
def callK (n : Nat) (g : Fn) (ds : List D) : M OD := fun ρ S => if ds.length = n then (match g ds S with
    | .ok x _ S' => .ok x ρ S'
    | .exc c vs _ S' => .exc c vs ρ S'
    | .err => .err) else .err
def methM (n : Nat) (tbl : List (Option Fn)) (m : M OD) (ms : M (List D)) : M OD := do
  let x ← m.val
  fun ρ S => match clsOf x S with
    | some c => (match tbl[c]? with
      | some (some g) => callM (n + 1) g (do let ds ← ms; pure (x :: ds)) ρ S
      | _ => .err)
    | none => .err
section
variable {X : Cx} {P : Pm} {k n : Nat} {y : Str} {p apos pos : Pos} {o e : Expr} {es : List Expr} {m : M OD} {ms : M (List D)} {tbl : List (Option Fn)}
theorem lookup_zip {m : Str} : ∀ {names : List Str} {vs : List V}, m ∉ names → (names.zip vs).lookup m = none
  | [], _, _ => rfl
  | _ :: _, [], _ => rfl
  | n :: ns, v :: vs, h => by
    rw [List.mem_cons, not_or] at h
    rw [List.zip_cons_cons]
    have hb : (m == n) = false := beq_eq_false_iff_ne.mpr h.1
    simp only [List.lookup, hb]
    exact lookup_zip h.2
theorem cls_at {K : KW} {G : Gh} {b : Bs} {ρ : Rho} {S : List D} {σ : L2.St} {H : Hp} (r : R K b G ρ S σ H) {d : D} {v : V} (w : Rep K G.F G.ι v d) {c : Nat} (h : clsOf d S = some c) : ∃ a dx vs, v = .ref a ∧ H a = some (.ins (K.ct c).1 dx ((K.ct c).2.zip vs)) := by
  cases d with
  | obj c' fs =>
    simp only [clsOf, Option.some.injEq] at h
    subst h
    cases w with
    | ob q w =>
      cases w with
      | ins hl l => exact ⟨_, _, _, rfl, r.fr _ _ q⟩
  | cell j =>
    simp only [clsOf] at h
    split at h
    · rename_i c' fs e
      cases h
      obtain ⟨a, rfl, ea⟩ := w.toCell
      obtain ⟨a', e1, ⟨u, q, ow⟩, _⟩ := r.cl j _ e
      rw [ea] at e1
      cases e1
      cases ow with
      | ins hl l => exact ⟨_, _, _, rfl, q⟩
    · cases h
  | _ => cases h
theorem meth_of {σ : L2.St} {H : Hp} {Q : VK} (q : tmO P (methM n tbl m ms) σ H Q) : tmV P m.val σ H fun x H1 => ∃ a c g dx vs, x = .ref a ∧ tbl[c]? = some (some g) ∧ H1 a = some (.ins (P.K.ct c).1 dx ((P.K.ct c).2.zip vs)) ∧
    tmL P ms σ H1 fun us H2 => spF P.K P.cv g (n + 1) (.ref a :: us) H2 Q (WE P.W σ) := by
  refine tm_imp (tm_bind (rel1 := relV P) q) fun v H1 ⟨G1, ρ1, S1, x, r, w, q1⟩ => ?_
  have w : Rep P.K G1.F G1.ι v x := w
  replace q1 : Post P (relO P) G1 σ (match clsOf x S1 with
    | some c => (match tbl[c]? with
      | some (some g) => callM (n + 1) g (do let ds ← ms; pure (x :: ds)) ρ1 S1
      | _ => .err)
    | none => .err) Q := q1
  cases hc : clsOf x S1 with
  | none => rw [hc] at q1; exact q1.elim
  | some c =>
    rw [hc] at q1
    dsimp only at q1
    cases ht : tbl[c]? with
    | none => rw [ht] at q1; exact q1.elim
    | some og =>
      cases og with
      | none => rw [ht] at q1; exact q1.elim
      | some g =>
        rw [ht] at q1
        dsimp only at q1
        obtain ⟨a, dx, vs, rfl, ea⟩ := cls_at r w hc
        refine ⟨a, c, g, dx, vs, rfl, ht, ea, ?_⟩
        have e : callM (n + 1) g (ms >>= fun ds => pure (x :: ds)) = (ms >>= fun ds => callK (n + 1) g (x :: ds)) := by
          funext ρ S
          show M.bnd (M.bnd ms fun ds => M.pur (x :: ds)) _ ρ S = M.bnd ms (fun ds => callK (n + 1) g (x :: ds)) ρ S
          unfold M.bnd M.pur callK
          cases ms ρ S <;> rfl
        rw [e] at q1
        refine tm_imp (tm_at (rel1 := relL P) r q1) fun us H2 ⟨G2, ρ2, S2, ds, r2, wl, le, q2⟩ => ?_
        have wl : RepL P.K G2.F G2.ι us ds := wl
        by_cases hl : (x :: ds).length = n + 1
        · refine ⟨G2, S2, x :: ds, r2.into, .cons (w.mono le) wl, hl, ?_⟩
          unfold callK at q2
          simp only [if_pos hl] at q2
          cases eg : g (x :: ds) S2 with
          | ok y ρ' S' =>
            rw [eg] at q2
            intro v H' G' le' r' w'
            obtain ⟨r3, l3⟩ := r2.behind r'
            exact q2 v H' G' le' r3 (VOk.behind r2 w')
          | exc c xs ρ' S' =>
            rw [eg] at q2
            intro cls dd H' G' le' r' w'
            obtain ⟨r3, l3⟩ := r2.behind r'
            exact q2 cls dd H' G' le' r3 (XRep.cast (P := pmF P.K P.cv H2 G2 (WE P.W σ)) rfl (fun p hp => r2.newB hp) w')
          | err => rw [eg] at q2; exact q2
        · unfold callK at q2
          simp only [if_neg hl] at q2
          exact q2.elim
theorem t_meth {j : Nat} (ok : Ok k X P) (z : MethAt X.prog X.w P.K X.mg X.base P.cv j y n tbl) (hj : j ≤ k) (ho : PE X o (tmO P m)) (ha : PA X (e :: es) (tmL P ms)) (hs : (e :: es).all (fun e => !isStar e) = true) {pl : Sem Bool}
    (ht : eval (.Call (.Attribute o y apos) (e :: es) [] pos) X.env = (do
      let ov ← eval o X.env
      standAt apos.atName
      let (f, first) ← holding [ov] (getMethod ov y pl)
      callWith pos f first (backTo pos (starEach (e :: es) X.env)) (backToKw pos (keywordEach [] X.env)))) :
    PE X (.Call (.Attribute o y apos) (e :: es) [] pos) (tmO P (methM n tbl m ms)) := by
  simp only [List.all_cons, Bool.and_eq_true, Bool.not_eq_true'] at hs
  refine ⟨fun pins s σ H Q I q => ?_⟩
  refine PySem.W.methodCall_KW (pl := pl) (thn ((PE.val ho).run pins s σ H _ I (meth_of q)) fun u s1 ⟨x, H1, I1, rx, a, c, g, dx, vs, ex, et, ea, q1⟩ => ?_) ht
  subst ex
  obtain rfl : u = Value.ref a := rx
  obtain ⟨hn, hc, f, fd, ps, hm, hps, F, hb⟩ := z.at_ c g et
  rw [← ok.hK] at hc hm F hb
  refine getmeth_ok I1 ea hc hm (lookup_zip hn) ?_
  refine PySem.W.callWith_K (first := [.ref a]) (h₀ := X.base) I.ok.mod.kin hm.kp (thn (ha.run pos pins s1 σ H1 _ I1 q1) fun us s2 ⟨us', H2, I2, r, q2⟩ => ⟨I2.kIn, ?_⟩) (star1 hs.1) (star0 hs.2)
  exact run_g (us := .ref a :: us) (vs := .ref a :: us') (F.mono hj) ok.room ok.gd hb (passAt ok.tk σ) I2 (.cons rfl r) q2
theorem t_meth0 {j : Nat} (ok : Ok k X P) (z : MethAt X.prog X.w P.K X.mg X.base P.cv j y 0 tbl) (hj : j ≤ k) (ho : PE X o (tmO P m)) {pl : Sem Bool}
    (ht : eval (.Call (.Attribute o y apos) [] [] pos) X.env = (do
      let ov ← eval o X.env
      standAt apos.atName
      let (f, first) ← holding [ov] (getMethod ov y pl)
      callWith pos f first (backTo pos (starEach [] X.env)) (backToKw pos (keywordEach [] X.env)))) :
    PE X (.Call (.Attribute o y apos) [] [] pos) (tmO P (methM 0 tbl m (pure []))) := by
  refine ⟨fun pins s σ H Q I q => ?_⟩
  refine PySem.W.methodCall_KW (pl := pl) (thn ((PE.val ho).run pins s σ H _ I (meth_of q)) fun u s1 ⟨x, H1, I1, rx, a, c, g, dx, vs, ex, et, ea, q1⟩ => ?_) ht
  subst ex
  obtain rfl : u = Value.ref a := rx
  obtain ⟨hn, hc, f, fd, ps, hm, hps, F, hb⟩ := z.at_ c g et
  rw [← ok.hK] at hc hm F hb
  refine getmeth_ok I1 ea hc hm (lookup_zip hn) ?_
  obtain ⟨G, ρ, S, r, q2⟩ := q1
  exact PySem.W.callWith_K0 (first := [.ref a]) I1.kIn hm.kp (run_g (us := [.ref a]) (vs := [.ref a]) (F.mono hj) ok.room ok.gd hb (passAt ok.tk σ) I1 (.cons rfl .nil) (q2 [] H1 G (Gh.le.refl _) r .nil))
end
end Mi
namespace Mi
open PySem PySem.Spec PyProof.Rows L2
section
variable {X : Cx} {Q : Pm} {P : Program} {w : World} {K : KW} {mg : Str → Option Value} {base : Heap} {cv : Nat → Value × Str}
theorem Same.new {x : Str} {c n : Nat} (s : Same X Q P w K mg base cv) (z : NewAt P w K mg base x c n) : NewAt X.prog X.w Q.K X.mg X.base x c n := by
  obtain ⟨e1, e2, e3, e4, e5, e6⟩ := s
  subst e1 e2 e3 e4 e5 e6
  exact z
theorem Same.new0 {x : Str} {c : Nat} (s : Same X Q P w K mg base cv) (z : New0At K mg x c) : New0At Q.K X.mg x c := by
  obtain ⟨e1, e2, e3, e4, e5, e6⟩ := s
  subst e1 e2 e3 e4 e5 e6
  exact z
theorem Same.meth {m : Str} {k n : Nat} {tbl : List (Option Fn)} (s : Same X Q P w K mg base cv) (z : MethAt P w K mg base cv k m n tbl) : MethAt X.prog X.w Q.K X.mg X.base Q.cv k m n tbl := by
  obtain ⟨e1, e2, e3, e4, e5, e6⟩ := s
  subst e1 e2 e3 e4 e5 e6
  exact z
variable {x qual : Str} {params : Arguments} {body : List Stmt} {scope : Scope} {f : Addr} {fd : FuncData} {N ps : List Str} {k n : Nat} {m : MS} {len : Nat}
/-- a method's own def -/
structure MethF (P : Program) (w : World) (K : KW) (mg : Str → Option Value) (base : Heap) (cv : Nat → Value × Str) (k n : Nat) (f : Addr) (g : Fn) : Prop where
  ex : ∃ (fd : FuncData) (ps : List Str), ps.length = n ∧ FnG P w K mg base (L2.CX P w) k f fd ps (spF K cv g n) ∧ Binds K fd ps []
theorem mkMeth (F : FunD K x qual params body scope [] [] f fd) (hn : ps.length = n) (hl : N.length = len) (Sc : FnScope N ps scope) (hb : Binds K fd ps [])
    (h : ∀ (X : Cx) (Q : Pm), Same X Q P K.w K mg base cv → Ok k X Q → Cxt X N scope fl1 → PassesOwn (model X.prog X.w) X.A X.env X.xe → Top X → (X.env.code = fd.code ∧ X.env.qual = qual ++ ".<locals>.") → PSs X body (tsG Q m)) : MethF P K.w K mg base cv (k + 1) n f (bodyF len m) := by
  subst hl
  exact ⟨fd, ps, hn, fnOk hn F Sc fun cdv A outer s H E b hc hgd hr tk hp => h _ _ ⟨rfl, rfl, rfl, rfl, rfl, rfl⟩ ⟨rfl, Sc.nd, rfl, hr, tk, rfl, hgd⟩ ⟨rfl, rfl, rfl⟩ hp ⟨rfl, rfl, rfl⟩ ⟨hc, rfl⟩, hb⟩
/-- a method's table, row by row -/
inductive TabOk (P : Program) (w : World) (K : KW) (mg : Str → Option Value) (base : Heap) (cv : Nat → Value × Str) (k : Nat) (m : Str) (n : Nat) : Nat → List (Option Fn) → Prop
  | nil {i : Nat} : TabOk P w K mg base cv k m n i []
  | none {i : Nat} {r : List (Option Fn)} (t : TabOk P w K mg base cv k m n (i + 1) r) : TabOk P w K mg base cv k m n i (none :: r)
  | some {i j : Nat} {g : Fn} {f : Addr} {r : List (Option Fn)} (h1 : m ∉ (K.ct i).2) (h2 : Cls K.fr (K.ct i).1) (h3 : Meth K.fr (K.ct i).1 m f) (h4 : MethF P w K mg base cv j (n + 1) f g) (hj : j ≤ k) (t : TabOk P w K mg base cv k m n (i + 1) r) : TabOk P w K mg base cv k m n i (some g :: r)
theorem TabOk.at_ {m : Str} {i : Nat} {tbl : List (Option Fn)} (t : TabOk P w K mg base cv k m n i tbl) : ∀ (c : Nat) (g : Fn), tbl[c]? = Option.some (Option.some g) → m ∉ (K.ct (i + c)).2 ∧ Cls K.fr (K.ct (i + c)).1 ∧ ∃ f fd ps, Meth K.fr (K.ct (i + c)).1 m f ∧ ps.length = n + 1 ∧ FnG P w K.fr mg base (L2.CX P w) k f fd ps (spF K cv g (n + 1)) ∧ Binds K.fr fd ps [] := by
  induction t with
  | nil => intro c g h; simp at h
  | @none i r t ih =>
    intro c g h
    cases c with
    | zero => simp at h
    | succ c =>
      have := ih c g (by simpa using h)
      rwa [show i + 1 + c = i + (c + 1) by omega] at this
  | @some i j g' f r h1 h2 h3 h4 hj t ih =>
    intro c g h
    cases c with
    | zero =>
      simp at h
      subst h
      obtain ⟨fd, ps, e1, e2, e3⟩ := h4.ex
      exact ⟨h1, h2, f, fd, ps, h3, e1, e2.mono hj, e3⟩
    | succ c =>
      have := ih c g (by simpa using h)
      rwa [show i + 1 + c = i + (c + 1) by omega] at this
theorem TabOk.meth {m : Str} {tbl : List (Option Fn)} (t : TabOk P w K mg base cv k m n 0 tbl) : MethAt P w K mg base cv k m n tbl := ⟨fun c g h => by
  have := t.at_ c g h
  rwa [Nat.zero_add] at this⟩
end
/-- the same method by two classes -/
def maEq (x y m : Str) : Ck := fun K => decide (He.ma K (He.ga K x) m = He.ma K (He.ga K y) m)
def new0B (x : Str) : Ck := fun K => PySem.W.makesIn K (He.ga K x) && (He.eqO (PySem.W.findIn K (.ref (He.ga K x)) "__init__") (some (some (.builtin "object.__init__"))) && PySem.W.keepIn K (.ref (He.ga K x)))
theorem meth_eq {K : PySem.W.Frag} {x y m : Str} (h : Meth K (He.ga K x) m (He.ma K (He.ga K x) m)) (e : maEq x y m K = true) : Meth K (He.ga K x) m (He.fAd K (y, some m)) := by
  have : He.fAd K (y, some m) = He.ma K (He.ga K x) m := (of_decide_eq_true e).symm
  rw [this]
  exact h
theorem new0B_ok {K : KW} {h : Heap} {mg : Str → Option Value} (X : K.fr.In h) (G : h.Ns mainGlobals mg) {x : Str} {c : Nat} (hc : (K.ct c).1 = He.ga K.fr x) (g : (He.Fa.glo x).ok K.fr = true) (b : new0B x K.fr = true) : New0At K mg x c := by
  obtain ⟨b1, b2⟩ := He.ba b
  obtain ⟨b2, b3⟩ := He.ba b2
  refine ⟨?_, ?_, ?_, ?_⟩
  · rw [hc]; exact He.glo_ok X G g
  · rw [hc]; exact b1
  · rw [hc]; exact He.eqO_ok b2
  · rw [hc]; exact b3
end Mi

namespace Mi
open PySem PySem.Spec PyProof.Rows L2
def ndB : List Addr → Bool
  | [] => true
  | a :: r => (r.all fun b => !decide (a = b)) && ndB r
theorem ndB_ok : ∀ {l : List Addr}, ndB l = true → l.Nodup
  | [], _ => List.nodup_nil
  | a :: r, h => by
    unfold ndB at h
    obtain ⟨h1, h2⟩ := He.ba h
    refine List.nodup_cons.mpr ⟨fun hm => ?_, ndB_ok h2⟩
    have := List.all_eq_true.mp h1 a hm
    simp at this
def tabsG (g : Addr → Option Obj) (xs : List (List Nat)) (K : PySem.W.Frag) : Bool := ndB (xs.map fun x => tabA K ⟨x.toArray⟩) && xs.all fun x => PySem.W.codeHdIn K (codeA K ⟨x.toArray⟩) (tabA K ⟨x.toArray⟩) && (match g (tabA K ⟨x.toArray⟩) with
  | some o => He.emptyTab o
  | none => false)
def obsMT (n : Nat) (fa : List He.Fa) (ks : List Kon) (fn : List He.DefD) (ex : List Ck) (xs : List (List Nat)) (g : Addr → Option Obj) : He.AlD × Bool := (obsM fa ks fn ex (He.frT g (asM g n)), tabsG g xs (He.frT g (asM g n)))
structure SaysMT (fa : List He.Fa) (ks : List Kon) (fn : List He.DefD) (ex : List Ck) (xs : List (List Nat)) (h : Heap) (K : PySem.W.Frag) : Prop where
  s : SaysM fa ks fn ex K
  t : ∀ x ∈ xs, TabHd K h ⟨x.toArray⟩
  n : (xs.map fun x => tabA K ⟨x.toArray⟩).Nodup
theorem saysMT_of {n : Nat} {fa : List He.Fa} {ks : List Kon} {fn : List He.DefD} {ex : List Ck} {xs : List (List Nat)} {h : Heap} (e : obsMT n fa ks fn ex xs h.get? = (He.valD fn, true)) : SaysMT fa ks fn ex xs h (He.frT h.get? (asM h.get? n)) := by
  have e1 : obsM fa ks fn ex (He.frT h.get? (asM h.get? n)) = He.valD fn := congrArg (fun z : He.AlD × Bool => z.1) e
  have e2 : tabsG h.get? xs (He.frT h.get? (asM h.get? n)) = true := congrArg (fun z : He.AlD × Bool => z.2) e
  obtain ⟨h1, h2⟩ := He.ba e2
  refine ⟨e1, fun x hx => ?_, ndB_ok h1⟩
  obtain ⟨h3, h4⟩ := He.ba (List.all_eq_true.mp h2 x hx)
  cases q : h.get? (tabA (He.frT h.get? (asM h.get? n)) ⟨x.toArray⟩) with
  | none => rw [q] at h4; cases h4
  | some o =>
    rw [q] at h4
    have h5 : He.emptyTab o = true := h4
    exact ⟨PySem.W.codeHd_of_K He.frT_in h3, by rw [q, He.emptyTab_eq h5], He.frT_none q h5⟩
theorem TabHd.keeps {K : PySem.W.Frag} {h h' : Heap} {x : Str} (t : TabHd K h x) (k : ∀ b o, h.get? b = some o → h'.get? b = some o) : TabHd K h' x := ⟨t.code.keeps k, k _ _ t.emp, t.off⟩
def hookMT (n : Nat) (fa : List He.Fa) (ks : List Kon) (fn : List He.DefD) (ex : List Ck) (xs : List (List Nat)) : PySem.W.Hook where
  α := He.AlD × Bool
  obs := fun s => obsMT n fa ks fn ex xs s.heap.get?
  val := fun _ => (He.valD fn, true)
  says := fun _ h => ∃ K : PySem.W.Frag, K.In h ∧ SaysMT fa ks fn ex xs h K
  of := fun _ _ e => ⟨_, He.frT_in, saysMT_of e⟩
  keeps := fun _ _ _ ⟨K, hK, c⟩ k => ⟨K, PySem.W.Frag.In.keeps hK k, ⟨c.s, fun x hx => (c.t x hx).keeps k, c.n⟩⟩
theorem obsMT_eq {n : Nat} {fa : List He.Fa} {ks : List Kon} {fn : List He.DefD} {ex : List Ck} {xs : List (List Nat)} {g : Addr → Option Obj} {s : Shared} (h : ∀ a, g a = s.heap.get? a) : obsMT n fa ks fn ex xs g = (hookMT n fa ks fn ex xs).obs s := by
  have e : g = s.heap.get? := funext h
  rw [e] <;> rfl
/-! ### the head's facts, read at told addresses -/

def obsTL (as : List Addr) (fa : List He.Fa) (ks : List Kon) (fn : List He.DefD) (ex : List Ck) (xs : List (List Nat)) (g : Addr → Option Obj) : He.AlD × Bool := (obsM fa ks fn ex (He.frT g as), tabsG g xs (He.frT g as))
theorem saysTL_of {as : List Addr} {fa : List He.Fa} {ks : List Kon} {fn : List He.DefD} {ex : List Ck} {xs : List (List Nat)} {h : Heap} (e : obsTL as fa ks fn ex xs h.get? = (He.valD fn, true)) : SaysMT fa ks fn ex xs h (He.frT h.get? as) := by
  have e1 : obsM fa ks fn ex (He.frT h.get? as) = He.valD fn := congrArg (fun z : He.AlD × Bool => z.1) e
  have e2 : tabsG h.get? xs (He.frT h.get? as) = true := congrArg (fun z : He.AlD × Bool => z.2) e
  obtain ⟨h1, h2⟩ := He.ba e2
  refine ⟨e1, fun x hx => ?_, ndB_ok h1⟩
  obtain ⟨h3, h4⟩ := He.ba (List.all_eq_true.mp h2 x hx)
  cases q : h.get? (tabA (He.frT h.get? as) ⟨x.toArray⟩) with
  | none => rw [q] at h4; cases h4
  | some o =>
    rw [q] at h4
    have h5 : He.emptyTab o = true := h4
    exact ⟨PySem.W.codeHd_of_K He.frT_in h3, by rw [q, He.emptyTab_eq h5], He.frT_none q h5⟩
def hookTL (as : List Addr) (fa : List He.Fa) (ks : List Kon) (fn : List He.DefD) (ex : List Ck) (xs : List (List Nat)) : PySem.W.Hook where
  α := He.AlD × Bool
  obs := fun s => obsTL as fa ks fn ex xs s.heap.get?
  val := fun _ => (He.valD fn, true)
  says := fun _ h => ∃ K : PySem.W.Frag, K.In h ∧ SaysMT fa ks fn ex xs h K
  of := fun _ _ e => ⟨_, He.frT_in, saysTL_of e⟩
  keeps := fun _ _ _ ⟨K, hK, c⟩ k => ⟨K, PySem.W.Frag.In.keeps hK k, ⟨c.s, fun x hx => (c.t x hx).keeps k, c.n⟩⟩
theorem obsTL_eq {as : List Addr} {fa : List He.Fa} {ks : List Kon} {fn : List He.DefD} {ex : List Ck} {xs : List (List Nat)} {g : Addr → Option Obj} {s : Shared} (h : ∀ a, g a = s.heap.get? a) : obsTL as fa ks fn ex xs g = (hookTL as fa ks fn ex xs).obs s := by
  have e : g = s.heap.get? := funext h
  rw [e] <;> rfl
def obsML (as : List Addr) (fa : List He.Fa) (ks : List Kon) (fn : List He.DefD) (ex : List Ck) (g : Addr → Option Obj) : He.AlD := obsM fa ks fn ex (He.frG g as)
def hookML (as : List Addr) (fa : List He.Fa) (ks : List Kon) (fn : List He.DefD) (ex : List Ck) : PySem.W.Hook where
  α := He.AlD
  obs := fun s => obsML as fa ks fn ex s.heap.get?
  val := fun _ => He.valD fn
  says := fun _ h => ∃ K : PySem.W.Frag, K.In h ∧ SaysM fa ks fn ex K
  of := fun _ _ e => ⟨_, He.frG_in, e⟩
  keeps := fun _ _ _ ⟨K, hK, c⟩ k => ⟨K, PySem.W.Frag.In.keeps hK k, c⟩
theorem obsML_eq {as : List Addr} {fa : List He.Fa} {ks : List Kon} {fn : List He.DefD} {ex : List Ck} {g : Addr → Option Obj} {s : Shared} (h : ∀ a, g a = s.heap.get? a) : obsML as fa ks fn ex g = (hookML as fa ks fn ex).obs s := by
  have e : g = s.heap.get? := funext h
  rw [e] <;> rfl
end Mi

namespace Mi
open PySem PySem.Spec PyProof.Rows L2
noncomputable section
def top (i : Nat) : Stmt := PySem.Challenge.pw_recall_k10_refusals_made.main.body.getD i (.Pass ⟨0, 0, 0, 0⟩)
def cb (i j : Nat) : Stmt := match top i with
  | .ClassDef _ _ _ b .. => b.getD j (.Pass ⟨0, 0, 0, 0⟩)
  | s => s
def dd (i : Nat) (x : Str) : He.DefD := ⟨(x, none), x, x, defArgs (top i), defBody (top i), defScope (top i), [], []⟩
def di (i j : Nat) (x y qn : Str) : He.DefD := ⟨(x, some y), y, qn, defArgs (cb i j), defBody (cb i j), defScope (cb i j), [], []⟩
def fnL : List He.DefD := [dd 18 "_law_cell", dd 19 "_law_digits", dd 20 "_law_take", dd 21 "_law_names", dd 22 "_law_marks", dd 23 "law", di 2 0 "NoText" "__init__" "NoText.__init__", di 7 0 "Twice" "__init__" "Twice.__init__", di 8 0 "NoCard" "__init__" "NoCard.__init__", di 9 0 "NotAsked" "__init__" "NotAsked.__init__", di 10 0 "NotDue" "__init__" "NotDue.__init__", di 13 0 "Clash" "__init__" "Clash.__init__"]
def xlL : XL := [("BoxError", ""), ("NoText", "at"), ("NoStep", ""), ("NoBox", ""), ("NoDay", ""), ("NoName", ""), ("Twice", "name"), ("NoCard", "name"), ("NotAsked", "name"), ("NotDue", "name"), ("NoAnswer", ""), ("NoDeed", ""), ("Clash", "which"), ("TooMany", ""), ("NoMatch", ""), ("NoRow", "")]
def olL : OL := []
def exL : List Ck := [isxB xlL olL ["BoxError"] [true, true, true, true, true, true, true, true, true, true, true, true, true, true, true, true] [], isxB xlL olL ["Clash"] [false, false, false, false, false, false, false, false, false, false, false, false, true, false, false, false] [], isxB xlL olL ["NoAnswer"] [false, false, false, false, false, false, false, false, false, false, true, false, false, false, false, false] [], isxB xlL olL ["NoBox"] [false, false, false, true, false, false, false, false, false, false, false, false, false, false, false, false] [], isxB xlL olL ["NoCard"] [false, false, false, false, false, false, false, true, false, false, false, false, false, false, false, false] [], isxB xlL olL ["NoDay"] [false, false, false, false, true, false, false, false, false, false, false, false, false, false, false, false] [], isxB xlL olL ["NoDeed"] [false, false, false, false, false, false, false, false, false, false, false, true, false, false, false, false] [], isxB xlL olL ["NoMatch"] [false, false, false, false, false, false, false, false, false, false, false, false, false, false, true, false] [], isxB xlL olL ["NoName"] [false, false, false, false, false, true, false, false, false, false, false, false, false, false, false, false] [], isxB xlL olL ["NoRow"] [false, false, false, false, false, false, false, false, false, false, false, false, false, false, false, true] [], isxB xlL olL ["NoStep"] [false, false, true, false, false, false, false, false, false, false, false, false, false, false, false, false] [], isxB xlL olL ["NoText"] [false, true, false, false, false, false, false, false, false, false, false, false, false, false, false, false] [], isxB xlL olL ["NotAsked"] [false, false, false, false, false, false, false, false, true, false, false, false, false, false, false, false] [], isxB xlL olL ["NotDue"] [false, false, false, false, false, false, false, false, false, true, false, false, false, false, false, false] [], isxB xlL olL ["TooMany"] [false, false, false, false, false, false, false, false, false, false, false, false, false, true, false, false] [], isxB xlL olL ["Twice"] [false, false, false, false, false, false, true, false, false, false, false, false, false, false, false, false] [], isxB xlL olL ["ValueError"] [true, true, true, true, true, true, true, true, true, true, true, true, true, true, true, true] [], fldB xlL olL "at" [false, true, false, false, false, false, false, false, false, false, false, false, false, false, false, false] [], fldB xlL olL "name" [false, false, false, false, false, false, true, true, true, true, false, false, false, false, false, false] [], fldB xlL olL "which" [false, false, false, false, false, false, false, false, false, false, false, false, true, false, false, false] [], rz1B xlL "NoText" "BoxError" "at" 1, rz0B xlL "NoStep" 2, rz0B xlL "NoBox" 3, rz0B xlL "NoDay" 4, rz0B xlL "NoName" 5, rz1B xlL "Twice" "BoxError" "name" 6, rz1B xlL "NoCard" "BoxError" "name" 7, rz1B xlL "NotAsked" "BoxError" "name" 8, rz1B xlL "NotDue" "BoxError" "name" 9, rz0B xlL "NoAnswer" 10, rz0B xlL "NoDeed" 11, rz1B xlL "Clash" "BoxError" "which" 12, rz0B xlL "TooMany" 13, rz0B xlL "NoMatch" 14, rz0B xlL "NoRow" 15]
def faL : List He.Fa := [.glo "_law_cell", .glo "_law_digits", .glo "_law_take", .glo "_law_names", .glo "_law_marks", .glo "law", .free "int", .free "isinstance", .free "len", .free "min", .free "range"]
def ksL : List Kon := []
abbrev Rw : PySem.W.OpenRow := PySem.W.OpenLaw.row PySem.Challenge.rw_recall_k10_refusals_made
abbrev hkL : PySem.W.Hook := hookM 6 faL ksL fnL exL
def obL (s : PySem.W.SharedT) : He.AlD := obsMG 6 faL ksL fnL exL (HandSHeadRun.getT s)
theorem obL_eq (s : PySem.W.SharedT) : obL s = hkL.obs s.abs := obsMG_eq (HandSHeadRun.getT_eq s)
def looseL : List Str := (["BoxError", "NoText", "NoStep", "NoBox", "NoDay", "NoName", "Twice", "NoCard", "NotAsked", "NotDue", "NoAnswer", "NoDeed", "Clash", "TooMany", "NoMatch", "NoRow", "_law_cell", "_law_digits", "_law_take", "_law_names", "_law_marks"] : List Str)
theorem runL (w : World) : HandSHeadRun.RunEq Rw (PySem.W.view Rw.prog [23]) hkL obL 20000 looseL w := by
  intro os
  kernel_rfl
end
end Mi

namespace Mi
open PySem PySem.Spec PyProof.Rows L2 HT
section
variable {prog : Program} {w : World} {A : Around} {E : Value → Shared → Prop} {s : Shared}
theorem adj_rev (n : Nat) : Builtin.Slice.sliceAdjust none none (-1) (n : Int) = ((n : Int) - 1, -1) := by
  unfold Builtin.Slice.sliceAdjust
  simp
  try omega
theorem places_rev (n : Nat) : Builtin.Slice.slicePlaces ((n : Int) - 1) (-1) (-1) = n := by
  unfold Builtin.Slice.slicePlaces
  simp
  try omega
theorem applied_rev {sl : Addr} {vs : Value} {n : Nat} {Q : Int × Int × Nat → Shared → Prop} (hs : s.heap.IsSliceOf sl .none .none vs) (ps : IsPart vs (some (-1)))
    (h : Q ((n : Int) - 1, -1, n) s) : wpAny (model prog w) A (Builtin.Slice.sliceApplied (.ref sl) (pure (n : Int))) Q E s := by
  obtain ⟨os, hos, hcs, hds⟩ := id hs
  unfold Builtin.Slice.sliceApplied Builtin.Slice.sliceFields
  refine wpAny_bind (wpAny_bind (wpAny_field hos hds (x := .none) rfl (wpAny_bind (wpAny_field hos hds (x := .none) rfl (wpAny_bind (wpAny_field hos hds (x := vs) rfl (wpAny_pure ?_)))))))
  refine wpAny_bind (slicePart_ ps ?_)
  show wpAny _ _ (if ((-1 : Int) == 0) = true then _ else _) _ _ s
  rw [if_neg (by decide)]
  refine wpAny_bind (slicePart_none (wpAny_bind (slicePart_none (wpAny_bind (wpAny_pure ?_)))))
  show wpAny _ _ (match Builtin.Slice.sliceAdjust none none (-1) (n : Int) with | (lo, hi) => pure (lo, (-1 : Int), Builtin.Slice.slicePlaces lo hi (-1))) _ _ s
  rw [adj_rev n]
  show wpAny _ _ (pure ((n : Int) - 1, (-1 : Int), Builtin.Slice.slicePlaces ((n : Int) - 1) (-1) (-1))) _ _ s
  rw [places_rev]
  exact wpAny_pure h
theorem all_at {α : Type} (l : List α) : (List.range l.length).filterMap (fun m => l[m]?) = l := by
  induction l with
  | nil => rfl
  | cons a t ih =>
    rw [List.length_cons, List.range_succ_eq_map, List.filterMap_cons]
    simp only [List.getElem?_cons_zero]
    rw [List.filterMap_map]
    exact congrArg _ ih
theorem fm_congr {α β : Type} {f g : α → Option β} : ∀ l : List α, (∀ m ∈ l, f m = g m) → l.filterMap f = l.filterMap g
  | [], _ => rfl
  | a :: t, h => by rw [List.filterMap_cons, List.filterMap_cons, h a List.mem_cons_self, fm_congr t fun m hm => h m (List.mem_cons_of_mem _ hm)]
theorem pick_rev (xs : Array Value) : ((List.range xs.size).filterMap fun (m : Nat) => xs[(((xs.size : Int) - 1) + (m : Int) * (-1)).toNat]?).toArray = xs.toList.reverse.toArray := by
  have e := all_at xs.toList.reverse
  rw [List.length_reverse, Array.length_toList] at e
  refine congrArg List.toArray (Eq.trans (fm_congr _ fun m hm => ?_) e)
  have hm := List.mem_range.mp hm
  rw [List.getElem?_reverse (by rw [Array.length_toList]; exact hm), Array.length_toList, Array.getElem?_toList]
  congr 1
  omega
theorem getItem_rev {t sl : Addr} {items : Array Value} {vs : Value} {Q : Value → Shared → Prop} (ht : IsTup s.heap t items) (hs : s.heap.IsSliceOf sl .none .none vs) (ps : IsPart vs (some (-1)))
    (h : Q (.ref s.heap.objs.size) { s with heap := s.heap.push { cls := .type "tuple", data := .seq items.toList.reverse.toArray } })
    (hsz : items.size ≤ sizeLine) : wpAny (model prog w) A (getItem (.ref t) (.ref sl)) Q E s := by
  have hz : sizeOk (.seq items.toList.reverse.toArray) := by
    show items.toList.reverse.toArray.size ≤ sizeLine
    rw [List.size_toArray, List.length_reverse, Array.length_toList]
    exact hsz
  obtain ⟨os, hos, hcs, hds⟩ := id hs
  have hTs : s.TypeIs (.ref sl) "slice" := ⟨os, hos, hcs⟩
  unfold getItem
  try with_reducible refine wpAny_holding ?_
  first | refine wpAny_bind (wpAny_pure ?_) | skip
  refine wpAny_bind (wpAny_sequenceKey ht.typeIs (by decide) ?_)
  refine wpAny_bind (wpAny_callSpecial?_slot (name := Str.ofString "__getitem__") ht.typeIs slot_tuple_getitem (wpAny_call_entry slot_tuple_getitem ht.typeIs entry_tuple_getitem ?_ (args_tuple_getitem _ _)))
  show wpAny _ _ (Builtin.Tuple.tupleItemsOf (.ref t) >>= _) _ _ s
  refine wpAny_bind (tupleItemsOf_ ht ?_)
  refine wpAny_bind (wpAny_typeOf hTs ?_)
  rw [if_pos (by decide)]
  refine wpAny_bind (applied_rev hs ps ?_)
  have hno : ¬ ((((items.size : Int) - 1) == 0 && (-1 : Int) == 1 && items.size == items.size) = true) := by
    intro q
    rw [Bool.and_eq_true, Bool.and_eq_true] at q
    exact absurd (eq_of_beq q.1.2) (by decide)
  show wpAny _ _ (if (((items.size : Int) - 1) == 0 && (-1 : Int) == 1 && items.size == items.size) = true then _ else _) _ _ s
  rw [if_neg hno, pick_rev]
  first
    | exact wpAny_bind (m := Builtin.Tuple.tupleExact _) (wpAny_newObj_type (wpAny_pure ⟨_, rfl, wpAny_pure h⟩) hz)
    | exact wpAny_bind (wpAny_bind (m := Builtin.Tuple.tupleExact _) (wpAny_newObj_type (wpAny_pure ⟨_, rfl, wpAny_pure h⟩) hz))
end
section
variable {X : Cx}
def tRev (K : PySem.W.Frag) (te : TE) : TE := fun σ H Q => te σ H fun x H1 => (∃ a xs, x = .ref a ∧ SqL K H1 a xs ∧ ∀ p, H1 p = none → Q (.ref p) (upd H1 p (.lst xs.reverse))) ∨
  ∃ a xs, x = .ref a ∧ SqT K H1 a xs ∧ ∀ p, H1 p = none → Q (.ref p) (upd H1 p (.tup xs.reverse))
theorem pe_rev {e : Expr} {te : TE} {k : Nat} {p1 p2 p3 pos : Pos} (he : PE X e te) : PE X (.Subscript e (.Slice none none (some (.UnaryOp .USub (.Constant (.int 1) k p1) p2)) p3) pos) (tRev X.K te) := by
  refine ⟨fun pins s σ H Q I h => Subscript_ (thn (he.run pins s σ H _ I h) fun v s1 ⟨x, H1, I1, r1, q1⟩ => ?_)⟩
  have hst : PO X (some (.UnaryOp .USub (.Constant (.int 1) k p1) p2)) (tPart (tUn (rU fun i => .int (-i)) (tC (.int 1)))) := po_some (pe_un un_neg pe_int)
  refine wpAny_Slice (thn (po_none.run pins s1 σ H1 (fun o H2 => o = none ∧ H2 = H1) I1 ⟨rfl, rfl⟩) fun vl s2 ⟨l, H2, I2, pl, el, e2⟩ => ?_)
  subst el e2
  refine thn (po_none.run pins s2 σ H2 (fun o H3 => o = none ∧ H3 = H2) I2 ⟨rfl, rfl⟩) fun vu s3 ⟨u, H3, I3, pu, eu, e3⟩ => ?_
  subst eu e3
  refine thn (hst.run pins s3 σ H3 (fun o H4 => o = some (-1) ∧ H4 = H3) I3 ⟨1, rfl, -1, rfl, rfl, rfl⟩) fun vs s4 ⟨o, H4, I4, ps, eo, e4⟩ => ?_
  subst eo e4
  cases pl
  cases pu
  have I5 : Inv X pins σ H4 { s4 with heap := s4.heap.push { cls := .type "slice", data := .fields #[.none, .none, vs] } } := I4.kept (t' := s4.toks) fun b ob q => Heap.get?_push_of_some _ q
  rcases q1 with ⟨a, xs, rfl, hx, q⟩ | ⟨a, xs, rfl, hx, q⟩
  · cases r1
    obtain ⟨its, r, ht, hz⟩ := I5.list hx
    have hlen := r.length
    refine tail_any (ops := [.ref a, .ref s4.heap.objs.size]) ht.isList.typeIs (PySem.slot_list_getitem.lookup) ?_ (by with_unfolding_all rfl)
    refine wpAny_getItem_list_slice ht.isList (Heap.IsSliceOf.new _ .none .none vs) .none .none ps (by decide) ?_ (by rw [List.size_toArray]; omega)
    rw [PySem.W.krv_pick]
    exact ⟨.ref _, _, I5.laid (t' := s4.toks) (o := .lst xs.reverse) (fun b ob q => Heap.get?_push_of_some _ q) (Nat.le_refl _) ⟨by rw [List.length_reverse]; exact hz, _, 0, r.reverse, Heap.get?_push_size _ rfl⟩, rfl, q _ (I5.hok.fresh (Nat.le_refl _))⟩
  · cases r1
    obtain ⟨its, r, ht, hz⟩ := I5.tuple hx
    have hlen := r.length
    refine tail_any (ops := [.ref a, .ref s4.heap.objs.size]) ht.typeIs (PyProof.Rows.slot_tuple_getitem.lookup) ?_ (by with_unfolding_all rfl)
    refine getItem_rev ht (Heap.IsSliceOf.new _ .none .none vs) ps ?_ (by rw [List.size_toArray]; omega)
    exact ⟨.ref _, _, I5.laid (t' := s4.toks) (o := .tup xs.reverse) (fun b ob q => Heap.get?_push_of_some _ q) (Nat.le_refl _) ⟨by rw [List.length_reverse]; exact hz, _, r.reverse, IsTup.new _ _⟩, rfl, q _ (I5.hok.fresh (Nat.le_refl _))⟩
end
/-! ### x[::-1] -/
def revD (d : D) : M OD := match d with
  | .lst xs => fresh (.lst xs.reverse)
  | .tup xs => gives (.tup xs.reverse)
  | _ => M.err
def revM (o : M Opd) : M OD := do
  let x ← o
  let d ← resM x
  revD d
theorem t_rev {X : Cx} {P : Pm} {k k' : Nat} (ok : Ok k X P) {a : Expr} {oa : M Opd} {p1 p2 p3 pos : Pos} (ha : PE X a (tmP P oa)) : PE X (.Subscript a (.Slice none none (some (.UnaryOp .USub (.Constant (.int 1) k' p1) p2)) p3) pos) (tmO P (revM oa)) := by
  refine (pe_rev ha).imp fun σ H Q q => tm_imp (tm_bind (rel1 := relP P) q) fun x H1 ⟨G, ρ, S, d, r, w, q2⟩ => ?_
  obtain ⟨d', p, q3⟩ := res_of r w q2
  unfold revD at q3
  split at q3
  · obtain ⟨a, vs, rfl, z, l⟩ := p.lst r.fr
    exact .inl ⟨a, vs, rfl, by rw [ok.hK]; exact SqL.of z, fun p hp => post_fresh q3 r hp l.rev⟩
  · obtain ⟨a, vs, rfl, z, l⟩ := p.tup r.fr
    exact .inr ⟨a, vs, rfl, by rw [ok.hK]; exact z, fun p hp => post_tup q3 r hp l.rev⟩
  · exact q3.elim
end Mi

namespace Mi
open PySem PySem.Spec PyProof.Rows L2
/-! ### set(xs) of a list of whole numbers -/
abbrev sNew (w : World) : Obj := { cls := .type "set", dict := none, data := .set #[] 0 (.fresh 0 0 (!w.params.followText "set-order")) }
section
variable {P : Program} {w : World} {A : Around} {E : Value → Shared → Prop} {s : Shared}
def SetL (w : World) (s : Shared) (ns : List Int) (h' : Heap) (c : Nat) : Prop := SetR w h' s.heap.objs.size (fun j => decide (j ∈ ns)) c ∧ c ≤ ns.length ∧ ∀ b o, s.heap.get? b = some o → h'.get? b = some o
theorem val_at {its : Array Value} {ns : List Int} (hi : IntsAre its.toList ns) (i : Nat) (v : Value) (hv : its[i]? = some v) : ∃ k t, ns[i]? = some k ∧ v = .int k t := by
  obtain ⟨n, t, e1, e2⟩ := IntsAre.at hi i v (by rw [Array.getElem?_toList]; exact hv)
  exact ⟨n, t, e2, e1⟩
theorem init_list {l : Addr} {its : Array Value} {ns : List Int} (hh : A.handled = none) (hl : s.heap.IsList l its) (hi : IntsAre its.toList ns) (hb : ns.length + 1 < scanBound) :
    codeAny (model P w) A (.call (.builtin "set.__init__") ⟨[.ref s.heap.objs.size, .ref l], []⟩) (wants (fun r s₂ => r = .none ∧ ∃ h' tk c, s₂ = { s with heap := h', toks := tk } ∧ SetL w s ns h' c) E) { s with heap := s.heap.push (sNew w) } := by
  have hn : its.size = ns.length := by
    have q := IntsAre.length hi
    rw [Array.length_toList] at q; exact q
  have hS : (s.heap.push (sNew w)).get? s.heap.objs.size = some (sNew w) := Heap.get?_push_size _ rfl
  have hT : Shared.TypeIs { s with heap := s.heap.push (sNew w) } (.ref s.heap.objs.size) "set" := ⟨_, hS, rfl⟩
  refine codeAny_call_builtin F.called_set.init.plain F.entry_set_init (check_set_init_1 hT ?_)
  obtain ⟨⟨oc, od, oo, os⟩, hol, hcl, nl, hdl⟩ := hl
  simp only at hcl hdl
  subst hcl hdl
  have hol1 : (s.heap.push (sNew w)).get? l = some { cls := .type "list", dict := od, data := .seq its nl, slots := os } := Heap.get?_push_of_some _ hol
  have hl1 : (s.heap.push (sNew w)).IsList l its := ⟨_, hol1, rfl, nl, rfl⟩
  have b1 := F.sub_list_set
  have b2 := F.sub_list_frozenset
  have b3 : (Value.type "list" == Value.type "dict") = false := by decide
  unfold Builtin.«set.__init__» noKeywords Builtin.Frozenset.updateFrom
  generalize hPI : pyIter = PI
  wp_walk
  subst hPI
  refine wpAny_pyIter_list hl1 (wpAny_bind (wpAny_runValue ?_))
  have lt := Heap.lt_size hol
  have z1 : (s.heap.push (sNew w)).objs.size = s.heap.objs.size + 1 := Heap.size_push ..
  have hlI : l ≠ (s.heap.push (sNew w)).objs.size := by rw [z1]; exact Nat.ne_of_lt (Nat.lt_succ_of_lt lt)
  refine set_update_ints ((Walks.list (by simp [hh]) _ l hlI its).toS) s.heap.objs.size (by rw [z1]; simp only [List.mem_cons, List.not_mem_nil, or_false, not_or]; exact ⟨Nat.ne_of_lt (Nat.lt_succ_self _), Nat.ne_of_gt lt⟩) ns hn hb (fun i v hv => val_at hi i v hv) (its.size - 0) 0 _ (by omega) (Nat.zero_le _) ⟨⟨_, Heap.get?_push_size _ rfl, rfl, rfl⟩, hl1.push _⟩
    ⟨0, Nat.le_refl 0, setR_new_at (Heap.get?_push_of_some _ hS)⟩ ?_
  rintro ⟨h', g2, d', tk', os'⟩ c' hm hc' hS'
  obtain rfl : g2 = s.gens := hm.gens
  obtain rfl : d' = s.drawn := hm.drawn
  obtain rfl : os' = s.os := hm.os
  refine wpAny_pure (wpAny_pure ⟨rfl, h', tk', c', rfl, hS', by omega, fun b o e => ?_⟩)
  have lb := Heap.lt_size e
  exact hm.heap b o (by rw [z1]; simp only [List.mem_cons, List.not_mem_nil, or_false, not_or]; exact ⟨Nat.ne_of_lt lb, Nat.ne_of_lt (Nat.lt_succ_of_lt lb)⟩) (Heap.get?_push_of_some _ (Heap.get?_push_of_some _ e))
theorem set_of_list {l : Addr} {its : Array Value} {ns : List Int} {Q : Value → Shared → Prop} (hh : A.handled = none) (hl : s.heap.IsList l its) (hi : IntsAre its.toList ns) (hb : ns.length + 1 < scanBound)
    (h : ∀ (h' : Heap) (tk c : Nat), SetL w s ns h' c → Q (.ref s.heap.objs.size) { s with heap := h', toks := tk }) : wpAny (model P w) A (call (.type "set") [.ref l]) Q E s := by
  obtain ⟨_, _, hmro⟩ := F.called_set.mro
  have f1 := F.called_set.made
  have f2 := F.called_set.sub
  have f3 := F.called_set.notType
  have f4 := F.called_set.canCreate
  have f5 := F.typeCall_set_1 (.ref l)
  refine wpAny_call (codeAny_of_tree ?_)
  show wpAny _ _ (callAny (.type "set") _) _ _ _
  refine wpAny_pure ⟨Code.quiet_builtin _ (by decide +kernel), codeAny_builtin F.entry_type_call ?_⟩
  rw [Around.under_plain (weight_type_call_type "set" [.ref l] []) rfl]
  repeat (any_goals (first | assumption | wp_step))
  refine codeAny_mono (code_set_led1 (.ref l) (E := E) (Q₁ := fun obj s₁ => obj = .ref s.heap.objs.size ∧ s₁ = { s with heap := s.heap.push (sNew w) }) ⟨rfl, rfl⟩) fun r s₁ hr => ?_
  cases r with
  | error e => exact hr
  | ok fl =>
    cases fl with
    | ret obj =>
      obtain ⟨rfl, rfl⟩ := hr
      have hT : Shared.TypeIs { s with heap := s.heap.push (sNew w) } (.ref s.heap.objs.size) "set" := ⟨_, Heap.get?_push_size _ rfl, rfl⟩
      have g1 := F.called_set.init.lookup
      have g2 := F.called_set.init.bind (.ref s.heap.objs.size)
      repeat (any_goals (first | assumption | wp_step))
      refine codeAny_mono (init_list (E := E) (by simp [hh]) hl hi hb) fun r₂ s₂ hr₂ => ?_
      cases r₂ with
      | error e => exact hr₂
      | ok fl₂ =>
        cases fl₂ with
        | ret v =>
          obtain ⟨rfl, h', tk, c, rfl, hq⟩ := hr₂
          repeat (any_goals (first | assumption | wp_step))
          exact h _ _ _ hq
        | _ => exact hr₂.elim
    | _ => exact hr.elim
end

/-! ### what sorted(set(xs)) tells -/
def insU {α : Type} [DecidableEq α] (lt : α → α → Bool) (x : α) : List α → List α
  | [] => [x]
  | y :: t => if x = y then y :: t else if lt x y = true then x :: y :: t else y :: insU lt x t
def uniq {α : Type} [DecidableEq α] (lt : α → α → Bool) (l : List α) : List α := l.foldr (insU lt) []
section
variable {α : Type} [DecidableEq α] {lt : α → α → Bool}
theorem mem_insU (x z : α) : ∀ l : List α, z ∈ insU lt x l ↔ z = x ∨ z ∈ l
  | [] => by simp [insU]
  | y :: t => by
    unfold insU
    split
    · rename_i e
      subst e
      simp
    · split
      · simp
      · simp only [List.mem_cons, mem_insU x z t]
        constructor
        · rintro (h | h | h) <;> simp [h]
        · rintro (h | h | h) <;> simp [h]
theorem mem_uniq (z : α) : ∀ l : List α, z ∈ uniq lt l ↔ z ∈ l
  | [] => by simp [uniq]
  | x :: t => by
    show z ∈ insU lt x (uniq lt t) ↔ _
    rw [mem_insU, mem_uniq z t, List.mem_cons]
structure LtOk (lt : α → α → Bool) : Prop where
  irr : ∀ x, lt x x = false
  tr : ∀ x y z, lt x y = true → lt y z = true → lt x z = true
  tot : ∀ x y, x ≠ y → lt x y = false → lt y x = true
theorem ris_insU (o : LtOk lt) (x : α) : ∀ l : List α, l.Pairwise (fun a b => lt a b = true) → (insU lt x l).Pairwise (fun a b => lt a b = true)
  | [], _ => by simp [insU]
  | y :: t, h => by
    obtain ⟨h1, h2⟩ := List.pairwise_cons.mp h
    unfold insU
    split
    · exact h
    · rename_i hne
      split
      · rename_i hl
        refine List.pairwise_cons.mpr ⟨fun z hz => ?_, h⟩
        rcases List.mem_cons.mp hz with rfl | hz
        · exact hl
        · exact o.tr _ _ _ hl (h1 z hz)
      · rename_i hl
        refine List.pairwise_cons.mpr ⟨fun z hz => ?_, ris_insU o x t h2⟩
        rcases (mem_insU x z t).mp hz with rfl | hz
        · exact o.tot _ _ hne (by simpa using hl)
        · exact h1 z hz
theorem ris_uniq (o : LtOk lt) : ∀ l : List α, (uniq lt l).Pairwise (fun a b => lt a b = true)
  | [] => List.Pairwise.nil
  | x :: t => ris_insU o x _ (ris_uniq o t)
theorem ris_eq (o : LtOk lt) : ∀ {l m : List α}, l.Pairwise (fun a b => lt a b = true) → m.Pairwise (fun a b => lt a b = true) → (∀ z, z ∈ l ↔ z ∈ m) → l = m
  | [], [], _, _, _ => rfl
  | [], y :: m, _, _, h => absurd ((h y).mpr List.mem_cons_self) (by simp)
  | x :: l, [], _, _, h => absurd ((h x).mp List.mem_cons_self) (by simp)
  | x :: l, y :: m, hl, hm, h => by
    obtain ⟨a1, a2⟩ := List.pairwise_cons.mp hl
    obtain ⟨b1, b2⟩ := List.pairwise_cons.mp hm
    have exy : x = y := by
      rcases List.mem_cons.mp ((h x).mp List.mem_cons_self) with e | hx
      · exact e
      · rcases List.mem_cons.mp ((h y).mpr List.mem_cons_self) with e | hy
        · exact e.symm
        · have := o.tr _ _ _ (a1 y hy) (b1 x hx)
          rw [o.irr] at this
          cases this
    subst exy
    congr 1
    refine ris_eq o a2 b2 fun z => ?_
    have irr : ∀ {k : List α}, (∀ a ∈ k, lt x a = true) → z ∈ k → z ≠ x := fun hk hz e => by
      have := hk z hz
      rw [e, o.irr] at this
      cases this
    constructor
    · intro hz
      rcases List.mem_cons.mp ((h z).mp (List.mem_cons_of_mem _ hz)) with e | e
      · exact absurd e (irr a1 hz)
      · exact e
    · intro hz
      rcases List.mem_cons.mp ((h z).mpr (List.mem_cons_of_mem _ hz)) with e | e
      · exact absurd e (irr b1 hz)
      · exact e
end
def ltI (x y : Int) : Bool := decide (x < y)
def ltP (p q : Int × Int) : Bool := decide (p.1 < q.1 ∨ (p.1 = q.1 ∧ p.2 < q.2))
theorem ltI_ok : LtOk ltI := ⟨by simp [ltI], fun x y z h g => by simp only [ltI, decide_eq_true_eq] at *; omega, fun x y h g => by simp only [ltI, decide_eq_true_eq, decide_eq_false_iff_not] at *; omega⟩
theorem ltP_ok : LtOk ltP := ⟨by simp [ltP], fun x y z h g => by simp only [ltP, decide_eq_true_eq] at *; omega, fun x y h g => by
  simp only [ltP, decide_eq_true_eq, decide_eq_false_iff_not] at *
  have : ¬ (x.1 = y.1 ∧ x.2 = y.2) := fun e => h (Prod.ext e.1 e.2)
  omega⟩
def pairsOf : List D → Option (List (Int × Int))
  | [] => some []
  | .tup [.int i, .int j] :: t => (pairsOf t).map ((i, j) :: ·)
  | _ => none
theorem iOf_eq : ∀ {xs : List D} {ns : List Int}, intsOf xs = some ns → xs = ns.map .int
  | [], ns, h => by simp [intsOf] at h; subst h; rfl
  | x :: t, ns, h => by
    cases x with
    | int i =>
      simp only [intsOf, Option.map_eq_some_iff] at h
      obtain ⟨m, hm, rfl⟩ := h
      rw [iOf_eq hm] <;> rfl
    | _ => cases h
theorem iOf_map : ∀ ns : List Int, intsOf (ns.map .int) = some ns
  | [] => rfl
  | n :: t => by simp [intsOf, iOf_map t]
theorem pairsOf_eq : ∀ {xs : List D} {ps : List (Int × Int)}, pairsOf xs = some ps → xs = ps.map fun p => .tup [.int p.1, .int p.2]
  | [], ns, h => by simp [pairsOf] at h; subst h; rfl
  | x :: t, ns, h => by
    unfold pairsOf at h
    split at h
    · rename_i e; cases e
    · rename_i e
      cases e
      simp only [Option.map_eq_some_iff] at h
      obtain ⟨m, hm, rfl⟩ := h
      rw [pairsOf_eq hm] <;> rfl
    · cases h
theorem pairsOf_map : ∀ ps : List (Int × Int), pairsOf (ps.map fun p => .tup [.int p.1, .int p.2]) = some ps
  | [] => rfl
  | p :: t => by simp [pairsOf, pairsOf_map t]
def ssetD : List D → M OD
  | [.lst xs] => match intsOf xs with
    | some ns => if ns.length < 64 then fresh (.lst ((uniq ltI ns).map .int)) else M.err
    | none => match pairsOf xs with
      | some ps => if ps.length < 64 ∧ (∀ p ∈ ps, (0 ≤ p.1 ∧ p.1 < 2 ^ 64) ∧ 0 ≤ p.2 ∧ p.2 < 2 ^ 64) then fresh (.lst ((uniq ltP ps).map fun p => .tup [.int p.1, .int p.2])) else M.err
      | none => M.err
  | _ => M.err
/-! ### the walk -/
def rSetOfI (K : PySem.W.Frag) (w : World) : List V → Hp → VK → Prop := fun xs H Q => ∃ (l : Addr) (ns : List Int), xs = [V.ref l] ∧ SqL K H l (ns.map V.int) ∧ ns.length < 64 ∧
  ∀ a c, H a = none → c < 64 → Q (.ref a) (upd H a (SetO w a (fun j => decide (j ∈ ns)) c))
theorem call_setI {X : Cx} (hc : X.calm = true) : CallR X (.type "set") (rSetOfI X.K X.w) := by
  intro pins s σ H xs us Q I r h
  obtain ⟨l, ns, rfl, hl, hf, q⟩ := h
  rw [Vals.ref1 r]
  obtain ⟨its, rv, pl, hz⟩ := I.list hl
  have hn : H s.heap.objs.size = none := I.hok.fresh (Nat.le_refl _)
  refine set_of_list (ns := ns) (I.ok.hd hc) pl.isList (by simpa using ints_of_vals rv) (Nat.lt_trans (Nat.add_lt_add_right hf 1) (by decide)) fun h' tk c ⟨R, hle, k⟩ => ?_
  exact ⟨.ref s.heap.objs.size, upd H s.heap.objs.size (SetO X.w s.heap.objs.size (fun j => decide (j ∈ ns)) c), I.laid (t' := tk) k (Nat.le_refl _) (setO_new R), rfl, q _ c hn (by omega)⟩
theorem boot_setTy : bootBuiltins "set" = some (.type "set") := by decide +kernel
theorem RepL.pairsD {K : KW} {F : Hp} {ι : List Addr} : ∀ {us : List V} {ps : List (Int × Int)}, RepL K F ι us (ps.map fun p => .tup [.int p.1, .int p.2]) → ∃ ks : List (Addr × List Int), us = ks.map (fun k => V.ref k.1) ∧ ks.map (·.2) = ps.map (fun p => [p.1, p.2]) ∧ ∀ k ∈ ks, SqT K.fr F k.1 (k.2.map V.int)
  | [], [], _ => ⟨[], rfl, rfl, by simp⟩
  | u :: us, p :: ps, .cons a t => by
    obtain ⟨ks, e1, e2, e3⟩ := RepL.pairsD t
    obtain ⟨b, vs, e, q, r⟩ := a.toTup
    have := RepL.ints (ns := [p.1, p.2]) r
    subst this e
    refine ⟨(b, [p.1, p.2]) :: ks, by rw [e1]; rfl, by simp [e2], fun k hk => ?_⟩
    rcases List.mem_cons.mp hk with rfl | hk
    · exact q
    · exact e3 k hk
  | _ :: _, [], h => by cases h
  | [], _ :: _, h => by cases h
theorem code2 (B x y : Int) : TS.code B [x, y] = x * B + y := by
  simp [TS.code, Int.pow_succ]
theorem lt_code {B x y x' y' : Int} (h : TS.code B [x, y] ≤ TS.code B [x', y']) (ne : ¬ (x = x' ∧ y = y')) (b1 : 0 ≤ y ∧ y < B) (b2 : 0 ≤ y' ∧ y' < B) : x < x' ∨ (x = x' ∧ y < y') := by
  rw [code2, code2] at h
  rcases Int.lt_trichotomy x x' with c | c | c
  · exact .inl c
  · subst c
    exact .inr ⟨rfl, by omega⟩
  · have : (x' + 1) * B ≤ x * B := Int.mul_le_mul_of_nonneg_right (by omega) (by omega)
    rw [Int.add_mul] at this
    omega
theorem RepL.ofInts {K : KW} {F : Hp} {ι : List Addr} : ∀ ns : List Int, RepL K F ι (ns.map V.int) (ns.map D.int)
  | [] => .nil
  | n :: t => .cons (.int n) (RepL.ofInts t)
def gP (q : Addr × List Int) : Int × Int := match q.2 with
  | [x, y] => (x, y)
  | _ => (0, 0)
section
variable {X : Cx} {P : Pm} {G : Gh} {ρ : Rho} {S : List D} {σ : L2.St} {H : Hp} {Q : VK}
theorem q_sset {vs : List V} {ds : List D} (hK : X.K = P.K) (hw : X.w = P.K.w) (r : R P.K P.b G ρ S σ H) (pl : PeekL P.K G H vs ds) (h : Post P (relO P) G σ (ssetD ds ρ S) Q) :
    rSetOfI X.K X.w vs H (fun x H2 => rSortedSet X.w [x] H2 Q ∨ rSortedT X.K X.prog X.w [x] H2 Q) ∨ rSetOfT X.K X.prog X.w vs H (fun x H2 => rSortedSet X.w [x] H2 Q ∨ rSortedT X.K X.prog X.w [x] H2 Q) := by
  unfold ssetD at h
  split at h
  · rename_i xs
    obtain ⟨y, rfl, p⟩ := pl.one
    obtain ⟨a, us, rfl, q, l⟩ := p.lst r.fr
    cases e : intsOf xs with
    | some ns =>
      simp only [e] at h
      obtain ⟨c, h⟩ := post_if h
      obtain rfl := iOf_eq e
      obtain rfl := l.ints
      refine .inl ⟨a, ns, rfl, by rw [hK]; exact SqL.of q, c, fun b n hb hn => .inl ⟨b, _, n, rfl, upd_same, hn, fun ms p hs hm hl hp => ?_⟩⟩
      have em : ms = uniq ltI ns := ris_eq ltI_ok (hs.imp fun hz => by simpa [ltI] using hz) (ris_uniq ltI_ok ns) fun z => by rw [hm z, decide_eq_true_eq, mem_uniq]
      subst em
      exact post_fresh h (r.new hb _) hp (RepL.ofInts _)
    | none =>
      simp only [e] at h
      cases e2 : pairsOf xs with
      | none => simp only [e2] at h; exact h.elim
      | some ps =>
        simp only [e2] at h
        obtain ⟨⟨c, cb⟩, h⟩ := post_if h
        obtain rfl := pairsOf_eq e2
        obtain ⟨ks, rfl, k2, k3⟩ := RepL.pairsD l
        have kp : ∀ k ∈ ks, ∃ p ∈ ps, k.2 = [p.1, p.2] := fun k hk => by
          have : k.2 ∈ ps.map fun p => [p.1, p.2] := by rw [← k2]; exact List.mem_map.mpr ⟨k, hk, rfl⟩
          obtain ⟨p, hp, e⟩ := List.mem_map.mp this
          exact ⟨p, hp, e.symm⟩
        have kl : ks.length = ps.length := by have := congrArg List.length k2; simpa using this
        refine .inr ⟨a, ks, rfl, by rw [hK]; exact SqL.of q, fun k hk => by rw [hK]; exact sub_t r.fr (k3 k hk), by rw [kl]; exact c, fun b L hb hs ha => .inr ⟨b, L, 2, 2 ^ 64, rfl, upd_same, fun k hk => ?_, by decide, fun k hk => ?_, fun L' p pm nd few pw hp => ?_⟩⟩
        · rw [hK]
          exact sub_t (r.new hb (SetTO X.prog X.w b L)).fr (k3 k (hs k hk))
        · obtain ⟨p, hp, e⟩ := kp k (hs k hk)
          rw [e]
          refine ⟨rfl, fun m hm => ?_⟩
          have := cb p hp
          simp only [List.mem_cons, List.not_mem_nil, or_false] at hm
          rcases hm with rfl | rfl
          · exact this.1
          · exact this.2
        · have kin : ∀ k ∈ L', ∃ p ∈ ps, k.2 = [p.1, p.2] ∧ gP k = p := fun k hk => by
            obtain ⟨p, hp, e⟩ := kp k (hs k (pm.mem_iff.mp hk))
            exact ⟨p, hp, e, by unfold gP; rw [e]⟩
          have em : L'.map gP = uniq ltP ps := by
            refine ris_eq ltP_ok ?_ (ris_uniq ltP_ok ps) fun z => ?_
            · rw [List.pairwise_map]
              have nd' := List.pairwise_map.mp nd
              refine (pw.and nd').imp_of_mem fun {x y} hx hy hh => ?_
              obtain ⟨p, hp, e, eg⟩ := kin x hx
              obtain ⟨p', hp', e', eg'⟩ := kin y hy
              rw [eg, eg']
              have h1 := hh.1
              have h2 := hh.2
              rw [e, e'] at h1 h2
              have := lt_code h1 (fun z => h2 (by rw [z.1, z.2])) (cb p hp).2 (cb p' hp').2
              simpa [ltP] using this
            · rw [mem_uniq, List.mem_map]
              constructor
              · rintro ⟨k, hk, rfl⟩
                obtain ⟨p, hp, e, eg⟩ := kin k hk
                rw [eg]
                exact hp
              · intro hz
                have : [z.1, z.2] ∈ ks.map (·.2) := by rw [k2]; exact List.mem_map.mpr ⟨z, hz, rfl⟩
                obtain ⟨k, hk, ek⟩ := List.mem_map.mp this
                obtain ⟨k', hk', ek'⟩ := List.mem_map.mp (ha k hk)
                have hk2 := pm.mem_iff.mpr hk'
                obtain ⟨p, hp, e, eg⟩ := kin k' hk2
                refine ⟨k', hk2, ?_⟩
                rw [eg]
                have : [p.1, p.2] = [z.1, z.2] := by rw [← e, ek', ek]
                injection this with a1 a2
                injection a2 with a2 _
                exact Prod.ext a1 a2
          rw [← em, List.map_map] at h
          have key := RepL.ofZip (K := P.K) (F := G.F) (ι := G.ι) (ts := L'.map fun k => (V.ref k.1, D.tup [.int (gP k).1, .int (gP k).2])) fun t ht => by
            obtain ⟨k, hk, rfl⟩ := List.mem_map.mp ht
            obtain ⟨p, hp, e, eg⟩ := kin k hk
            have := k3 k (hs k (pm.mem_iff.mp hk))
            rw [e] at this
            rw [eg]
            exact .tup this (.cons (.int _) (.cons (.int _) .nil))
          rw [List.map_map, List.map_map] at key
          exact post_fresh h (r.new hb _) hp key
  · exact h.elim
end
theorem t_sset {X : Cx} {P : Pm} {k : Nat} {e : Expr} {os : M (List Opd)} {p p2 pos pos2 : Pos} (ok : Ok k X P) (bn : Bn X "sorted") (bn2 : Bn X "set") (ha : PA X [e] (tmG P (relPL P) os)) (hs : isStar e = false) :
    PE X (.Call (.Name "sorted" p) [.Call (.Name "set" p2) [e] [] pos2] [] pos) (tmO P (biM os ssetD)) := by
  have hc := ok.calm
  have inner := pe_callTy (pos := pos2) (p := p2) (CallR.or (call_setI (X := X) hc) (cr_setOfT hc (by have := ok.un; omega))) bn2.g.g bn2.m boot_setTy ha (by decide +kernel) (by decide +kernel) (star1 hs) (by rfl)
  exact (pe_callB (CallR.or (cr_sortedSet (X := X) hc) (cr_sortedT hc)) bn.g.g bn.m boot_sorted (pa_cons inner pa_nil rfl) (by decide +kernel) (by decide +kernel) rfl (by rfl)).imp fun σ H Q q =>
    show tCB (fun vs H1 Q1 => rSetOfI X.K X.w vs H1 (fun x H2 => rSortedSet X.w [x] H2 Q1 ∨ rSortedT X.K X.prog X.w [x] H2 Q1) ∨ rSetOfT X.K X.prog X.w vs H1 (fun x H2 => rSortedSet X.w [x] H2 Q1 ∨ rSortedT X.K X.prog X.w [x] H2 Q1)) (tmG P (relPL P) os) σ H Q from
      call_of (fun {G ρ S H vs ds Q} r pl h => q_sset ok.hK ok.hw r pl h) q
end Mi

namespace Mi
open PySem PySem.Spec PyProof.Rows L2
/-! ### list(range(a, b)) -/
def lrgD (x y : D) : M OD := match x, y with
  | .int i, .int j => if (0 ≤ i ∧ i ≤ 1000000) ∧ 0 ≤ j ∧ j ≤ 1000000 then fresh (.lst (rngD i j)) else M.err
  | _, _ => M.err
theorem t_lrg {X : Cx} {P : Pm} {k : Nat} {a b : Expr} {oa ob : M Opd} {p p2 pos pos2 : Pos} (ok : Ok k X P) (bn : Bn X "list") (bn2 : Bn X "range") (ha : PE X a (tmP P oa)) (hb : PE X b (tmP P ob)) (h1 : isStar a = false) (h2 : isStar b = false) :
    PE X (.Call (.Name "list" p) [.Call (.Name "range" p2) [a, b] [] pos2] [] pos) (tmO P (op2M oa ob lrgD)) := by
  refine (pe_listRg (pos := pos) ok.calm bn.g.g bn.m (prg_2 (pos := pos2) bn2.g.g bn2.m ha hb (star1 h1) (star1 h2) (star0 (es := [b]) (by simp [h2]))) rfl).imp fun σ H Q q => ?_
  refine two_of (r := fun x y H Q => ∃ i j, x = V.int i ∧ y = V.int j ∧ RgOk i j ∧ ∀ q, H q = none → Q (.ref q) (upd H q (.lst (rgV i j)))) (g := lrgD) (fun {G ρ S σ H x y d e Q} r w1 w2 h => ?_) q
  unfold lrgD at h
  split at h
  · rename_i i j
    cases w1.int
    cases w2.int
    obtain ⟨c, h⟩ := post_if h
    refine ⟨i, j, rfl, rfl, RgOk.of_le c.1.1 (by omega) (by omega) c.2.1, fun q hq => post_fresh h r hq ?_⟩
    have e1 : rgV i j = (((List.range (j - i).toNat).map fun (k : Nat) => i + (k : Int))).map V.int := by
      unfold rgV
      rw [List.map_map]
      rfl
    have e2 : rngD i j = (((List.range (j - i).toNat).map fun (k : Nat) => i + (k : Int))).map D.int := by
      unfold rngD
      rw [List.map_map]
      rfl
    rw [e1, e2]
    exact RepL.ofInts _
  · exact h.elim
end Mi

namespace Mi
open PySem PySem.Spec PyProof.Rows L2
section
variable {α β : Type}
@[simp] theorem ap_bind (m : M α) (f : α → M β) (ρ : Rho) (S : List D) : (m >>= f) ρ S = match m ρ S with
  | .ok a ρ' S' => f a ρ' S'
  | .exc c vs ρ' S' => .exc c vs ρ' S'
  | .err => .err := Eq.trans rfl rfl
@[simp] theorem ap_pure (a : α) (ρ : Rho) (S : List D) : (pure a : M α) ρ S = .ok a ρ S := Eq.trans rfl rfl
@[simp] theorem ap_err (ρ : Rho) (S : List D) : (M.err : M α) ρ S = .err := Eq.trans rfl rfl
@[simp] theorem ap_thn (m : M α) (f : α → MS) (ρ : Rho) (S : List D) : M.thn m f ρ S = match m ρ S with
  | .ok a ρ' S' => f a ρ' S'
  | .exc c vs ρ' S' => .exc c vs ρ' S'
  | .err => .err := Eq.trans rfl rfl
@[simp] theorem ap_seq (m n : MS) (ρ : Rho) (S : List D) : seqS m n ρ S = match m ρ S with
  | .nxt ρ' S' => n ρ' S'
  | r => r := Eq.trans rfl rfl
@[simp] theorem ap_skip (ρ : Rho) (S : List D) : skipS ρ S = .nxt ρ S := Eq.trans rfl rfl
@[simp] theorem ap_gives (d : D) (ρ : Rho) (S : List D) : gives d ρ S = .ok (false, d) ρ S := Eq.trans rfl rfl
@[simp] theorem ap_fresh (d : D) (ρ : Rho) (S : List D) : fresh d ρ S = .ok (true, d) ρ S := Eq.trans rfl rfl
@[simp] theorem ap_ofBool (b : Bool) (ρ : Rho) (S : List D) : ofBool b ρ S = .ok (false, .bl b) ρ S := Eq.trans rfl rfl
@[simp] theorem ap_val (m : M OD) (ρ : Rho) (S : List D) : M.val m ρ S = match m ρ S with
  | .ok a ρ' S' => .ok a.2 ρ' S'
  | .exc c vs ρ' S' => .exc c vs ρ' S'
  | .err => .err := by
  unfold M.val
  rw [bind_ap]
  cases m ρ S <;> rfl
@[simp] theorem ap_opd (m : M OD) (ρ : Rho) (S : List D) : M.opd m ρ S = match m ρ S with
  | .ok a ρ' S' => .ok (.inr a.2) ρ' S'
  | .exc c vs ρ' S' => .exc c vs ρ' S'
  | .err => .err := by
  unfold M.opd
  rw [bind_ap, ap_val]
  cases m ρ S <;> rfl
@[simp] theorem ap_ite {c : Prop} [Decidable c] (m n : M α) (ρ : Rho) (S : List D) : (if c then m else n) ρ S = if c then m ρ S else n ρ S := by split <;> rfl
@[simp] theorem ap_iteS {c : Prop} [Decidable c] (m n : MS) (ρ : Rho) (S : List D) : (if c then m else n) ρ S = if c then m ρ S else n ρ S := by split <;> rfl
@[simp] theorem ap_asBool (b : Bool) (ρ : Rho) (S : List D) : asBool (.bl b) ρ S = .ok b ρ S := Eq.trans rfl rfl
@[simp] theorem der_non (ρ : Rho) (S : List D) : derM .non ρ S = .ok .non ρ S := Eq.trans rfl rfl
@[simp] theorem der_bl (b : Bool) (ρ : Rho) (S : List D) : derM (.bl b) ρ S = .ok (.bl b) ρ S := Eq.trans rfl rfl
@[simp] theorem der_int (b : Int) (ρ : Rho) (S : List D) : derM (.int b) ρ S = .ok (.int b) ρ S := Eq.trans rfl rfl
@[simp] theorem der_str (b : List Nat) (ρ : Rho) (S : List D) : derM (.str b) ρ S = .ok (.str b) ρ S := Eq.trans rfl rfl
@[simp] theorem der_tup (b : List D) (ρ : Rho) (S : List D) : derM (.tup b) ρ S = .ok (.tup b) ρ S := Eq.trans rfl rfl
@[simp] theorem der_lst (b : List D) (ρ : Rho) (S : List D) : derM (.lst b) ρ S = .ok (.lst b) ρ S := Eq.trans rfl rfl
@[simp] theorem der_scr (b : List Int) (ρ : Rho) (S : List D) : derM (.scr b) ρ S = .ok (.scr b) ρ S := Eq.trans rfl rfl
@[simp] theorem der_dct (k : Nat) (b : List (D × D)) (ρ : Rho) (S : List D) : derM (.dct k b) ρ S = .ok (.dct k b) ρ S := Eq.trans rfl rfl
@[simp] theorem der_obj (k : Nat) (b : List D) (ρ : Rho) (S : List D) : derM (.obj k b) ρ S = .ok (.obj k b) ρ S := Eq.trans rfl rfl
@[simp] theorem der_exn (k : Nat) (b : List D) (ρ : Rho) (S : List D) : derM (.exn k b) ρ S = .ok (.exn k b) ρ S := Eq.trans rfl rfl
@[simp] theorem der_cell (n : Nat) (ρ : Rho) (S : List D) : derM (.cell n) ρ S = match S[n]? with
  | some e => .ok e ρ S
  | none => .err := Eq.trans rfl rfl
theorem der_nc {d : D} (h : ∀ n, d ≠ .cell n) (ρ : Rho) (S : List D) : derM d ρ S = .ok d ρ S := by
  cases d with
  | cell n => exact absurd rfl (h n)
  | _ => rfl
@[simp] theorem ap_resR (d : D) (ρ : Rho) (S : List D) : resM (.inr d) ρ S = derM d ρ S := Eq.trans rfl rfl
@[simp] theorem ap_resL (i : Nat) (ρ : Rho) (S : List D) : resM (.inl i) ρ S = match ρ[i]? with
    | some (some x) => derM x.2 ρ S
    | _ => .err := Eq.trans rfl rfl
@[simp] theorem ap_chk (i : Nat) (ρ : Rho) (S : List D) : chkM i ρ S = match ρ[i]? with
  | some (some _) => .ok (.inl i) ρ S
  | _ => .err := Eq.trans rfl rfl
@[simp] theorem ap_var (i : Nat) (ρ : Rho) (S : List D) : varM i ρ S = match ρ[i]? with
  | some (some (own, d)) => .ok (false, d) (if own then ρ.set i (some (false, d)) else ρ) S
  | _ => .err := Eq.trans rfl rfl
@[simp] theorem ap_mov (i : Nat) (ρ : Rho) (S : List D) : movM i ρ S = match ρ[i]? with
  | some (some (own, d)) => .ok (own, d) (if own then ρ.set i none else ρ) S
  | _ => .err := Eq.trans rfl rfl
@[simp] theorem ap_op2 (oa ob : M Opd) (g : D → D → M OD) (ρ : Rho) (S : List D) : op2M oa ob g ρ S = (oa >>= fun x => ob >>= fun y => resM x >>= fun d => resM y >>= fun e => g d e) ρ S := Eq.trans rfl rfl
@[simp] theorem ap_test (m : M OD) (ρ : Rho) (S : List D) : M.test m ρ S = (m.val >>= asBool) ρ S := Eq.trans rfl rfl
@[simp] theorem ap_ifS (c : M OD) (m n : MS) (ρ : Rho) (S : List D) : ifS c m n ρ S = match M.test c ρ S with
  | .ok a ρ' S' => if a then m ρ' S' else n ρ' S'
  | .exc c vs ρ' S' => .exc c vs ρ' S'
  | .err => .err := by
  unfold ifS
  rw [ap_thn]
  cases M.test c ρ S with
  | ok a ρ' S' => exact ap_iteS m n ρ' S'
  | _ => rfl
@[simp] theorem ap_ret (m : M OD) (ρ : Rho) (S : List D) : retS m ρ S = match m ρ S with
  | .ok a ρ' S' => .ret a ρ' S'
  | .exc c vs ρ' S' => .exc c vs ρ' S'
  | .err => .err := by
  show M.thn m _ ρ S = _
  rw [ap_thn]
  cases m ρ S <;> rfl
@[simp] theorem ap_retN (ρ : Rho) (S : List D) : retN ρ S = .ret (false, .non) ρ S := Eq.trans rfl rfl
@[simp] theorem ap_set (i : Nat) (m : M OD) (ρ : Rho) (S : List D) : setS i m ρ S = match m ρ S with
  | .ok a ρ' S' => .nxt (ρ'.set i (some a)) S'
  | .exc c vs ρ' S' => .exc c vs ρ' S'
  | .err => .err := by
  show M.thn m _ ρ S = _
  rw [ap_thn]
  cases m ρ S <;> rfl
@[simp] theorem ap_setC (i : Nat) (m : M OD) (ρ : Rho) (S : List D) : setC i m ρ S = match m ρ S with
  | .ok a ρ' S' => if a.1 then .nxt (ρ'.set i (some (false, .cell S'.length))) (S' ++ [a.2]) else .err
  | .exc c vs ρ' S' => .exc c vs ρ' S'
  | .err => .err := by
  show M.thn m _ ρ S = _
  rw [ap_thn]
  cases m ρ S <;> rfl
@[simp] theorem ap_call (n : Nat) (g : Fn) (ms : M (List D)) (ρ : Rho) (S : List D) : callM n g ms ρ S = match ms ρ S with
  | .ok ds ρ' S' => if ds.length = n then (match g ds S' with
    | .ok x _ S' => .ok x ρ' S'
    | .exc c vs _ S' => .exc c vs ρ' S'
    | .err => .err) else .err
  | .exc c vs ρ' S' => .exc c vs ρ' S'
  | .err => .err := by
  show M.bnd ms _ ρ S = _
  unfold M.bnd
  cases ms ρ S <;> rfl
@[simp] theorem ap_consV (m : M OD) (ms : M (List D)) (ρ : Rho) (S : List D) : consV m ms ρ S = match m ρ S with
  | .ok a ρ' S' => (match ms ρ' S' with
    | .ok as ρ' S' => .ok (a.2 :: as) ρ' S'
    | .exc c vs ρ' S' => .exc c vs ρ' S'
    | .err => .err)
  | .exc c vs ρ' S' => .exc c vs ρ' S'
  | .err => .err := by
  unfold consV
  rw [bind_ap, ap_val]
  cases m ρ S with
  | ok a ρ' S' =>
    show ((ms >>= fun xs => pure (a.2 :: xs) : M (List D)) ρ' S') = _
    rw [bind_ap]
    dsimp only
    cases ms ρ' S' <;> rfl
  | _ => rfl
@[simp] theorem ap_consM (m : M Opd) (ms : M (List Opd)) (ρ : Rho) (S : List D) : consM m ms ρ S = match m ρ S with
  | .ok a ρ' S' => (match ms ρ' S' with
    | .ok as ρ' S' => .ok (a :: as) ρ' S'
    | .exc c vs ρ' S' => .exc c vs ρ' S'
    | .err => .err)
  | .exc c vs ρ' S' => .exc c vs ρ' S'
  | .err => .err := by
  unfold consM
  rw [bind_ap]
  cases m ρ S with
  | ok a ρ' S' =>
    show ((ms >>= fun xs => pure (a :: xs) : M (List Opd)) ρ' S') = _
    rw [bind_ap]
    dsimp only
    cases ms ρ' S' <;> rfl
  | _ => rfl
@[simp] theorem ap_lst (ms : M (List D)) (ρ : Rho) (S : List D) : lstM ms ρ S = match ms ρ S with
  | .ok ds ρ' S' => if ds.length ≤ LN then .ok (true, .lst ds) ρ' S' else .err
  | .exc c vs ρ' S' => .exc c vs ρ' S'
  | .err => .err := by
  unfold lstM
  rw [bind_ap]
  cases ms ρ S with
  | ok a ρ' S' => exact ap_ite _ _ _ _
  | _ => rfl
@[simp] theorem ap_tup (ms : M (List D)) (ρ : Rho) (S : List D) : tupM ms ρ S = match ms ρ S with
  | .ok ds ρ' S' => if ds.length ≤ LN then .ok (false, .tup ds) ρ' S' else .err
  | .exc c vs ρ' S' => .exc c vs ρ' S'
  | .err => .err := by
  unfold tupM
  rw [bind_ap]
  cases ms ρ S with
  | ok a ρ' S' => exact ap_ite _ _ _ _
  | _ => rfl
@[simp] theorem ap_bi (os : M (List Opd)) (g : List D → M OD) (ρ : Rho) (S : List D) : biM os g ρ S = (os >>= fun xs => resL xs >>= g) ρ S := Eq.trans rfl rfl
@[simp] theorem ap_resL0 (ρ : Rho) (S : List D) : resL [] ρ S = .ok [] ρ S := Eq.trans rfl rfl
@[simp] theorem ap_resL1 (x : Opd) (xs : List Opd) (ρ : Rho) (S : List D) : resL (x :: xs) ρ S = (resM x >>= fun d => resL xs >>= fun ds => pure (d :: ds)) ρ S := Eq.trans rfl rfl
@[simp] theorem ap_opt (o : Option α) (f : α → M OD) (ρ : Rho) (S : List D) : optM o f ρ S = match o with
  | some a => f a ρ S
  | none => .err := Eq.trans rfl rfl
@[simp] theorem ap_cell (n : Nat) (f : List D → M OD) (ρ : Rho) (S : List D) : cellL n f ρ S = match S[n]? with
  | some (.lst xs) => f xs ρ S
  | _ => .err := Eq.trans rfl rfl
@[simp] theorem ap_not (m : M OD) (ρ : Rho) (S : List D) : notM m ρ S = (m.test >>= fun b => ofBool (!b)) ρ S := Eq.trans rfl rfl
@[simp] theorem ap_and (m n : M OD) (ρ : Rho) (S : List D) : andM m n ρ S = (m.test >>= fun b => if b then n else ofBool false) ρ S := Eq.trans rfl rfl
@[simp] theorem ap_or (m n : M OD) (ρ : Rho) (S : List D) : orM m n ρ S = (m.test >>= fun b => if b then ofBool true else n) ρ S := Eq.trans rfl rfl
@[simp] theorem ap_bl (m : M OD) (ρ : Rho) (S : List D) : blM m ρ S = (m.test >>= ofBool) ρ S := Eq.trans rfl rfl
@[simp] theorem ap_body (n : Nat) (m : MS) (ds : List D) (S : List D) : bodyF n m ds S = match m (ds.map (fun d => some (false, d)) ++ List.replicate (n - ds.length) none) S with
  | .nxt _ S' => .ok (false, .non) [] S'
  | .ret x _ S' => .ok x [] S'
  | .exc c vs _ S' => .exc c vs [] S'
  | _ => .err := Eq.trans rfl rfl
@[simp] theorem ap_top {α : Type} (i : Nat) (f : D → M α) (ρ : Rho) (S : List D) : topM i f ρ S = match ρ[i]? with
  | some (some (true, d)) => f d ρ S
  | some (some (false, .cell n)) => (match S[n]? with
    | some d => f d ρ S
    | none => .err)
  | _ => .err := Eq.trans rfl rfl
@[simp] theorem ap_put (i : Nat) (d : D) (ρ : Rho) (S : List D) : putM i d ρ S = match ρ[i]? with
  | some (some (true, _)) => .ok () (ρ.set i (some (true, d))) S
  | some (some (false, .cell n)) => .ok () ρ (S.set n d)
  | _ => .err := Eq.trans rfl rfl
@[simp] theorem ap_chain (oa ob oc : M Opd) (g g' : D → D → M OD) (ρ : Rho) (S : List D) : chainM oa ob oc g g' ρ S = (oa >>= fun x => ob >>= fun y => resM x >>= fun d => resM y >>= fun e => M.test (g d e) >>= fun b => if b then oc >>= fun z => resM y >>= fun e' => resM z >>= fun f => g' e' f else ofBool false) ρ S := Eq.trans rfl rfl
@[simp] theorem ap_ifE (t m n : M OD) (ρ : Rho) (S : List D) : iteM t m n ρ S = (t.test >>= fun b => if b then m else n) ρ S := Eq.trans rfl rfl
@[simp] theorem ap_isi (o : M Opd) (T : Ty) (ρ : Rho) (S : List D) : isiM o T ρ S = (o >>= fun x => resM x >>= fun d => isiD T d) ρ S := by
  have : isiM o T = (o >>= fun x => resM x >>= fun d => isiD T d) := by
    unfold isiM
    rfl
  rw [this]
@[simp] theorem ap_is2 (o : M Opd) (T U : Ty) (ρ : Rho) (S : List D) : is2M o T U ρ S = (o >>= fun x => resM x >>= fun d => is2D T U d) ρ S := Eq.trans rfl rfl
@[simp] theorem ap_zip (ms : M (List D)) (ρ : Rho) (S : List D) : zipM ms ρ S = (ms >>= zipA) ρ S := Eq.trans rfl rfl
@[simp] theorem ap_neg (oa : M Opd) (ρ : Rho) (S : List D) : negM oa ρ S = (oa >>= fun x => resM x >>= fun d => match d with | .int i => gives (.int (-i)) | _ => M.err) ρ S := Eq.trans rfl rfl
@[simp] theorem ap_pcall (n : Nat) (g : Fn) (os : M (List Opd)) (ρ : Rho) (S : List D) : pcallM n g os ρ S = (os >>= fun xs => resL xs >>= pcallR n g) ρ S := Eq.trans rfl rfl
@[simp] theorem ap_ch3 (oa ob oc od : M Opd) (g g' g'' : D → D → M OD) (ρ : Rho) (S : List D) : ch3M oa ob oc od g g' g'' ρ S = (oa >>= fun x => ob >>= fun y => resM x >>= fun d => resM y >>= fun e => M.test (g d e) >>= fun b => if b then oc >>= fun z => resM y >>= fun e' => resM z >>= fun f => M.test (g' e' f) >>= fun b2 => (if b2 then od >>= fun w => resM z >>= fun f' => resM w >>= fun h => g'' f' h else ofBool false) else ofBool false) ρ S := Eq.trans rfl rfl
@[simp] theorem ap_itOs (os : M (List Opd)) (f : List D → M (List D)) (ρ : Rho) (S : List D) : itOs os f ρ S = (os >>= fun xs => resL xs >>= f) ρ S := Eq.trans rfl rfl
@[simp] theorem ap_itM (m : M OD) (ρ : Rho) (S : List D) : itM m ρ S = (m.val >>= itemsD) ρ S := Eq.trans rfl rfl
@[simp] theorem ap_for (it : M (List D)) (t : Tg) (b : MS) (ρ : Rho) (S : List D) : forS it t b ρ S = match it ρ S with
  | .ok ds ρ' S' => forL t b ds ρ' S'
  | .exc c vs ρ' S' => .exc c vs ρ' S'
  | .err => .err := by
  show M.thn it _ ρ S = _
  rw [ap_thn]
  cases it ρ S <;> rfl
def addK (i : Nat) (k : Int) : D → MS
  | .int j => fun ρ S => .nxt (ρ.set i (some (false, .int (k + j)))) S
  | _ => errS
def intK : D → Option Int
  | .int j => some j
  | _ => none
@[simp] theorem ap_add (i : Nat) (e : M OD) (ρ : Rho) (S : List D) : addS i e ρ S = match ρ[i]? with
  | some (some (false, .int k)) => (e.val.thn (addK i k)) ρ S
  | _ => .err := by
  unfold addS
  split
  · rename_i k h
    have key : e.val.thn (fun d ρ S => (match d with
      | .int j => SRes.nxt (ρ.set i (some (false, .int (k + j)))) S
      | _ => .err : SRes)) ρ S = e.val.thn (addK i k) ρ S := congrFun (congrFun (congrArg (M.thn e.val) (funext fun d => by funext ρ S; cases d <;> rfl)) ρ) S
    first
    | exact key
    | (simp only [h]; exact key)
  · rename_i h
    first
    | rfl
    | (split
       · rename_i k hk; exact absurd hk (h k)
       · rfl)
@[simp] theorem ap_rev (o : M Opd) (ρ : Rho) (S : List D) : revM o ρ S = (o >>= fun x => resM x >>= fun d => revD d) ρ S := Eq.trans rfl rfl
@[simp] theorem ap_sl (o : M Opd) (lo hi : M (Option Int)) (ρ : Rho) (S : List D) : slM o lo hi ρ S = (o >>= fun x => lo >>= fun l => hi >>= fun h => resM x >>= fun d => slD d l h) ρ S := Eq.trans rfl rfl
@[simp] theorem ap_part (m : M OD) (ρ : Rho) (S : List D) : partM m ρ S = match m ρ S with
  | .ok (_, .int i) ρ' S' => .ok (some i) ρ' S'
  | .exc c vs ρ' S' => .exc c vs ρ' S'
  | _ => .err := by
  unfold partM
  rw [ap_bind, ap_val]
  cases m ρ S with
  | ok a ρ' S' =>
    obtain ⟨o, d⟩ := a
    cases d <;> rfl
  | _ => rfl
def isND (neg : Bool) (d : D) : Bool := match d with
  | .non => !neg
  | _ => neg
@[simp] theorem ap_isN (o : M Opd) (neg : Bool) (ρ : Rho) (S : List D) : isNonM o neg ρ S = (o >>= fun x => resM x >>= fun d => ofBool (isND neg d)) ρ S := by
  have : isNonM o neg = (o >>= fun x => resM x >>= fun d => ofBool (isND neg d)) := by
    unfold isNonM
    congr 1
    funext x
    congr 1
    funext d
    cases d <;> rfl
  rw [this]
@[simp] theorem ap_drop (m : M OD) (ρ : Rho) (S : List D) : dropS m ρ S = match m ρ S with
  | .ok _ ρ' S' => .nxt ρ' S'
  | .exc c vs ρ' S' => .exc c vs ρ' S'
  | .err => .err := by
  show M.thn m _ ρ S = _
  rw [ap_thn]
  cases m ρ S <;> rfl
@[simp] theorem ap_asg (t : Tg) (m : M OD) (ρ : Rho) (S : List D) : asgS t m ρ S = match m ρ S with
  | .ok a ρ' S' => (match t.put a.2 ρ' with
    | some ρ'' => .nxt ρ'' S'
    | none => .err)
  | .exc c vs ρ' S' => .exc c vs ρ' S'
  | .err => .err := by
  show M.thn (M.val m) _ ρ S = _
  rw [ap_thn, ap_val]
  cases m ρ S <;> rfl
@[simp] theorem ap_mt (T : String) (o : M Opd) (os : M (List Opd)) (g : D → List D → M OD) (ρ : Rho) (S : List D) : mtM T o os g ρ S = (o >>= fun x => resM x >>= fun d0 => if tyOk T d0 then os >>= fun xs => resM x >>= fun d => resL xs >>= fun ds => g d ds else M.err) ρ S := Eq.trans rfl rfl
@[simp] theorem ap_vm (i : Nat) (f : VT) (ms : M (List D)) (ρ : Rho) (S : List D) : vmM i f ms ρ S = (chkM i >>= fun x => topM i fun d0 => if isLst d0 then ms >>= fun ds => topM i fun d => optM (f.sem d ds) fun p => putM i p.1 >>= fun _ => gives p.2 else M.err) ρ S := Eq.trans rfl rfl
/-! ### exceptions, classes -/
@[simp] theorem ap_keep (m : MS) (sub : List Bool) (i j : Nat) (ρ : Rho) (S : List D) : tryKeepS m sub i j ρ S = match m ρ S with
  | .exc c vs ρ' S' => (match sub[c]? with
    | some true => .nxt (((ρ'.set i none).set j (some (false, .exn c vs))).set i none) S'
    | some false => .exc c vs ρ' S'
    | none => .err)
  | r => r := Eq.trans rfl rfl
@[simp] theorem ap_only (m : MS) (sub : List Bool) (s : MS) (ρ : Rho) (S : List D) : tryOnlyS m sub s ρ S = match m ρ S with
  | .exc c vs ρ' S' => (match sub[c]? with
    | some true => s ρ' S'
    | some false => .exc c vs ρ' S'
    | none => .err)
  | r => r := Eq.trans rfl rfl
@[simp] theorem ap_raise0 (c : Nat) (ρ : Rho) (S : List D) : raise0S c ρ S = .exc c [] ρ S := Eq.trans rfl rfl
@[simp] theorem ap_raise1 (c : Nat) (m : M OD) (ρ : Rho) (S : List D) : raise1S c m ρ S = match m ρ S with
  | .ok a ρ' S' => .exc c [a.2] ρ' S'
  | .exc c vs ρ' S' => .exc c vs ρ' S'
  | .err => .err := by
  show M.thn (M.val m) _ ρ S = _
  rw [ap_thn, ap_val]
  cases m ρ S <;> rfl
@[simp] theorem ap_isx (o : M Opd) (tx to : List Bool) (ρ : Rho) (S : List D) : isxM o tx to ρ S = (o >>= fun x => resM x >>= fun d => isxD tx to d) ρ S := Eq.trans rfl rfl
@[simp] theorem ap_fld (o : M Opd) (xf : List Bool) (of : List (Option Nat)) (ρ : Rho) (S : List D) : fldM o xf of ρ S = (o >>= fun x => resM x >>= fun d => fldD xf of d) ρ S := Eq.trans rfl rfl
@[simp] theorem isx_exn0 (tx to : List Bool) (c : Nat) (ρ : Rho) (S : List D) : isxD tx to (.exn c []) ρ S = match tx[c]? with
  | some b => .ok (false, .bl b) ρ S
  | none => .err := by
  show (match tx[c]? with
    | some b => ofBool b
    | none => M.err : M OD) ρ S = _
  cases tx[c]? <;> rfl
@[simp] theorem isx_exn1 (tx to : List Bool) (c : Nat) (d : D) (ρ : Rho) (S : List D) : isxD tx to (.exn c [d]) ρ S = match tx[c]? with
  | some b => .ok (false, .bl b) ρ S
  | none => .err := by
  show (match tx[c]? with
    | some b => ofBool b
    | none => M.err : M OD) ρ S = _
  cases tx[c]? <;> rfl
@[simp] theorem isx_obj (tx to : List Bool) (c : Nat) (vs : List D) (ρ : Rho) (S : List D) : isxD tx to (.obj c vs) ρ S = match to[c]? with
  | some b => .ok (false, .bl b) ρ S
  | none => .err := by
  show (match to[c]? with
    | some b => ofBool b
    | none => M.err : M OD) ρ S = _
  cases to[c]? <;> rfl
@[simp] theorem isx_non (tx to : List Bool) (ρ : Rho) (S : List D) : isxD tx to .non ρ S = .ok (false, .bl false) ρ S := Eq.trans rfl rfl
@[simp] theorem isx_bl (tx to : List Bool) (b : Bool) (ρ : Rho) (S : List D) : isxD tx to (.bl b) ρ S = .ok (false, .bl false) ρ S := Eq.trans rfl rfl
@[simp] theorem isx_int (tx to : List Bool) (b : Int) (ρ : Rho) (S : List D) : isxD tx to (.int b) ρ S = .ok (false, .bl false) ρ S := Eq.trans rfl rfl
@[simp] theorem isx_str (tx to : List Bool) (b : List Nat) (ρ : Rho) (S : List D) : isxD tx to (.str b) ρ S = .ok (false, .bl false) ρ S := Eq.trans rfl rfl
@[simp] theorem isx_tup (tx to : List Bool) (b : List D) (ρ : Rho) (S : List D) : isxD tx to (.tup b) ρ S = .ok (false, .bl false) ρ S := Eq.trans rfl rfl
@[simp] theorem isx_lst (tx to : List Bool) (b : List D) (ρ : Rho) (S : List D) : isxD tx to (.lst b) ρ S = .ok (false, .bl false) ρ S := Eq.trans rfl rfl
@[simp] theorem fld_exn (xf : List Bool) (of : List (Option Nat)) (c : Nat) (d : D) (ρ : Rho) (S : List D) : fldD xf of (.exn c [d]) ρ S = if xf[c]? = some true then .ok (false, d) ρ S else .err := by
  show (if xf[c]? = some true then gives d else M.err : M OD) ρ S = _
  split <;> rfl
@[simp] theorem fld_obj (xf : List Bool) (of : List (Option Nat)) (c : Nat) (fs : List D) : fldD xf of (.obj c fs) = getF of c fs := Eq.trans rfl rfl
@[simp] theorem fld_cell (xf : List Bool) (of : List (Option Nat)) (n : Nat) (ρ : Rho) (S : List D) : fldD xf of (.cell n) ρ S = match S[n]? with
    | some (.obj c fs) => getF of c fs ρ S
    | _ => .err := Eq.trans rfl rfl
/-- a for loop keeps I -/
theorem forL_inv {t : Tg} {b : MS} {ds : List D} (I : Rho → List D → Prop)
    (h : ∀ x ∈ ds, ∀ ρ S, I ρ S → ∃ ρ0, t.put x ρ = some ρ0 ∧ ∃ ρ1 S1, (b ρ0 S = .nxt ρ1 S1 ∨ b ρ0 S = .cnt ρ1 S1) ∧ I ρ1 S1) : ∀ ρ S, I ρ S → ∃ ρ1 S1, forL t b ds ρ S = .nxt ρ1 S1 ∧ I ρ1 S1 := by
  induction ds with
  | nil => exact fun ρ S i => ⟨ρ, S, rfl, i⟩
  | cons x xs ih =>
    intro ρ S i
    obtain ⟨ρ0, e0, ρ1, S1, e1, i1⟩ := h x List.mem_cons_self ρ S i
    obtain ⟨ρ2, S2, e2, i2⟩ := ih (fun y hy => h y (List.mem_cons_of_mem _ hy)) ρ1 S1 i1
    refine ⟨ρ2, S2, ?_, i2⟩
    unfold forL
    rw [e0]
    rcases e1 with e1 | e1 <;> (dsimp only; rw [e1]; exact e2)
/-- a comprehension whose turns leave all as it was, but for what I says of the cells -/
theorem compL_inv {t : Tg} {c : Option (M OD)} {m : M OD} {own : List Nat} {ρw : Rho} (I : Nat → List D → Prop) (P : Nat → D → Prop) {ds : List D}
    (h : ∀ i x, ds[i]? = some x → ∀ S, I i S → ∃ d ρ1 S1, turnM t c m x ρw S = .ok (some d) ρ1 S1 ∧ wipeR ρ1 own = ρw ∧ I (i + 1) S1 ∧ P i d) :
    ∀ ρ S, wipeR ρ own = ρw → I 0 S → ∃ ys ρ1 S1, compL t c m own ds [] ρ S = .ok ys ρ1 S1 ∧ wipeR ρ1 own = ρw ∧ I ds.length S1 ∧ ys.length = ds.length ∧ ∀ i y, ys[i]? = some y → P i y := by
  suffices H : ∀ n, n ≤ ds.length → ∀ acc ρ S, acc.length = n → (∀ i y, acc[i]? = some y → P i y) → wipeR ρ own = ρw → I n S → ∃ ys ρ1 S1, compL t c m own (ds.drop n) acc ρ S = .ok ys ρ1 S1 ∧ wipeR ρ1 own = ρw ∧ I ds.length S1 ∧ ys.length = ds.length ∧ ∀ i y, ys[i]? = some y → P i y from
    fun ρ S hw i => H 0 (Nat.zero_le _) [] ρ S rfl (fun i y e => by simp at e) hw i
  intro n
  induction hk : ds.length - n generalizing n with
  | zero =>
    intro hn acc ρ S ha hp hw i
    have : n = ds.length := by omega
    subst this
    rw [List.drop_length]
    exact ⟨acc, ρ, S, rfl, hw, i, ha, hp⟩
  | succ k ih =>
    intro hn acc ρ S ha hp hw i
    have hlt : n < ds.length := by omega
    obtain ⟨d, ρ1, S1, e1, w1, i1, p1⟩ := h n ds[n] (List.getElem?_eq_getElem hlt) S i
    rw [List.drop_eq_getElem_cons hlt]
    unfold compL
    rw [hw, e1]
    refine ih (n + 1) (by omega) (by omega) (acc ++ [d]) ρ1 S1 (by simp [ha]) (fun j y e => ?_) w1 i1
    by_cases hj : j < acc.length
    · rw [List.getElem?_append_left hj] at e
      exact hp j y e
    · rw [List.getElem?_append_right (by omega)] at e
      have : j - acc.length = 0 := by
        have := (List.getElem?_eq_some_iff.mp e).1
        simp at this; omega
      rw [this] at e
      simp at e
      subst e
      rw [show j = n by omega]
      exact p1
/-- a comprehension that changes nothing -/
theorem compL_pure {t : Tg} {c : Option (M OD)} {m : M OD} {own : List Nat} {ρw : Rho} {S : List D} (f : D → Option D) {ds : List D}
    (h : ∀ x ∈ ds, ∃ ρ1, turnM t c m x ρw S = .ok (f x) ρ1 S ∧ wipeR ρ1 own = ρw) :
    ∀ acc ρ, wipeR ρ own = ρw → ∃ ρ1, compL t c m own ds acc ρ S = .ok (acc ++ ds.filterMap f) ρ1 S ∧ wipeR ρ1 own = ρw := by
  induction ds with
  | nil => exact fun acc ρ hw => ⟨ρ, by simp [compL], hw⟩
  | cons x xs ih =>
    intro acc ρ hw
    obtain ⟨ρ1, e1, w1⟩ := h x List.mem_cons_self
    have ih' := ih fun y hy => h y (List.mem_cons_of_mem _ hy)
    unfold compL
    rw [hw, e1]
    cases hf : f x with
    | none =>
      obtain ⟨ρ2, e2, w2⟩ := ih' acc ρ1 w1
      exact ⟨ρ2, by rw [List.filterMap_cons, hf]; exact e2, w2⟩
    | some d =>
      obtain ⟨ρ2, e2, w2⟩ := ih' (acc ++ [d]) ρ1 w1
      exact ⟨ρ2, by rw [List.filterMap_cons, hf]; simp only [List.append_assoc, List.singleton_append] at e2; exact e2, w2⟩
theorem wipeR_len (ρ : Rho) (own : List Nat) : (wipeR ρ own).length = ρ.length := by
  induction own with
  | nil => rfl
  | cons a t ih => unfold wipeR; rw [List.length_set, ih]
theorem backR_eq {ρ0 ρ1 ρ2 : Rho} {own : List Nat} (h : wipeR ρ1 own = wipeR ρ2 own) : backR ρ0 ρ1 own = backR ρ0 ρ2 own := by
  have key : ∀ (own : List Nat) (ρ : Rho) (j : Nat), (backR ρ0 ρ own)[j]? = if j ∈ own ∧ j < ρ.length then some (match ρ0[j]? with | some (some (false, d)) => some (false, d) | _ => none) else ρ[j]? := by
    intro own
    induction own with
    | nil => intro ρ j; simp [backR]
    | cons v vs ih =>
      intro ρ j
      have hl : (backR ρ0 ρ vs).length = ρ.length := by
        clear ih
        induction vs with
        | nil => rfl
        | cons a t ih => unfold backR; rw [List.length_set, ih]
      unfold backR
      rw [List.getElem?_set, hl, ih]
      by_cases hv : v = j
      · subst hv
        by_cases hj : v < ρ.length
        · simp [hj] <;> rfl
        · simp [hj, List.getElem?_eq_none (Nat.le_of_not_lt hj)]
      · simp [hv, Ne.symm hv]
  have hl : ρ1.length = ρ2.length := by
    have := congrArg List.length h
    rwa [wipeR_len, wipeR_len] at this
  refine List.ext_getElem? fun j => ?_
  rw [key, key, hl]
  by_cases hj : j ∈ own
  · by_cases hj2 : j < ρ2.length
    · simp [hj, hj2]
    · simp [hj2, List.getElem?_eq_none (Nat.le_of_not_lt hj2), List.getElem?_eq_none (show ρ1.length ≤ j by omega)]
  · have := congrArg (fun l => l[j]?) h
    simp only [wipeR_get, hj, false_and, if_false] at this
    simp [hj, this]
end
end Mi
namespace Mi
open PySem PySem.Spec PyProof.Rows L2
/-! ### data -/
theorem atI_in {α : Type} {xs : List α} {i : Int} (h0 : 0 ≤ i) (h1 : i < xs.length) : ∃ d, atI xs i = some d ∧ d ∈ xs ∧ xs[i.toNat]? = some d := by
  have h : i.toNat < xs.length := by omega
  refine ⟨xs[i.toNat], ?_, List.getElem_mem h, List.getElem?_eq_getElem h⟩
  unfold atI ixN
  simp [h0, h1, h]
theorem cut_len {α : Type} (xs : List α) (lo hi : Option Int) : (cut xs lo hi).length ≤ xs.length := by
  unfold cut
  rw [List.length_take, List.length_drop]
  omega
theorem cut_mem {α : Type} {xs : List α} {lo hi : Option Int} {x : α} (h : x ∈ cut xs lo hi) : x ∈ xs := List.mem_of_mem_drop (List.mem_of_mem_take h)
theorem joinL_nil (t : List Nat) : TL.joinL [] (t.map fun c => [c]) = t := by
  induction t with
  | nil => rfl
  | cons a t ih =>
    cases t with
    | nil => rfl
    | cons b r =>
      show [a] ++ ([] ++ TL.joinL [] ((b :: r).map fun c => [c])) = _
      rw [ih]
      rfl
theorem strsOf_map (t : List Nat) : strsOf (t.map fun c => D.str [c]) = some (t.map fun c => [c]) := by
  induction t with
  | nil => rfl
  | cons a t ih => simp [strsOf, ih]
/-- signs one by one -/
theorem signs_of {P : Nat → Prop} : ∀ {ys : List D}, (∀ y ∈ ys, ∃ c, y = .str [c] ∧ P c) → ∃ t : List Nat, ys = t.map (fun c => D.str [c]) ∧ ∀ c ∈ t, P c
  | [], _ => ⟨[], rfl, by simp⟩
  | y :: ys, h => by
    obtain ⟨c, rfl, hc⟩ := h y List.mem_cons_self
    obtain ⟨t, rfl, ht⟩ := signs_of fun z hz => h z (List.mem_cons_of_mem _ hz)
    exact ⟨c :: t, rfl, fun d hd => by
      rcases List.mem_cons.mp hd with h1 | h1
      · rw [h1]; exact hc
      · exact ht d h1⟩
theorem sum_ones (t : List Nat) : ((t.map fun c => [c]).map (·.length)).sum = t.length := by
  induction t with
  | nil => rfl
  | cons a t ih => simp at ih ⊢; omega
theorem join_signs {t : List Nat} (h : t.length ≤ LN) : MT.sem .join (.str []) [.lst (t.map fun c => .str [c])] = gives (.str t) := by
  show optM (strsOf _) _ = _
  rw [strsOf_map]
  show (if ((t.map fun c => [c]).map (·.length)).sum + (t.map fun c => [c]).length * 0 ≤ LN then gives (.str (TL.joinL [] (t.map fun c => [c]))) else M.err) = _
  rw [if_pos (by rw [sum_ones]; omega), joinL_nil]
theorem join_signs' {t : List Nat} (h : t.length ≤ 16777216) (ρ : Rho) (S : List D) : MT.sem .join (.str []) [.lst (t.map fun c => .str [c])] ρ S = .ok (false, .str t) ρ S := by
  rw [join_signs h]
  rfl
def D.eqbL (xs ys : List D) : Bool := PyData.eqvAll (D.pyL xs) (D.pyL ys)
@[simp] theorem eqb_non_non : D.eqb (.non) (.non) = true := by first | rfl | simp [D.eqb, D.py, PyData.eqv] | (rw [Bool.eq_iff_iff]; simp [D.eqb, D.py, PyData.eqv])
@[simp] theorem eqb_non_bl (y : Bool) : D.eqb (.non) (.bl y) = false := by first | rfl | simp [D.eqb, D.py, PyData.eqv] | (rw [Bool.eq_iff_iff]; simp [D.eqb, D.py, PyData.eqv])
@[simp] theorem eqb_non_int (y : Int) : D.eqb (.non) (.int y) = false := by first | rfl | simp [D.eqb, D.py, PyData.eqv] | (rw [Bool.eq_iff_iff]; simp [D.eqb, D.py, PyData.eqv])
@[simp] theorem eqb_non_str (y : List Nat) : D.eqb (.non) (.str y) = false := by first | rfl | simp [D.eqb, D.py, PyData.eqv] | (rw [Bool.eq_iff_iff]; simp [D.eqb, D.py, PyData.eqv])
@[simp] theorem eqb_non_lst (y : List D) : D.eqb (.non) (.lst y) = false := by first | rfl | simp [D.eqb, D.py, PyData.eqv] | (rw [Bool.eq_iff_iff]; simp [D.eqb, D.py, PyData.eqv])
@[simp] theorem eqb_non_tup (y : List D) : D.eqb (.non) (.tup y) = false := by first | rfl | simp [D.eqb, D.py, PyData.eqv] | (rw [Bool.eq_iff_iff]; simp [D.eqb, D.py, PyData.eqv])
@[simp] theorem eqb_bl_non (x : Bool) : D.eqb (.bl x) (.non) = false := by first | rfl | simp [D.eqb, D.py, PyData.eqv] | (rw [Bool.eq_iff_iff]; simp [D.eqb, D.py, PyData.eqv])
@[simp] theorem eqb_bl_bl (x : Bool) (y : Bool) : D.eqb (.bl x) (.bl y) = (x == y) := by first | rfl | simp [D.eqb, D.py, PyData.eqv] | (rw [Bool.eq_iff_iff]; simp [D.eqb, D.py, PyData.eqv])
@[simp] theorem eqb_bl_int (x : Bool) (y : Int) : D.eqb (.bl x) (.int y) = decide ((if x then 1 else 0) = y) := by first | rfl | simp [D.eqb, D.py, PyData.eqv] | (rw [Bool.eq_iff_iff]; simp [D.eqb, D.py, PyData.eqv])
@[simp] theorem eqb_bl_str (x : Bool) (y : List Nat) : D.eqb (.bl x) (.str y) = false := by first | rfl | simp [D.eqb, D.py, PyData.eqv] | (rw [Bool.eq_iff_iff]; simp [D.eqb, D.py, PyData.eqv])
@[simp] theorem eqb_bl_lst (x : Bool) (y : List D) : D.eqb (.bl x) (.lst y) = false := by first | rfl | simp [D.eqb, D.py, PyData.eqv] | (rw [Bool.eq_iff_iff]; simp [D.eqb, D.py, PyData.eqv])
@[simp] theorem eqb_bl_tup (x : Bool) (y : List D) : D.eqb (.bl x) (.tup y) = false := by first | rfl | simp [D.eqb, D.py, PyData.eqv] | (rw [Bool.eq_iff_iff]; simp [D.eqb, D.py, PyData.eqv])
@[simp] theorem eqb_int_non (x : Int) : D.eqb (.int x) (.non) = false := by first | rfl | simp [D.eqb, D.py, PyData.eqv] | (rw [Bool.eq_iff_iff]; simp [D.eqb, D.py, PyData.eqv])
@[simp] theorem eqb_int_bl (x : Int) (y : Bool) : D.eqb (.int x) (.bl y) = decide (x = if y then 1 else 0) := by first | rfl | simp [D.eqb, D.py, PyData.eqv] | (rw [Bool.eq_iff_iff]; simp [D.eqb, D.py, PyData.eqv])
@[simp] theorem eqb_int_int (x : Int) (y : Int) : D.eqb (.int x) (.int y) = decide (x = y) := by first | rfl | simp [D.eqb, D.py, PyData.eqv] | (rw [Bool.eq_iff_iff]; simp [D.eqb, D.py, PyData.eqv])
@[simp] theorem eqb_int_str (x : Int) (y : List Nat) : D.eqb (.int x) (.str y) = false := by first | rfl | simp [D.eqb, D.py, PyData.eqv] | (rw [Bool.eq_iff_iff]; simp [D.eqb, D.py, PyData.eqv])
@[simp] theorem eqb_int_lst (x : Int) (y : List D) : D.eqb (.int x) (.lst y) = false := by first | rfl | simp [D.eqb, D.py, PyData.eqv] | (rw [Bool.eq_iff_iff]; simp [D.eqb, D.py, PyData.eqv])
@[simp] theorem eqb_int_tup (x : Int) (y : List D) : D.eqb (.int x) (.tup y) = false := by first | rfl | simp [D.eqb, D.py, PyData.eqv] | (rw [Bool.eq_iff_iff]; simp [D.eqb, D.py, PyData.eqv])
@[simp] theorem eqb_str_non (x : List Nat) : D.eqb (.str x) (.non) = false := by first | rfl | simp [D.eqb, D.py, PyData.eqv] | (rw [Bool.eq_iff_iff]; simp [D.eqb, D.py, PyData.eqv])
@[simp] theorem eqb_str_bl (x : List Nat) (y : Bool) : D.eqb (.str x) (.bl y) = false := by first | rfl | simp [D.eqb, D.py, PyData.eqv] | (rw [Bool.eq_iff_iff]; simp [D.eqb, D.py, PyData.eqv])
@[simp] theorem eqb_str_int (x : List Nat) (y : Int) : D.eqb (.str x) (.int y) = false := by first | rfl | simp [D.eqb, D.py, PyData.eqv] | (rw [Bool.eq_iff_iff]; simp [D.eqb, D.py, PyData.eqv])
@[simp] theorem eqb_str_str (x : List Nat) (y : List Nat) : D.eqb (.str x) (.str y) = decide (x = y) := by
  show (({ cps := x.toArray } : Str) == { cps := y.toArray }) = _
  rw [Bool.eq_iff_iff]
  simp
@[simp] theorem eqb_str_lst (x : List Nat) (y : List D) : D.eqb (.str x) (.lst y) = false := by first | rfl | simp [D.eqb, D.py, PyData.eqv] | (rw [Bool.eq_iff_iff]; simp [D.eqb, D.py, PyData.eqv])
@[simp] theorem eqb_str_tup (x : List Nat) (y : List D) : D.eqb (.str x) (.tup y) = false := by first | rfl | simp [D.eqb, D.py, PyData.eqv] | (rw [Bool.eq_iff_iff]; simp [D.eqb, D.py, PyData.eqv])
@[simp] theorem eqb_lst_non (x : List D) : D.eqb (.lst x) (.non) = false := by first | rfl | simp [D.eqb, D.py, PyData.eqv] | (rw [Bool.eq_iff_iff]; simp [D.eqb, D.py, PyData.eqv])
@[simp] theorem eqb_lst_bl (x : List D) (y : Bool) : D.eqb (.lst x) (.bl y) = false := by first | rfl | simp [D.eqb, D.py, PyData.eqv] | (rw [Bool.eq_iff_iff]; simp [D.eqb, D.py, PyData.eqv])
@[simp] theorem eqb_lst_int (x : List D) (y : Int) : D.eqb (.lst x) (.int y) = false := by first | rfl | simp [D.eqb, D.py, PyData.eqv] | (rw [Bool.eq_iff_iff]; simp [D.eqb, D.py, PyData.eqv])
@[simp] theorem eqb_lst_str (x : List D) (y : List Nat) : D.eqb (.lst x) (.str y) = false := by first | rfl | simp [D.eqb, D.py, PyData.eqv] | (rw [Bool.eq_iff_iff]; simp [D.eqb, D.py, PyData.eqv])
@[simp] theorem eqb_lst_lst (x : List D) (y : List D) : D.eqb (.lst x) (.lst y) = D.eqbL x y := by first | rfl | simp [D.eqb, D.py, PyData.eqv] | (rw [Bool.eq_iff_iff]; simp [D.eqb, D.py, PyData.eqv])
@[simp] theorem eqb_lst_tup (x : List D) (y : List D) : D.eqb (.lst x) (.tup y) = false := by first | rfl | simp [D.eqb, D.py, PyData.eqv] | (rw [Bool.eq_iff_iff]; simp [D.eqb, D.py, PyData.eqv])
@[simp] theorem eqb_tup_non (x : List D) : D.eqb (.tup x) (.non) = false := by first | rfl | simp [D.eqb, D.py, PyData.eqv] | (rw [Bool.eq_iff_iff]; simp [D.eqb, D.py, PyData.eqv])
@[simp] theorem eqb_tup_bl (x : List D) (y : Bool) : D.eqb (.tup x) (.bl y) = false := by first | rfl | simp [D.eqb, D.py, PyData.eqv] | (rw [Bool.eq_iff_iff]; simp [D.eqb, D.py, PyData.eqv])
@[simp] theorem eqb_tup_int (x : List D) (y : Int) : D.eqb (.tup x) (.int y) = false := by first | rfl | simp [D.eqb, D.py, PyData.eqv] | (rw [Bool.eq_iff_iff]; simp [D.eqb, D.py, PyData.eqv])
@[simp] theorem eqb_tup_str (x : List D) (y : List Nat) : D.eqb (.tup x) (.str y) = false := by first | rfl | simp [D.eqb, D.py, PyData.eqv] | (rw [Bool.eq_iff_iff]; simp [D.eqb, D.py, PyData.eqv])
@[simp] theorem eqb_tup_lst (x : List D) (y : List D) : D.eqb (.tup x) (.lst y) = false := by first | rfl | simp [D.eqb, D.py, PyData.eqv] | (rw [Bool.eq_iff_iff]; simp [D.eqb, D.py, PyData.eqv])
@[simp] theorem eqb_tup_tup (x : List D) (y : List D) : D.eqb (.tup x) (.tup y) = D.eqbL x y := by first | rfl | simp [D.eqb, D.py, PyData.eqv] | (rw [Bool.eq_iff_iff]; simp [D.eqb, D.py, PyData.eqv])
@[simp] theorem eqbL_nn : D.eqbL [] [] = true := rfl
@[simp] theorem eqbL_nc (y : D) (ys : List D) : D.eqbL [] (y :: ys) = false := rfl
@[simp] theorem eqbL_cn (y : D) (ys : List D) : D.eqbL (y :: ys) [] = false := rfl
@[simp] theorem eqbL_cc (x y : D) (xs ys : List D) : D.eqbL (x :: xs) (y :: ys) = (D.eqb x y && D.eqbL xs ys) := rfl
theorem blsOf_map {α : Type} (f : α → Bool) (l : List α) : blsOf (l.map fun c => D.bl (f c)) = some (l.map f) := by
  induction l with
  | nil => rfl
  | cons a t ih => simp [blsOf, ih]
theorem intsOf_map {α : Type} (f : α → Int) (l : List α) : intsOf (l.map fun c => D.int (f c)) = some (l.map f) := by
  induction l with
  | nil => rfl
  | cons a t ih => simp [intsOf, ih]
/-- a comprehension over a text's signs that changes nothing, each turn giving one thing -/
theorem comp_map {α : Type} {t : Tg} {m : M OD} {own : List Nat} {ρw : Rho} {S : List D} (w : α → D) (g : α → D) {xs : List α}
    (h : ∀ x ∈ xs, ∃ ρ1, turnM t none m (w x) ρw S = .ok (some (g x)) ρ1 S ∧ wipeR ρ1 own = ρw) (ρ : Rho) (hw : wipeR ρ own = ρw) : ∃ ρ1, compL t none m own (xs.map w) [] ρ S = .ok (xs.map g) ρ1 S ∧ wipeR ρ1 own = ρw := by
  suffices H : ∀ acc ρ, wipeR ρ own = ρw → ∃ ρ1, compL t none m own (xs.map w) acc ρ S = .ok (acc ++ xs.map g) ρ1 S ∧ wipeR ρ1 own = ρw from by simpa using H [] ρ hw
  clear hw ρ
  induction xs with
  | nil => exact fun acc ρ hw => ⟨ρ, by simp [compL], hw⟩
  | cons x xs ih =>
    intro acc ρ hw
    obtain ⟨ρ1, e1, w1⟩ := h x List.mem_cons_self
    obtain ⟨ρ2, e2, w2⟩ := ih (fun y hy => h y (List.mem_cons_of_mem _ hy)) (acc ++ [g x]) ρ1 w1
    refine ⟨ρ2, ?_, w2⟩
    rw [List.map_cons]
    unfold compL
    rw [hw, e1]
    simpa using e2
/-- with a test -/
theorem comp_flt {α : Type} {t : Tg} {c : M OD} {m : M OD} {own : List Nat} {ρw : Rho} {S : List D} (w : α → D) (k : α → Bool) (g : α → D) {xs : List α}
    (h : ∀ x ∈ xs, ∃ ρ1, turnM t (some c) m (w x) ρw S = .ok (if k x then some (g x) else none) ρ1 S ∧ wipeR ρ1 own = ρw) (ρ : Rho) (hw : wipeR ρ own = ρw) : ∃ ρ1, compL t (some c) m own (xs.map w) [] ρ S = .ok ((xs.filter k).map g) ρ1 S ∧ wipeR ρ1 own = ρw := by
  suffices H : ∀ acc ρ, wipeR ρ own = ρw → ∃ ρ1, compL t (some c) m own (xs.map w) acc ρ S = .ok (acc ++ (xs.filter k).map g) ρ1 S ∧ wipeR ρ1 own = ρw from by simpa using H [] ρ hw
  clear hw ρ
  induction xs with
  | nil => exact fun acc ρ hw => ⟨ρ, by simp [compL], hw⟩
  | cons x xs ih =>
    intro acc ρ hw
    obtain ⟨ρ1, e1, w1⟩ := h x List.mem_cons_self
    rw [List.map_cons]
    unfold compL
    rw [hw, e1]
    cases hk : k x with
    | true =>
      obtain ⟨ρ2, e2, w2⟩ := ih (fun y hy => h y (List.mem_cons_of_mem _ hy)) (acc ++ [g x]) ρ1 w1
      exact ⟨ρ2, by simpa [hk] using e2, w2⟩
    | false =>
      obtain ⟨ρ2, e2, w2⟩ := ih (fun y hy => h y (List.mem_cons_of_mem _ hy)) acc ρ1 w1
      exact ⟨ρ2, by simpa [hk] using e2, w2⟩
theorem dleL_all {n : Nat} : ∀ {xs : List D}, (∀ x ∈ xs, D.dle n x = true) → D.dleL (n + 1) xs = true
  | [], _ => by simp [D.dleL]
  | x :: xs, h => by
    unfold D.dleL
    rw [h x List.mem_cons_self, dleL_all fun y hy => h y (List.mem_cons_of_mem _ hy)]
    rfl
@[simp] theorem dle_signs (t : List Nat) : D.dleL 60 (t.map fun c => .str [c]) = true := dleL_all fun x hx => by
  obtain ⟨c, _, rfl⟩ := List.mem_map.mp hx
  simp [D.dle]
theorem log2_small {n : Nat} (h : n < 2 ^ 250) : n.log2 < 1920 := by
  by_cases h0 : n = 0
  · subst h0; decide
  · exact (Nat.log2_lt h0).mpr (Nat.lt_of_lt_of_le h (Nat.pow_le_pow_right (by decide) (by decide)))
theorem str_of {i : Int} (h0 : -(2 ^ 250) < i) (h1 : i < 2 ^ 250) (ρ : Rho) (S : List D) : BI.sem .str [.int i] ρ S = .ok (false, .str (decI i)) ρ S := by
  show (if i.natAbs.log2 < 1920 then gives (.str (decI i)) else M.err : M OD) ρ S = _
  rw [if_pos (log2_small (by omega))]
  rfl
/-- a for loop, by the turn -/
theorem forL_idx {t : Tg} {b : MS} {ds : List D} (I : Nat → Rho → List D → Prop)
    (h : ∀ i x, ds[i]? = some x → ∀ ρ S, I i ρ S → ∃ ρ0, t.put x ρ = some ρ0 ∧ ∃ ρ1 S1, (b ρ0 S = .nxt ρ1 S1 ∨ b ρ0 S = .cnt ρ1 S1) ∧ I (i + 1) ρ1 S1) (ρ : Rho) (S : List D) (hI : I 0 ρ S) : ∃ ρ1 S1, forL t b ds ρ S = .nxt ρ1 S1 ∧ I ds.length ρ1 S1 := by
  induction ds generalizing I ρ S with
  | nil => exact ⟨ρ, S, rfl, hI⟩
  | cons x xs ih =>
    obtain ⟨ρ0, e0, ρ1, S1, e1, i1⟩ := h 0 x rfl ρ S hI
    obtain ⟨ρ2, S2, e2, i2⟩ := ih (fun i => I (i + 1)) (fun i y hy => h (i + 1) y (by simpa using hy)) ρ1 S1 i1
    refine ⟨ρ2, S2, ?_, i2⟩
    unfold forL
    rw [e0]
    rcases e1 with e1 | e1 <;> (dsimp only; rw [e1]; exact e2)
theorem rng_at {n : Int} {i : Nat} {x : D} (h : (rngD 0 n)[i]? = some x) : x = .int i ∧ (i : Int) < n := by
  unfold rngD at h
  rw [List.getElem?_map] at h
  cases q : (List.range (n - 0).toNat)[i]? with
  | none => rw [q] at h; cases h
  | some k =>
    rw [q] at h
    have hk := (List.getElem?_eq_some_iff.mp q)
    obtain ⟨hl, e⟩ := hk
    simp at hl e
    subst e
    simp at h
    exact ⟨h.symm, by omega⟩
theorem rng_len (n : Int) : (rngD 0 n).length = n.toNat := by simp [rngD]
@[simp] theorem eqb_scr_nil (ns : List Int) : D.eqb (.scr ns) (.lst []) = ns.isEmpty := by
  cases ns with
  | nil => rfl
  | cons n ms => rfl
theorem rng1_ok {n : Int} (h0 : -1000000000000000 ≤ n) (h1 : n ≤ 1000000000000000) (ρ : Rho) (S : List D) : rng1A [.int n] ρ S = .ok (rngD 0 n) ρ S := by
  show (if n.natAbs < 2 ^ 62 then pure (rngD 0 n) else M.err : M (List D)) ρ S = _
  rw [if_pos (by omega)]
  rfl
theorem rng2_ok {m n : Int} (a0 : -1000000000000000 ≤ m) (a1 : m ≤ 1000000000000000) (h0 : -1000000000000000 ≤ n) (h1 : n ≤ 1000000000000000) (ρ : Rho) (S : List D) : rng2A [.int m, .int n] ρ S = .ok (rngD m n) ρ S := by
  show (if m.natAbs < 2 ^ 62 ∧ n.natAbs < 2 ^ 62 then pure (rngD m n) else M.err : M (List D)) ρ S = _
  rw [if_pos ⟨by omega, by omega⟩]
  rfl
/-! ### statement by statement -/
theorem seqN {m n : MS} {ρ ρ' : Rho} {S S' : List D} (h : m ρ S = .nxt ρ' S') : seqS m n ρ S = n ρ' S' := by rw [ap_seq, h]
theorem seqR {m n : MS} {ρ ρ' : Rho} {S S' : List D} {x : OD} (h : m ρ S = .ret x ρ' S') : seqS m n ρ S = .ret x ρ' S' := by rw [ap_seq, h]
theorem bodyR {n : Nat} {m : MS} {ds S S' : List D} {x : OD} {ρ' : Rho} (h : m (ds.map (fun d => some (false, d)) ++ List.replicate (n - ds.length) none) S = .ret x ρ' S') : bodyF n m ds S = .ok x [] S' := by rw [ap_body, h]
theorem bodyN {n : Nat} {m : MS} {ds S S' : List D} {ρ' : Rho} (h : m (ds.map (fun d => some (false, d)) ++ List.replicate (n - ds.length) none) S = .nxt ρ' S') : bodyF n m ds S = .ok (false, .non) [] S' := by rw [ap_body, h]
theorem lst_nil (ρ : Rho) (S : List D) : lstM (pure []) ρ S = .ok (true, .lst []) ρ S := by
  rw [ap_lst]
  rfl
end Mi

namespace Mi
open PySem PySem.Spec PyProof.Rows L2
/-! ### slots, short -/
abbrev vI (i : Int) : Sl := some (false, .int i)
abbrev vB (b : Bool) : Sl := some (false, .bl b)
abbrev vS (s : List Nat) : Sl := some (false, .str s)
abbrev vL (xs : List D) : Sl := some (false, .lst xs)
abbrev oL (xs : List D) : Sl := some (true, .lst xs)
abbrev vT (xs : List D) : Sl := some (false, .tup xs)
abbrev vC (n : Nat) : Sl := some (false, .cell n)
abbrev vD (d : D) : Sl := some (false, d)
abbrev vZ (ns : List Int) : Sl := some (false, .scr ns)
abbrev vN : Sl := some (false, .non)
abbrev okI (i : Int) (S : List D) : Res OD := .ok (false, .int i) [] S
abbrev okB (b : Bool) (S : List D) : Res OD := .ok (false, .bl b) [] S
@[simp] theorem addK_int (i : Nat) (k j : Int) (ρ : Rho) (S : List D) : addK i k (.int j) ρ S = .nxt (ρ.set i (some (false, .int (k + j)))) S := Eq.trans rfl rfl
/-! ### what a run ends with -/
structure Po where
  N : Rho → List D → Prop
  C : Rho → List D → Prop
  B : Rho → List D → Prop
  V : OD → List D → Prop
  X : Nat → List D → Rho → List D → Prop
@[irreducible] def Run (r : SRes) (p : Po) : Prop := match r with
  | .nxt ρ S => p.N ρ S
  | .cnt ρ S => p.C ρ S
  | .brk ρ S => p.B ρ S
  | .ret x _ S => p.V x S
  | .exc c vs ρ S => p.X c vs ρ S
  | .err => False
section
variable {p : Po} {m n : MS} {ρ : Rho} {S : List D}
@[simp] theorem run_nxt : Run (.nxt ρ S) p = p.N ρ S := by with_unfolding_all exact Eq.trans rfl rfl
@[simp] theorem run_cnt : Run (.cnt ρ S) p = p.C ρ S := by with_unfolding_all exact Eq.trans rfl rfl
@[simp] theorem run_brk : Run (.brk ρ S) p = p.B ρ S := by with_unfolding_all exact Eq.trans rfl rfl
@[simp] theorem run_ret (x : OD) : Run (.ret x ρ S) p = p.V x S := by with_unfolding_all exact Eq.trans rfl rfl
@[simp] theorem run_exc (c : Nat) (vs : List D) : Run (.exc c vs ρ S) p = p.X c vs ρ S := by with_unfolding_all exact Eq.trans rfl rfl
@[simp] theorem run_err : Run .err p = False := by with_unfolding_all exact Eq.trans rfl rfl
theorem run_seq (h : Run (m ρ S) { p with N := fun ρ' S' => Run (n ρ' S') p }) : Run (seqS m n ρ S) p := by
  with_unfolding_all
    rw [ap_seq]
    cases e : m ρ S <;> rw [e] at h <;> exact h
theorem run_next (h : Run (m ρ S) { p with N := fun ρ' S' => Run (n ρ' S') p }) : Po.N { p with N := fun ρ' S' => Run (seqS m n ρ' S') p } ρ S := by with_unfolding_all exact run_seq h
theorem run_skip (h : p.N ρ S) : Run (skipS ρ S) p := by with_unfolding_all exact h
theorem run_imp {r : SRes} {q : Po} (h : Run r p) (hN : ∀ ρ S, p.N ρ S → q.N ρ S) (hC : ∀ ρ S, p.C ρ S → q.C ρ S) (hB : ∀ ρ S, p.B ρ S → q.B ρ S) (hV : ∀ x S, p.V x S → q.V x S) (hX : ∀ c vs ρ S, p.X c vs ρ S → q.X c vs ρ S) : Run r q := by
  with_unfolding_all
    cases r with
    | nxt ρ S => exact hN _ _ h
    | cnt ρ S => exact hC _ _ h
    | brk ρ S => exact hB _ _ h
    | ret x ρ S => exact hV _ _ h
    | exc c vs ρ S => exact hX _ _ _ _ h
    | err => exact h
/-- the post kept shut while simp runs -/
theorem run_op {r : SRes} (h : ∀ q, q = p → Run r q) : Run r p := by with_unfolding_all exact h p rfl
/-- a def's call -/
theorem fn_run {k : Nat} {ds : List D} (V : OD → List D → Prop) (h : ∀ q : Po, (∀ x S', V x S' → q.V x S') → (∀ ρ S', V (false, .non) S' → q.N ρ S') → Run (m (ds.map (fun d => some (false, d)) ++ List.replicate (k - ds.length) none) S) q) :
    ∃ x S', bodyF k m ds S = .ok x [] S' ∧ V x S' := by
  with_unfolding_all
    have h := h { N := fun _ S' => V (false, .non) S', C := fun _ _ => False, B := fun _ _ => False, V := V, X := fun _ _ _ _ => False } (fun _ _ h => h) (fun _ _ h => h)
    rw [ap_body]
    generalize m (ds.map (fun d => some (false, d)) ++ List.replicate (k - ds.length) none) S = r at h
    cases r with
    | nxt ρ S' => exact ⟨_, _, rfl, h⟩
    | ret x ρ S' => exact ⟨_, _, rfl, h⟩
    | _ => exact h.elim
theorem fn_run_eq {k : Nat} {ds : List D} {x : OD} {S' : List D} (h : ∀ q : Po, q.V x S' → ((false, .non) = x → ∀ ρ, q.N ρ S') → Run (m (ds.map (fun d => some (false, d)) ++ List.replicate (k - ds.length) none) S) q) :
    bodyF k m ds S = .ok x [] S' := by
  with_unfolding_all
    obtain ⟨y, S1, e, h1, h2⟩ := fn_run (m := m) (S := S) (k := k) (ds := ds) (fun y S1 => y = x ∧ S1 = S') fun q hV hN => h q (hV _ _ ⟨rfl, rfl⟩) fun e ρ => hN ρ _ ⟨e, rfl⟩
    rw [e, h1, h2]
/-- a call that may raise -/
theorem fn_res {k : Nat} {ds : List D} (V : OD → List D → Prop) (E : Nat → List D → List D → Prop)
    (h : ∀ q : Po, (∀ x S', V x S' → q.V x S') → (∀ ρ S', V (false, .non) S' → q.N ρ S') → (∀ c vs ρ S', E c vs S' → q.X c vs ρ S') → Run (m (ds.map (fun d => some (false, d)) ++ List.replicate (k - ds.length) none) S) q) :
    (∃ x S', bodyF k m ds S = .ok x [] S' ∧ V x S') ∨ ∃ c vs S', bodyF k m ds S = .exc c vs [] S' ∧ E c vs S' := by
  with_unfolding_all
    have h := h { N := fun _ S' => V (false, .non) S', C := fun _ _ => False, B := fun _ _ => False, V := V, X := fun c vs _ S' => E c vs S' } (fun _ _ h => h) (fun _ _ h => h) (fun _ _ _ _ h => h)
    rw [ap_body]
    generalize m (ds.map (fun d => some (false, d)) ++ List.replicate (k - ds.length) none) S = r at h
    cases r with
    | nxt ρ S' => exact .inl ⟨_, _, rfl, h⟩
    | ret x ρ S' => exact .inl ⟨_, _, rfl, h⟩
    | exc c vs ρ S' => exact .inr ⟨_, _, _, rfl, h⟩
    | _ => exact h.elim
theorem fn_exc_eq {k : Nat} {ds vs : List D} {c : Nat} {S' : List D} (h : ∀ q : Po, (∀ ρ, q.X c vs ρ S') → Run (m (ds.map (fun d => some (false, d)) ++ List.replicate (k - ds.length) none) S) q) : bodyF k m ds S = .exc c vs [] S' := by
  with_unfolding_all
    rcases fn_res (m := m) (S := S) (k := k) (ds := ds) (fun _ _ => False) (fun c' vs' S1 => c' = c ∧ vs' = vs ∧ S1 = S') fun q _ _ hX => h q fun ρ => hX _ _ _ _ ⟨rfl, rfl, rfl⟩ with ⟨_, _, _, z⟩ | ⟨c', vs', S1, e, rfl, rfl, rfl⟩
    · exact z.elim
    · exact e
theorem run_for {t : Tg} {b : MS} {ds : List D} (I : Nat → Rho → List D → Prop) (h0 : I 0 ρ S)
    (h : ∀ i x, ds[i]? = some x → ∀ ρ S, I i ρ S → ∃ ρ0, t.put x ρ = some ρ0 ∧ ∀ q : Po, (∀ ρ S, I (i + 1) ρ S → q.N ρ S) → (∀ ρ S, I (i + 1) ρ S → q.C ρ S) → q.V = p.V → q.B = p.N → q.X = p.X → Run (b ρ0 S) q) (hN : ∀ ρ S, I ds.length ρ S → p.N ρ S) : Run (forL t b ds ρ S) p := by
  with_unfolding_all
    induction ds generalizing I ρ S with
    | nil => exact hN _ _ h0
    | cons x xs ih =>
      obtain ⟨ρ0, e0, r⟩ := h 0 x rfl ρ S h0
      have r := r { p with N := I 1, C := I 1, B := p.N } (fun _ _ h => h) (fun _ _ h => h) rfl rfl rfl
      have next : ∀ ρ1 S1, I 1 ρ1 S1 → Run (forL t b xs ρ1 S1) p := fun ρ1 S1 i1 =>
        ih (fun i => I (i + 1)) i1 (fun i y hy => h (i + 1) y (by simpa using hy)) (fun ρ S hh => hN ρ S hh)
      unfold forL
      rw [e0]
      dsimp only
      cases e : b ρ0 S with
      | nxt ρ1 S1 => rw [e] at r; exact next _ _ r
      | cnt ρ1 S1 => rw [e] at r; exact next _ _ r
      | brk ρ1 S1 => rw [e] at r; exact r
      | ret x ρ1 S1 => rw [e] at r; exact r
      | exc c vs ρ1 S1 => rw [e] at r; exact r
      | err => rw [e] at r; exact r.elim
/-- by the items alone -/
theorem run_forA {t : Tg} {b : MS} {ds : List D} (I : Rho → List D → Prop) (h0 : I ρ S)
    (h : ∀ x ∈ ds, ∀ ρ S, I ρ S → ∃ ρ0, t.put x ρ = some ρ0 ∧ ∀ q : Po, (∀ ρ S, I ρ S → q.N ρ S) → (∀ ρ S, I ρ S → q.C ρ S) → q.V = p.V → q.B = p.N → q.X = p.X → Run (b ρ0 S) q) (hN : ∀ ρ S, I ρ S → p.N ρ S) : Run (forL t b ds ρ S) p := by
  with_unfolding_all
    exact
      run_for (fun _ => I) h0 (fun i x e => h x (List.mem_of_getElem? e)) hN
/-- a loop whose turns are a function of what is kept -/
theorem run_fold {α β : Type} {v : Nat} {b : MS} (w : β → D) (env : α → Sl → Rho) (f : α → β → α) {xs : List β} (a : α) (j : Sl)
    (h : ∀ a x j, x ∈ xs → ∃ ρ0, (Tg.one v).put (w x) (env a j) = some ρ0 ∧ ∀ q : Po, (∀ j', q.N (env (f a x) j') S) → (∀ j', q.C (env (f a x) j') S) → Run (b ρ0 S) q) (hN : ∀ j', p.N (env (xs.foldl f a) j') S) : Run (forL (.one v) b (xs.map w) (env a j) S) p := by
  with_unfolding_all
    induction xs generalizing a j with
    | nil => exact hN j
    | cons x xs ih =>
      obtain ⟨ρ0, e0, r⟩ := h a x j List.mem_cons_self
      have r := r { N := fun ρ1 S1 => (∃ j', ρ1 = env (f a x) j') ∧ S1 = S, C := fun ρ1 S1 => (∃ j', ρ1 = env (f a x) j') ∧ S1 = S, B := fun _ _ => False, V := fun _ _ => False, X := fun _ _ _ _ => False } (fun j' => ⟨⟨j', rfl⟩, rfl⟩) (fun j' => ⟨⟨j', rfl⟩, rfl⟩)
      have next : ∀ j', Run (forL (.one v) b (xs.map w) (env (f a x) j') S) p := fun j' => ih (f a x) j' (fun a y j hy => h a y j (List.mem_cons_of_mem _ hy)) hN
      rw [List.map_cons]
      unfold forL
      rw [e0]
      dsimp only
      cases e : b ρ0 S with
      | nxt ρ1 S1 => rw [e, run_nxt] at r; obtain ⟨⟨j', rfl⟩, rfl⟩ := r; exact next j'
      | cnt ρ1 S1 => rw [e, run_cnt] at r; obtain ⟨⟨j', rfl⟩, rfl⟩ := r; exact next j'
      | brk ρ1 S1 => rw [e] at r; exact r.elim
      | ret x ρ1 S1 => rw [e] at r; exact r.elim
      | exc c vs ρ1 S1 => rw [e] at r; exact r.elim
      | err => rw [e] at r; exact r.elim
theorem run_whl {c : M OD} {b : MS} (I : Nat → Rho → List D → Prop) {k : Nat} (h0 : I k ρ S)
    (h : ∀ k ρ S, I k ρ S → ∃ t ρ1 S1, c.test ρ S = .ok t ρ1 S1 ∧ (t = false → p.N ρ1 S1) ∧ (t = true → ∀ q : Po, (∀ k' ρ S, k' < k → I k' ρ S → q.N ρ S) → (∀ k' ρ S, k' < k → I k' ρ S → q.C ρ S) → q.V = p.V → q.B = p.N → q.X = p.X → Run (b ρ1 S1) q)) : Run (whlX c b ρ S) p := by
  with_unfolding_all
    have key : Run (whlX c b ρ S) { p with C := fun _ _ => False, B := fun _ _ => False } := by
      refine whl_run (c := c) (b := b) I (fun r => Run r { p with C := fun _ _ => False, B := fun _ _ => False }) (fun z => z) (fun k ρ S i => ?_) k ρ S h0
      obtain ⟨t, ρ1, S1, e, hf, ht⟩ := h k ρ S i
      refine ⟨t, ρ1, S1, e, hf, fun z => ?_⟩
      have r := ht z { N := fun ρ S => ∃ k', k' < k ∧ I k' ρ S, C := fun ρ S => ∃ k', k' < k ∧ I k' ρ S, B := p.N, V := p.V, X := p.X } (fun k' _ _ h1 h2 => ⟨k', h1, h2⟩) (fun k' _ _ h1 h2 => ⟨k', h1, h2⟩) rfl rfl rfl
      cases eb : b ρ1 S1 with
      | nxt ρ2 S2 => rw [eb, run_nxt] at r; obtain ⟨k', hk, r⟩ := r; exact .inl ⟨ρ2, S2, k', .inl rfl, hk, r⟩
      | cnt ρ2 S2 => rw [eb, run_cnt] at r; obtain ⟨k', hk, r⟩ := r; exact .inl ⟨ρ2, S2, k', .inr rfl, hk, r⟩
      | brk ρ2 S2 => rw [eb] at r; exact .inr (.inl ⟨ρ2, S2, rfl, r⟩)
      | ret x ρ2 S2 => rw [eb] at r; exact .inr (.inr (.inl ⟨x, ρ2, S2, rfl, r⟩))
      | exc c vs ρ2 S2 => rw [eb] at r; exact .inr (.inr (.inr ⟨c, vs, ρ2, S2, rfl, r⟩))
      | err => rw [eb] at r; exact r.elim
    exact run_imp key (fun _ _ h => h) (fun _ _ h => h.elim) (fun _ _ h => h.elim) (fun _ _ h => h) (fun _ _ _ _ h => h)
end
/-! ### items by place -/
/-! ### the order of data -/
theorem le_int (a b : Int) : D.le (.int a) (.int b) = decide (a ≤ b) := congrFun (congrFun (PySem.W.dataLe_int (fun z : Int => z)) a) b
theorem le_str (x y : List Nat) : D.le (.str x) (.str y) = decide (x ≤ y) := congrFun (congrFun (PySem.W.dataLe_str (fun z : List Nat => (⟨z.toArray⟩ : Str))) x) y
theorem list_lt_irrefl (x : List Nat) : ¬ x < x := List.lt_irrefl x
theorem le_is (a b : Int) (x y : List Nat) : D.le (.tup [.int a, .str x]) (.tup [.int b, .str y]) = decide (a < b ∨ (a = b ∧ x ≤ y)) := by
  show (!PySem.W.dataLt (.tuple [.int b, .str ⟨y.toArray⟩]) (.tuple [.int a, .str ⟨x.toArray⟩])) = _
  rw [PySem.W.dataLt_pair (by simp [PySem.W.alike]) (by simp [PySem.W.alike]), PySem.W.dataLt_int, PySem.W.dataLt_str]
  simp only [PyData.eqv]
  by_cases h : b = a
  · subst h
    by_cases h2 : y = x
    · subst h2
      simp
    · have h3 : ((⟨y.toArray⟩ : Str) == ⟨x.toArray⟩) = false := by
        rw [beq_eq_false_iff_ne]
        intro z
        have := congrArg (fun s : Str => s.cps.toList) z
        simp at this
        exact h2 this
      simp only [beq_self_eq_true, h3, if_true, Bool.false_eq_true, if_false, Int.lt_irrefl, false_or, true_and]
      by_cases h4 : y < x
      · have : ¬ x ≤ y := fun q => List.not_lt.mpr q h4
        simp [h4, this]
      · have : x ≤ y := List.not_lt.mp h4
        simp [h4, this]
  · have e : (b == a) = false := by simpa using h
    have h5 : a ≠ b := fun z => h z.symm
    simp only [e, Bool.false_eq_true, if_false, h5, false_and, or_false]
    by_cases h6 : b < a
    · have : ¬ a < b := by omega
      simp [h6, this]
    · have : a < b := by omega
      simp [h6, this]
theorem mod_nat (z : Int) (m : Nat) (h : 0 < m) : ∃ a : Nat, z % (m : Int) = a ∧ a < m := ⟨(z % m).toNat, by have := Int.emod_nonneg z (b := (m : Int)) (by omega); omega, by have := Int.emod_lt_of_pos z (b := (m : Int)) (by omega); have := Int.emod_nonneg z (b := (m : Int)) (by omega); omega⟩
/-- an item drawn from a list -/
theorem at_drawn {α : Type} {xs : List α} {z : Int} {m : Int} (hm : (xs.length : Int) = m) (hp : 0 < m) : ∃ d, atI xs (z % m) = some d ∧ d ∈ xs := by
  obtain ⟨d, e, hm2, _⟩ := atI_in (xs := xs) (i := z % m) (Int.emod_nonneg _ (by omega)) (by rw [hm]; exact Int.emod_lt_of_pos _ hp)
  exact ⟨d, e, hm2⟩
theorem strs_sort (xs : List (List Nat)) : (xs.map D.str).mergeSort D.le = (xs.mergeSort fun a b => decide (a ≤ b)).map D.str :=
  (List.map_mergeSort (r := fun a b : List Nat => decide (a ≤ b)) (s := D.le) (f := D.str) (l := xs) (fun a _ b _ => (le_str a b).symm)).symm
theorem dle_strs (xs : List (List Nat)) (n : Nat) : D.dleL (n + 1) (xs.map .str) = true := dleL_all fun x hx => by
  obtain ⟨p, _, rfl⟩ := List.mem_map.mp hx
  simp [D.dle]
theorem sortOk_strs (xs : List (List Nat)) (h : xs.length ≤ LN) : sortOk (xs.map .str) = true := by
  unfold sortOk
  have h1 : (xs.map D.str).all D.plnB = true := List.all_eq_true.mpr fun x hx => by
    obtain ⟨p, _, rfl⟩ := List.mem_map.mp hx
    rfl
  have h2 : ((xs.map D.str).all fun x => (xs.map D.str).all fun y => D.alk x y) = true := List.all_eq_true.mpr fun x hx => List.all_eq_true.mpr fun y hy => by
    obtain ⟨p, _, rfl⟩ := List.mem_map.mp hx
    obtain ⟨q, _, rfl⟩ := List.mem_map.mp hy
    simp [D.alk, D.py, PySem.W.alike]
  rw [h1, h2, dle_strs xs 59]
  simp [h]
theorem eqbL_refl {α : Type} (f : α → D) (h : ∀ a, D.eqb (f a) (f a) = true) (xs : List α) : D.eqbL (xs.map f) (xs.map f) = true := by
  induction xs with
  | nil => rfl
  | cons a t ih => simp [ih, h]
theorem rngD_at {a b : Int} {i : Nat} {x : D} (h : (rngD a b)[i]? = some x) : x = .int (a + i) ∧ a + (i : Int) < b := by
  unfold rngD at h
  rw [List.getElem?_map] at h
  cases q : (List.range (b - a).toNat)[i]? with
  | none => rw [q] at h; cases h
  | some k =>
    rw [q] at h
    obtain ⟨hl, e⟩ := List.getElem?_eq_some_iff.mp q
    simp at hl e
    subst e
    simp at h
    exact ⟨h.symm, by omega⟩
theorem rngD_len (a b : Int) : (rngD a b).length = (b - a).toNat := by simp [rngD]
theorem perm_erase {α : Type} : ∀ (l : List α) (m : Nat) (h : m < l.length), (l[m] :: l.eraseIdx m).Perm l
  | a :: l, 0, _ => .refl _
  | a :: l, m + 1, h => by
    have ih := perm_erase l m (by simpa using h)
    show ((l[m]'(by simpa using h)) :: a :: l.eraseIdx m).Perm (a :: l)
    exact (List.Perm.swap _ _ _).trans ((List.perm_cons a).mpr ih)
theorem map_erase {α β : Type} (f : α → β) : ∀ (l : List α) (m : Nat), (l.eraseIdx m).map f = (l.map f).eraseIdx m
  | [], m => by cases m <;> rfl
  | a :: l, 0 => rfl
  | a :: l, m + 1 => by
    show f a :: (l.eraseIdx m).map f = f a :: (l.map f).eraseIdx m
    rw [map_erase f l m]
theorem dle_nil (n : Nat) : D.dleL n [] = true := by unfold D.dleL; rfl
theorem at0 {α : Type} (a : α) (xs : List α) : atI (a :: xs) 0 = some a := by simp [atI, ixN]
theorem at1 {α : Type} (a b : α) (xs : List α) : atI (a :: b :: xs) 1 = some b := by
  have : (1 : Int) < xs.length + 1 + 1 := by omega
  simp [atI, ixN, this]
theorem at2 {α : Type} (a b c : α) (xs : List α) : atI (a :: b :: c :: xs) 2 = some c := by
  have : (2 : Int) < xs.length + 1 + 1 + 1 := by omega
  simp [atI, ixN, this]
theorem at3 {α : Type} (a b c d : α) (xs : List α) : atI (a :: b :: c :: d :: xs) 3 = some d := by
  have : (3 : Int) < xs.length + 1 + 1 + 1 + 1 := by omega
  simp [atI, ixN, this]
theorem at4 {α : Type} (a b c d e : α) (xs : List α) : atI (a :: b :: c :: d :: e :: xs) 4 = some e := by
  have : (4 : Int) < xs.length + 1 + 1 + 1 + 1 + 1 := by omega
  simp [atI, ixN, this]
theorem atI_mem {α : Type} {xs : List α} {i : Int} {d : α} (h : atI xs i = some d) : d ∈ xs := by
  unfold atI at h
  cases e : ixN xs.length i with
  | none => rw [e] at h; cases h
  | some j => rw [e] at h; exact List.mem_of_getElem? h
theorem atI_nat {α : Type} {xs : List α} {j : Nat} (h : j < xs.length) : atI xs (j : Int) = some xs[j] := by
  obtain ⟨d, e, _, e2⟩ := atI_in (xs := xs) (i := (j : Int)) (by omega) (by omega)
  rw [e]
  simp only [Int.toNat_natCast, List.getElem?_eq_getElem h] at e2
  exact e2.symm
theorem atI_ne {α : Type} {xs : List α} {i : Int} (h0 : 0 ≤ i) (h1 : i < xs.length) (e : atI xs i = none) : False := by
  obtain ⟨d, e2, _⟩ := atI_in h0 h1
  rw [e] at e2
  cases e2
theorem flat_rep (k : Nat) (a : D) : (List.replicate k [a]).flatten = List.replicate k a := by
  induction k with
  | zero => rfl
  | succ k ih => rw [List.replicate_succ, List.flatten_cons, ih, List.replicate_succ]; rfl
theorem rep_int (k : Nat) (i : Int) : List.replicate k (D.int i) = (List.replicate k i).map .int := by simp
theorem cut_map {α β : Type} (f : α → β) (xs : List α) (lo hi : Option Int) : cut (xs.map f) lo hi = (cut xs lo hi).map f := by
  unfold cut
  rw [List.length_map, List.map_take, List.map_drop]
/-! ### comprehensions -/
def Good (r : Res (Option D)) (o : Option D) (S : List D) (own : List Nat) (ρw : Rho) : Prop := match r with
  | .ok o' ρ1 S1 => o' = o ∧ S1 = S ∧ wipeR ρ1 own = ρw
  | _ => False
@[simp] theorem good_ok (o' : Option D) (ρ1 : Rho) (S1 : List D) (o : Option D) (S : List D) (own : List Nat) (ρw : Rho) : Good (.ok o' ρ1 S1) o S own ρw = (o' = o ∧ S1 = S ∧ wipeR ρ1 own = ρw) := Eq.trans rfl rfl
theorem comp_is {α : Type} {it : M (List D)} {t : Tg} {cond : Option (M OD)} {m : M OD} {own : List Nat} {ρ ρ0 : Rho} {S S0 : List D} (w : α → D) (f : α → Option D) {xs : List α} (hit : it ρ S = .ok (xs.map w) ρ0 S0) (hb : backR ρ0 ρ0 own = ρ0) (hl : xs.length ≤ LN)
    (h : ∀ x ∈ xs, Good (turnM t cond m (w x) (wipeR ρ0 own) S0) (f x) S0 own (wipeR ρ0 own)) : compM it t cond m own ρ S = .ok (true, .lst (xs.filterMap f)) ρ0 S0 := by
  have key : ∀ (xs : List α) (acc : List D) (ρ1 : Rho), (∀ x ∈ xs, Good (turnM t cond m (w x) (wipeR ρ0 own) S0) (f x) S0 own (wipeR ρ0 own)) → wipeR ρ1 own = wipeR ρ0 own →
      ∃ ρ2, compL t cond m own (xs.map w) acc ρ1 S0 = .ok (acc ++ xs.filterMap f) ρ2 S0 ∧ wipeR ρ2 own = wipeR ρ0 own := by
    intro xs
    induction xs with
    | nil => exact fun acc ρ1 _ hw => ⟨ρ1, by simp [compL], hw⟩
    | cons x xs ih =>
      intro acc ρ1 h hw
      have g := h x List.mem_cons_self
      rw [List.map_cons]
      unfold compL
      rw [hw]
      cases e : turnM t cond m (w x) (wipeR ρ0 own) S0 with
      | ok o ρ2 S2 =>
        rw [e] at g
        obtain ⟨rfl, rfl, g⟩ := g
        have ih2 := fun acc => ih acc ρ2 (fun y hy => h y (List.mem_cons_of_mem _ hy)) g
        cases hf : f x with
        | none =>
          obtain ⟨ρ3, e3, w3⟩ := ih2 acc
          exact ⟨ρ3, by rw [List.filterMap_cons, hf]; exact e3, w3⟩
        | some d =>
          obtain ⟨ρ3, e3, w3⟩ := ih2 (acc ++ [d])
          exact ⟨ρ3, by rw [List.filterMap_cons, hf]; dsimp only; rw [e3, List.append_assoc]; rfl, w3⟩
      | exc => rw [e] at g; exact g.elim
      | err => rw [e] at g; exact g.elim
  obtain ⟨ρ2, e2, w2⟩ := key xs [] ρ0 h rfl
  have hlen := List.length_filterMap_le f xs
  unfold compM
  rw [hit]
  dsimp only
  rw [e2]
  dsimp only
  rw [List.nil_append, if_pos (by omega), backR_eq w2, hb]
theorem comp_mapM {α : Type} {it : M (List D)} {t : Tg} {m : M OD} {own : List Nat} {ρ ρ0 : Rho} {S S0 : List D} (w : α → D) (g : α → D) {xs : List α} (hit : it ρ S = .ok (xs.map w) ρ0 S0) (hb : backR ρ0 ρ0 own = ρ0) (hl : xs.length ≤ LN)
    (h : ∀ x ∈ xs, Good (turnM t none m (w x) (wipeR ρ0 own) S0) (some (g x)) S0 own (wipeR ρ0 own)) : compM it t none m own ρ S = .ok (true, .lst (xs.map g)) ρ0 S0 := by
  rw [comp_is w (fun x => some (g x)) hit hb hl h, List.filterMap_eq_map']
theorem comp_fltM {α : Type} {it : M (List D)} {t : Tg} {c m : M OD} {own : List Nat} {ρ ρ0 : Rho} {S S0 : List D} (w : α → D) (k : α → Bool) (g : α → D) {xs : List α} (hit : it ρ S = .ok (xs.map w) ρ0 S0) (hb : backR ρ0 ρ0 own = ρ0) (hl : xs.length ≤ LN)
    (h : ∀ x ∈ xs, Good (turnM t (some c) m (w x) (wipeR ρ0 own) S0) (if k x then some (g x) else none) S0 own (wipeR ρ0 own)) : compM it t (some c) m own ρ S = .ok (true, .lst ((xs.filter k).map g)) ρ0 S0 := by
  rw [comp_is w (fun x => if k x then some (g x) else none) hit hb hl h]
  congr 3
  clear h hit hl
  induction xs with
  | nil => rfl
  | cons x xs ih =>
    rw [List.filterMap_cons, List.filter_cons]
    cases k x <;> simp [ih]
/-- turns that change the cells -/
def GoodX (r : Res (Option D)) (Q : D → List D → Prop) (own : List Nat) (ρw : Rho) : Prop := match r with
  | .ok (some d) ρ1 S1 => Q d S1 ∧ wipeR ρ1 own = ρw
  | _ => False
@[simp] theorem goodX_ok (d : D) (ρ1 : Rho) (S1 : List D) (Q : D → List D → Prop) (own : List Nat) (ρw : Rho) : GoodX (.ok (some d) ρ1 S1) Q own ρw = (Q d S1 ∧ wipeR ρ1 own = ρw) := Eq.trans rfl rfl
theorem comp_inv {it : M (List D)} {t : Tg} {cond : Option (M OD)} {m : M OD} {own : List Nat} {ρ ρ0 : Rho} {S S0 ds : List D} (I : Nat → List D → Prop) (P : Nat → D → Prop) (hit : it ρ S = .ok ds ρ0 S0) (hb : backR ρ0 ρ0 own = ρ0) (hl : ds.length ≤ LN) (h0 : I 0 S0)
    (h : ∀ i x, ds[i]? = some x → ∀ S, I i S → GoodX (turnM t cond m x (wipeR ρ0 own) S) (fun d S1 => I (i + 1) S1 ∧ P i d) own (wipeR ρ0 own)) :
    ∃ ys S1, compM it t cond m own ρ S = .ok (true, .lst ys) ρ0 S1 ∧ I ds.length S1 ∧ ys.length = ds.length ∧ ∀ i y, ys[i]? = some y → P i y := by
  obtain ⟨ys, ρ1, S1, e, w, i1, l1, p1⟩ := compL_inv (t := t) (c := cond) (m := m) (own := own) (ρw := wipeR ρ0 own) I P (ds := ds) (fun i x hx S hi => by
    have g := h i x hx S hi
    cases e : turnM t cond m x (wipeR ρ0 own) S with
    | ok o ρ1 S1 =>
      rw [e] at g
      cases o with
      | some d => exact ⟨d, ρ1, S1, rfl, g.2, g.1.1, g.1.2⟩
      | none => exact g.elim
    | exc => rw [e] at g; exact g.elim
    | err => rw [e] at g; exact g.elim) ρ0 S0 rfl h0
  refine ⟨ys, S1, ?_, i1, l1, p1⟩
  unfold compM
  rw [hit]
  dsimp only
  rw [e]
  dsimp only
  rw [if_pos (by omega), backR_eq w, hb]
theorem sorted_uniq {α : Type} {le : α → α → Bool} (anti : ∀ a b, le a b = true → le b a = true → a = b) : ∀ {l1 l2 : List α}, l1.Perm l2 → l1.Pairwise (fun a b => le a b = true) → l2.Pairwise (fun a b => le a b = true) → l1 = l2
  | [], l2, p, _, _ => (List.nil_perm.mp p).symm
  | a :: l1, [], p, _, _ => (List.perm_nil.mp p)
  | a :: l1, b :: l2, p, s1, s2 => by
    have e : a = b := by
      have h1 : a ∈ b :: l2 := p.mem_iff.mp List.mem_cons_self
      have h2 : b ∈ a :: l1 := p.mem_iff.mpr List.mem_cons_self
      rcases List.mem_cons.mp h1 with h1 | h1
      · exact h1
      · rcases List.mem_cons.mp h2 with h2 | h2
        · exact h2.symm
        · exact anti a b ((List.pairwise_cons.mp s1).1 b h2) ((List.pairwise_cons.mp s2).1 a h1)
    subst e
    rw [sorted_uniq anti ((List.perm_cons a).mp p) (List.pairwise_cons.mp s1).2 (List.pairwise_cons.mp s2).2]
theorem cut_take {α : Type} (xs : List α) (m : Nat) : cut xs none (some (m : Int)) = xs.take m := by
  unfold cut
  rw [HT.sIx_none, HT.sIx_nat, List.drop_zero]
  by_cases h : m ≤ xs.length
  · rw [show min m xs.length - 0 = m by omega]
  · rw [show min m xs.length - 0 = xs.length by omega, List.take_of_length_le (Nat.le_refl _), List.take_of_length_le (by omega)]
theorem cut_drop {α : Type} (xs : List α) (m : Nat) : cut xs (some (m : Int)) none = xs.drop m := by
  unfold cut
  rw [HT.sIx_none, HT.sIx_nat]
  by_cases h : m ≤ xs.length
  · rw [show min m xs.length = m by omega, List.take_of_length_le (by rw [List.length_drop]; omega)]
  · rw [List.drop_eq_nil_of_le (show xs.length ≤ min m xs.length by omega), List.drop_eq_nil_of_le (show xs.length ≤ m by omega), List.take_nil]
/-! ### figures -/
theorem decI_nat (n : Nat) : decI (n : Int) = TL.numL n := by
  have h := TL.tl_num n
  rw [show Str.ofString (toString ((n : Nat) : Int)) = ⟨(decI (n : Int)).toArray⟩ from str_decI _] at h
  exact h
def isFig (c : Nat) : Bool := decide (48 ≤ c) && decide (c ≤ 57)
theorem figs_mem {c : Nat} : (c ∈ ([48, 49, 50, 51, 52, 53, 54, 55, 56, 57] : List Nat)) ↔ isFig c = true := by
  simp [isFig]
  omega
theorem numL_figs (n : Nat) : (TL.numL n).all isFig = true := List.all_eq_true.mpr fun c hc => by
  have := TL.numL_digits n c hc
  simp [isFig]
  omega
theorem numL_no46 (n : Nat) : 46 ∉ TL.numL n := fun h => by
  have := TL.numL_digits n 46 h
  omega
theorem int_figs {s : List Nat} (h : s.all isFig = true) (hne : s ≠ []) (hl : s.length ≤ 4300) : PySem.intText? ⟨s.toArray⟩ = some ((NumText.digitsVal s : Nat) : Int) := SX.int_S h hne hl
/-- what writes a whole number, of at most k figures -/
def isWr (s : List Nat) (k : Nat) : Bool := decide (1 ≤ s.length) && decide (s.length ≤ k) && s.all isFig && (decide (s.length = 1) || decide (s.head? ≠ some 48))
theorem numL_head {n : Nat} (h : 10 ≤ n) : (TL.numL n).head? ≠ some 48 := by
  induction n using Nat.strongRecOn with
  | _ n ih =>
    rw [TL.numL_step h]
    by_cases h2 : n / 10 < 10
    · rw [TL.numL_lt h2]
      simp
      omega
    · have ih2 := ih (n / 10) (by omega) (by omega)
      intro z
      apply ih2
      cases e : TL.numL (n / 10) with
      | nil => exact absurd e (TL.numL_ne _)
      | cons a t =>
        rw [e] at z
        simpa using z
theorem isWr_num {n k : Nat} (hk : 0 < k) (h : n < 10 ^ k) : isWr (TL.numL n) k = true := by
  unfold isWr
  have h1 : 1 ≤ (TL.numL n).length := by
    have := TL.numL_ne n
    cases e : TL.numL n with
    | nil => exact absurd e this
    | cons a t => simp
  have h2 := TL.numL_len hk h
  rw [numL_figs, decide_eq_true h1, decide_eq_true h2]
  by_cases h3 : n < 10
  · rw [TL.numL_lt h3]; rfl
  · simp [numL_head (show 10 ≤ n by omega)]
/-! ### from behind -/
theorem atI_back {α : Type} (xs : List α) (k : Nat) (h0 : 0 < k) (h1 : k ≤ xs.length) : atI xs (-(k : Int)) = xs[xs.length - k]? := by
  unfold atI ixN
  rw [if_neg (by omega), if_pos (by omega)]
  show xs[(-(k : Int) + (xs.length : Int)).toNat]? = _
  congr 1
  omega
theorem cut_back {α : Type} (xs : List α) (k : Nat) (h0 : 0 < k) (h1 : k ≤ xs.length) : cut xs none (some (-(k : Int))) = xs.take (xs.length - k) := by
  unfold cut
  rw [HT.sIx_none, List.drop_zero]
  have e : HT.sIx xs.length xs.length (some (-(k : Int))) = xs.length - k := by
    show (if (-(k : Int)) < 0 then (-(k : Int) + (xs.length : Int)).toNat else min (-(k : Int)).toNat xs.length) = _
    rw [if_pos (by omega)]
    omega
  rw [e]
  rfl
/-! ### a text cut at a sign -/
theorem pre_one (c x : Nat) (s : List Nat) : TL.pre [c] (x :: s) = decide (x = c) := by
  show (([x] : List Nat) == [c]) = _
  rw [Bool.eq_iff_iff]
  simp
theorem spl_ne {sep : List Nat} : ∀ (s : List Nat) (k : Nat) (acc : List Nat), TL.spl sep k acc s ≠ [] := by
  intro s
  induction s with
  | nil => intro k acc; rw [TL.spl_nil]; simp
  | cons c s ih =>
    intro k acc
    cases k with
    | succ k => exact ih k acc
    | zero =>
      by_cases h : TL.pre sep (c :: s) = true
      · rw [TL.spl_hit h]; simp
      · rw [TL.spl_miss (by simpa using h)]; exact ih _ _
theorem joinL_cons {sep p : List Nat} : ∀ {l : List (List Nat)}, l ≠ [] → TL.joinL sep (p :: l) = p ++ (sep ++ TL.joinL sep l)
  | [], h => absurd rfl h
  | _ :: _, _ => rfl
theorem spl_back (c : Nat) : ∀ (s acc : List Nat), TL.joinL [c] (TL.spl [c] 0 acc s) = acc ++ s := by
  intro s
  induction s with
  | nil => intro acc; rw [TL.spl_nil]; simp [TL.joinL]
  | cons x s ih =>
    intro acc
    by_cases h : x = c
    · subst h
      rw [TL.spl_hit (by rw [pre_one]; simp), joinL_cons (spl_ne _ _ _)]
      show acc ++ ([x] ++ TL.joinL [x] (TL.spl [x] 0 [] s)) = _
      rw [ih []]
      simp
    · rw [TL.spl_miss (by rw [pre_one]; simp [h]), ih]
      simp
theorem spl_free (c : Nat) : ∀ (s acc : List Nat), c ∉ acc → ∀ p ∈ TL.spl [c] 0 acc s, c ∉ p := by
  intro s
  induction s with
  | nil =>
    intro acc h p hp
    rw [TL.spl_nil, List.mem_singleton] at hp
    rw [hp]; exact h
  | cons x s ih =>
    intro acc h p hp
    by_cases hx : x = c
    · subst hx
      rw [TL.spl_hit (by rw [pre_one]; simp)] at hp
      rcases List.mem_cons.mp hp with e | hp
      · rw [e]; exact h
      · exact ih [] (by simp) p hp
    · rw [TL.spl_miss (by rw [pre_one]; simp [hx])] at hp
      exact ih _ (by simp [h]; exact fun z => hx z.symm) p hp
theorem occ_fig : ∀ d : Nat, d < 10 → (Builtin.Str.occurrences ⟨#[48, 49, 50, 51, 52, 53, 54, 55, 56, 57]⟩ ⟨#[48 + d]⟩ 0 10 1).head? = some d := by decide +kernel
theorem occ_fig7 : ∀ d : Nat, d < 7 → (Builtin.Str.occurrences ⟨#[48, 49, 50, 51, 52, 53, 54]⟩ ⟨#[48 + d]⟩ 0 7 1).head? = some d := by decide +kernel
theorem index_fig {c : Nat} (h : isFig c = true) (ρ : Rho) (S : List D) : MT.sem .sindex (.str [48, 49, 50, 51, 52, 53, 54, 55, 56, 57]) [.str [c]] ρ S = .ok (false, .int ((c - 48 : Nat) : Int)) ρ S := by
  simp only [isFig, Bool.and_eq_true, decide_eq_true_eq] at h
  obtain ⟨d, rfl⟩ : ∃ d, c = 48 + d := ⟨c - 48, by omega⟩
  have e := occ_fig d (by omega)
  show optM (Builtin.Str.occurrences ⟨#[48, 49, 50, 51, 52, 53, 54, 55, 56, 57]⟩ ⟨#[48 + d]⟩ 0 10 1).head? (fun (j : Nat) => gives (.int j)) ρ S = _
  rw [e]
  show Res.ok (false, D.int d) ρ S = _
  congr 4
  omega
theorem index_fig7 {c : Nat} (h0 : 48 ≤ c) (h1 : c < 55) (ρ : Rho) (S : List D) : MT.sem .sindex (.str [48, 49, 50, 51, 52, 53, 54]) [.str [c]] ρ S = .ok (false, .int ((c - 48 : Nat) : Int)) ρ S := by
  obtain ⟨d, rfl⟩ : ∃ d, c = 48 + d := ⟨c - 48, by omega⟩
  have e := occ_fig7 d (by omega)
  show optM (Builtin.Str.occurrences ⟨#[48, 49, 50, 51, 52, 53, 54]⟩ ⟨#[48 + d]⟩ 0 7 1).head? (fun (j : Nat) => gives (.int j)) ρ S = _
  rw [e]
  show Res.ok (false, D.int d) ρ S = _
  congr 4
  omega
/-! ### texts, short ones -/
theorem len_str {s : List Nat} (h : s.length ≤ 16777216) (ρ : Rho) (S : List D) : BI.sem .len [.str s] ρ S = .ok (false, .int s.length) ρ S := by
  show (if s.length ≤ LN then gives (.int s.length) else M.err : M OD) ρ S = _
  rw [if_pos (show s.length ≤ LN from h)]
  rfl
theorem add_str {x y : List Nat} (h : x.length + y.length ≤ 16777216) (ρ : Rho) (S : List D) : addD (.str x) (.str y) ρ S = .ok (false, .str (x ++ y)) ρ S := by
  show (if x.length + y.length ≤ LN then gives (.str (x ++ y)) else M.err : M OD) ρ S = _
  rw [if_pos (show x.length + y.length ≤ LN from h)]
  rfl
theorem sl_str {t : List Nat} (h : t.length ≤ 16777216) (lo hi : Option Int) (ρ : Rho) (S : List D) : slD (.str t) lo hi ρ S = .ok (false, .str (cut t lo hi)) ρ S := by
  show (if t.length ≤ LN then gives (.str (cut t lo hi)) else M.err : M OD) ρ S = _
  rw [if_pos (show t.length ≤ LN from h)]
  rfl
@[simp] theorem add_int (i j : Int) : addD (.int i) (.int j) = gives (.int (i + j)) := Eq.trans rfl rfl
end Mi

namespace Mi
open PySem PySem.Spec PyProof.Rows L2
/-! ### what an expression's run ends with -/
@[irreducible] def Wp {α : Type} (r : Res α) (Q : α → Rho → List D → Prop) (X : Nat → List D → Rho → List D → Prop) : Prop := match r with
  | .ok a ρ S => Q a ρ S
  | .exc c vs ρ S => X c vs ρ S
  | .err => False
/-- a call's -/
@[irreducible] def WpF (r : Res OD) (Q : OD → List D → Prop) (XF : Nat → List D → List D → Prop) : Prop := match r with
  | .ok a _ S => Q a S
  | .exc c vs _ S => XF c vs S
  | .err => False
section
variable {α β : Type} {Q : α → Rho → List D → Prop} {QO : OD → Rho → List D → Prop} {QF : OD → List D → Prop} {QL : List D → Rho → List D → Prop} {QP : List Opd → Rho → List D → Prop} {X : Nat → List D → Rho → List D → Prop} {XF : Nat → List D → List D → Prop} {ρ : Rho} {S : List D} {p : Po}
theorem wp_ok (a : α) : Wp (.ok a ρ S) Q X = Q a ρ S := by with_unfolding_all exact Eq.trans rfl rfl
theorem wp_exc (c : Nat) (vs : List D) : Wp (.exc c vs ρ S) Q X = X c vs ρ S := by with_unfolding_all exact Eq.trans rfl rfl
theorem wp_err : Wp (.err : Res α) Q X = False := by with_unfolding_all exact Eq.trans rfl rfl
theorem wpF_ok (a : OD) : WpF (.ok a ρ S) QF XF = QF a S := by with_unfolding_all exact Eq.trans rfl rfl
theorem wpF_exc (c : Nat) (vs : List D) : WpF (.exc c vs ρ S) QF XF = XF c vs S := by with_unfolding_all exact Eq.trans rfl rfl
theorem wpF_err : WpF (.err : Res OD) QF XF = False := by with_unfolding_all exact Eq.trans rfl rfl
theorem wp_bind (m : M β) (f : β → M α) : Wp ((m >>= f) ρ S) Q X = Wp (m ρ S) (fun a ρ S => Wp (f a ρ S) Q X) X := by
  with_unfolding_all
    rw [ap_bind]
    cases m ρ S <;> rfl
theorem wp_pure (a : α) : Wp ((pure a : M α) ρ S) Q X = Q a ρ S := by with_unfolding_all exact Eq.trans rfl rfl
theorem wp_Merr : Wp ((M.err : M α) ρ S) Q X = False := by with_unfolding_all exact Eq.trans rfl rfl
theorem wp_gives (d : D) : Wp (gives d ρ S) QO X = QO (false, d) ρ S := by with_unfolding_all exact Eq.trans rfl rfl
theorem wp_fresh (d : D) : Wp (fresh d ρ S) QO X = QO (true, d) ρ S := by with_unfolding_all exact Eq.trans rfl rfl
theorem wp_ofBool (b : Bool) : Wp (ofBool b ρ S) QO X = QO (false, .bl b) ρ S := by with_unfolding_all exact Eq.trans rfl rfl
theorem wp_val (m : M OD) {Q : D → Rho → List D → Prop} : Wp (m.val ρ S) Q X = Wp (m ρ S) (fun a ρ S => Q a.2 ρ S) X := by
  with_unfolding_all
    rw [ap_val]
    cases m ρ S <;> rfl
theorem wp_opd (m : M OD) {Q : Opd → Rho → List D → Prop} : Wp (m.opd ρ S) Q X = Wp (m ρ S) (fun a ρ S => Q (.inr a.2) ρ S) X := by
  with_unfolding_all
    rw [ap_opd]
    cases m ρ S <;> rfl
/-- a truth that is told -/
def BlQ (d : D) (Q : Bool → Prop) : Prop := match d with
  | .bl b => Q b
  | _ => False
theorem blQ (b : Bool) (Q : Bool → Prop) : BlQ (.bl b) Q = Q b := by with_unfolding_all exact Eq.trans rfl rfl
theorem wp_test (m : M OD) {Q : Bool → Rho → List D → Prop} : Wp (m.test ρ S) Q X = Wp (m ρ S) (fun a ρ S => BlQ a.2 fun b => Q b ρ S) X := by
  with_unfolding_all
    rw [ap_test, wp_bind, wp_val]
    congr 1
    funext a ρ S
    cases a.2 <;> rfl
theorem wp_ite {c : Prop} [Decidable c] (m n : M α) : Wp ((if c then m else n) ρ S) Q X = if c then Wp (m ρ S) Q X else Wp (n ρ S) Q X := by with_unfolding_all (split <;> rfl)
theorem wp_iteR {c : Prop} [Decidable c] (m n : Res α) : Wp (if c then m else n) Q X = if c then Wp m Q X else Wp n Q X := by with_unfolding_all (split <;> rfl)
theorem wp_iteE {c : Prop} [Decidable c] (m : M α) : Wp ((if c then m else M.err) ρ S) Q X = (c ∧ Wp (m ρ S) Q X) := by
  with_unfolding_all
    by_cases h : c
    · rw [wp_ite, if_pos h, eq_true h, true_and]
    · rw [wp_ite, if_neg h, wp_Merr, eq_false h, false_and]
theorem wp_opt (o : Option β) (f : β → M OD) : Wp (optM o f ρ S) QO X = match o with
  | some a => Wp (f a ρ S) QO X
  | none => False := by with_unfolding_all (cases o <;> rfl)
theorem wp_consV (m : M OD) (ms : M (List D)) : Wp (consV m ms ρ S) QL X = Wp (m ρ S) (fun a ρ S => Wp (ms ρ S) (fun as ρ S => QL (a.2 :: as) ρ S) X) X := by
  with_unfolding_all
    rw [ap_consV]
    cases m ρ S with
    | ok a ρ S => dsimp only [wp_ok]; simp only [wp_ok]; cases ms ρ S <;> rfl
    | _ => rfl
theorem wp_consM (m : M Opd) (ms : M (List Opd)) : Wp (consM m ms ρ S) QP X = Wp (m ρ S) (fun a ρ S => Wp (ms ρ S) (fun as ρ S => QP (a :: as) ρ S) X) X := by
  with_unfolding_all
    rw [ap_consM]
    cases m ρ S with
    | ok a ρ S => simp only [wp_ok]; cases ms ρ S <;> rfl
    | _ => rfl
theorem wp_tup (ms : M (List D)) : Wp (tupM ms ρ S) QO X = Wp (ms ρ S) (fun ds ρ S => ds.length ≤ 16777216 ∧ QO (false, .tup ds) ρ S) X := by
  with_unfolding_all
    rw [ap_tup]
    cases ms ρ S with
    | ok ds ρ S =>
      simp only [wp_ok, wp_iteR]
      by_cases h : ds.length ≤ LN
      · rw [if_pos h, eq_true (show ds.length ≤ 16777216 from h), true_and]
      · rw [if_neg h, eq_false (show ¬ ds.length ≤ 16777216 from h), false_and]; rfl
    | _ => rfl
theorem wp_lst (ms : M (List D)) : Wp (lstM ms ρ S) QO X = Wp (ms ρ S) (fun ds ρ S => ds.length ≤ 16777216 ∧ QO (true, .lst ds) ρ S) X := by
  with_unfolding_all
    rw [ap_lst]
    cases ms ρ S with
    | ok ds ρ S =>
      simp only [wp_ok, wp_iteR]
      by_cases h : ds.length ≤ LN
      · rw [if_pos h, eq_true (show ds.length ≤ 16777216 from h), true_and]
      · rw [if_neg h, eq_false (show ¬ ds.length ≤ 16777216 from h), false_and]; rfl
    | _ => rfl
theorem wp_call (n : Nat) (g : Fn) (ms : M (List D)) : Wp (callM n g ms ρ S) QO X = Wp (ms ρ S) (fun ds ρ S => ds.length = n ∧ WpF (g ds S) (fun x S => QO x ρ S) (fun c vs S => X c vs ρ S)) X := by
  with_unfolding_all
    rw [ap_call]
    cases ms ρ S with
    | ok ds ρ S =>
      simp only [wp_ok, wp_iteR]
      by_cases h : ds.length = n
      · rw [if_pos h, eq_true h, true_and]
        cases g ds S <;> rfl
      · rw [if_neg h, eq_false h, false_and]; rfl
    | _ => rfl
theorem wp_pcall (n : Nat) (g : Fn) (os : M (List Opd)) : Wp (pcallM n g os ρ S) QO X = Wp (os ρ S) (fun xs ρ S => Wp (resL xs ρ S) (fun ds ρ S => Wp (pcallR n g ds ρ S) QO X) X) X := by
  with_unfolding_all
    rw [ap_pcall, wp_bind]
    simp only [wp_bind]
theorem wp_bi (os : M (List Opd)) (g : List D → M OD) : Wp (biM os g ρ S) QO X = Wp (os ρ S) (fun xs ρ S => Wp (resL xs ρ S) (fun ds ρ S => Wp (g ds ρ S) QO X) X) X := by
  with_unfolding_all
    rw [ap_bi, wp_bind]
    simp only [wp_bind]
theorem wp_resL0 : Wp (resL [] ρ S) QL X = QL [] ρ S := by with_unfolding_all exact Eq.trans rfl rfl
theorem wp_resL1 (x : Opd) (xs : List Opd) : Wp (resL (x :: xs) ρ S) QL X = Wp (resM x ρ S) (fun d ρ S => Wp (resL xs ρ S) (fun ds ρ S => QL (d :: ds) ρ S) X) X := by
  with_unfolding_all
    rw [ap_resL1, wp_bind]
    simp only [wp_bind, wp_pure]
theorem wp_op2 (oa ob : M Opd) (g : D → D → M OD) : Wp (op2M oa ob g ρ S) QO X = Wp (oa ρ S) (fun x ρ S => Wp (ob ρ S) (fun y ρ S => Wp (resM x ρ S) (fun d ρ S => Wp (resM y ρ S) (fun e ρ S => Wp (g d e ρ S) QO X) X) X) X) X := by
  with_unfolding_all
    rw [ap_op2, wp_bind]
    simp only [wp_bind]
theorem wp_neg (oa : M Opd) : Wp (negM oa ρ S) QO X = Wp (oa ρ S) (fun x ρ S => Wp (resM x ρ S) (fun d ρ S => match d with | .int i => QO (false, .int (-i)) ρ S | _ => False) X) X := by
  with_unfolding_all
    rw [ap_neg, wp_bind]
    simp only [wp_bind]
    congr 1
    funext x ρ S
    congr 1
    funext d ρ S
    cases d <;> rfl
theorem wp_not (m : M OD) : Wp (notM m ρ S) QO X = Wp (m ρ S) (fun a ρ S => BlQ a.2 fun b => QO (false, .bl (!b)) ρ S) X := by
  with_unfolding_all
    rw [ap_not, wp_bind, wp_test]
    rfl
theorem wp_and (m n : M OD) : Wp (andM m n ρ S) QO X = Wp (m ρ S) (fun a ρ S => BlQ a.2 fun b => if b = true then Wp (n ρ S) QO X else QO (false, .bl false) ρ S) X := by
  with_unfolding_all
    rw [ap_and, wp_bind, wp_test]
    congr 1
    funext a ρ S
    congr 1
    funext b
    cases b <;> rfl
theorem wp_or (m n : M OD) : Wp (orM m n ρ S) QO X = Wp (m ρ S) (fun a ρ S => BlQ a.2 fun b => if b = true then QO (false, .bl true) ρ S else Wp (n ρ S) QO X) X := by
  with_unfolding_all
    rw [ap_or, wp_bind, wp_test]
    congr 1
    funext a ρ S
    congr 1
    funext b
    cases b <;> rfl
theorem wp_bl (m : M OD) : Wp (blM m ρ S) QO X = Wp (m ρ S) (fun a ρ S => BlQ a.2 fun b => QO (false, .bl b) ρ S) X := by
  with_unfolding_all
    rw [ap_bl, wp_bind, wp_test]
    rfl
theorem wp_ifE (t m n : M OD) : Wp (iteM t m n ρ S) QO X = Wp (t ρ S) (fun a ρ S => BlQ a.2 fun b => if b = true then Wp (m ρ S) QO X else Wp (n ρ S) QO X) X := by
  with_unfolding_all
    rw [ap_ifE, wp_bind, wp_test]
    congr 1
    funext a ρ S
    congr 1
    funext b
    cases b <;> rfl
theorem wp_chain (oa ob oc : M Opd) (g g' : D → D → M OD) : Wp (chainM oa ob oc g g' ρ S) QO X = Wp (oa ρ S) (fun x ρ S => Wp (ob ρ S) (fun y ρ S => Wp (resM x ρ S) (fun d ρ S => Wp (resM y ρ S) (fun e ρ S => Wp (g d e ρ S) (fun a ρ S => BlQ a.2 fun b => if b = true then Wp (oc ρ S) (fun z ρ S => Wp (resM y ρ S) (fun e' ρ S => Wp (resM z ρ S) (fun f ρ S => Wp (g' e' f ρ S) QO X) X) X) X else QO (false, .bl false) ρ S) X) X) X) X) X := by
  with_unfolding_all
    rw [ap_chain]
    simp only [wp_bind, wp_test, wp_ite, wp_ofBool]
theorem wp_isi (o : M Opd) (T : Ty) : Wp (isiM o T ρ S) QO X = Wp (o ρ S) (fun x ρ S => Wp (resM x ρ S) (fun d ρ S => Wp (isiD T d ρ S) QO X) X) X := by
  with_unfolding_all
    rw [ap_isi]
    simp only [wp_bind]
theorem wp_is2 (o : M Opd) (T U : Ty) : Wp (is2M o T U ρ S) QO X = Wp (o ρ S) (fun x ρ S => Wp (resM x ρ S) (fun d ρ S => Wp (is2D T U d ρ S) QO X) X) X := by
  with_unfolding_all
    rw [ap_is2]
    simp only [wp_bind]
theorem wp_isx (o : M Opd) (tx to : List Bool) : Wp (isxM o tx to ρ S) QO X = Wp (o ρ S) (fun x ρ S => Wp (resM x ρ S) (fun d ρ S => Wp (isxD tx to d ρ S) QO X) X) X := by
  with_unfolding_all
    rw [ap_isx]
    simp only [wp_bind]
theorem wp_fld (o : M Opd) (xf : List Bool) (of : List (Option Nat)) : Wp (fldM o xf of ρ S) QO X = Wp (o ρ S) (fun x ρ S => Wp (resM x ρ S) (fun d ρ S => Wp (fldD xf of d ρ S) QO X) X) X := by
  with_unfolding_all
    rw [ap_fld]
    simp only [wp_bind]
theorem wp_isN (o : M Opd) (neg : Bool) : Wp (isNonM o neg ρ S) QO X = Wp (o ρ S) (fun x ρ S => Wp (resM x ρ S) (fun d ρ S => QO (false, .bl (isND neg d)) ρ S) X) X := by
  with_unfolding_all
    rw [ap_isN]
    simp only [wp_bind, wp_ofBool]
theorem wp_chk {Q : Opd → Rho → List D → Prop} (i : Nat) : Wp (chkM i ρ S) Q X = match ρ[i]? with
  | some (some _) => Q (.inl i) ρ S
  | _ => False := by
  with_unfolding_all
    rw [ap_chk]
    rcases ρ[i]? with _ | _ | ⟨o, d⟩ <;> rfl
theorem wp_resL {Q : D → Rho → List D → Prop} (i : Nat) : Wp (resM (.inl i) ρ S) Q X = match ρ[i]? with
  | some (some x) => Wp (derM x.2 ρ S) Q X
  | _ => False := by
  with_unfolding_all
    rw [ap_resL]
    rcases ρ[i]? with _ | _ | ⟨o, d⟩ <;> rfl
theorem wp_resR {Q : D → Rho → List D → Prop} (d : D) : Wp (resM (.inr d) ρ S) Q X = Wp (derM d ρ S) Q X := by with_unfolding_all exact Eq.trans rfl rfl
theorem wp_der {Q : D → Rho → List D → Prop} (d : D) (h : d.kd ≠ .cell) : Wp (derM d ρ S) Q X = Q d ρ S := by
  with_unfolding_all
    cases d <;> first | rfl | exact absurd rfl h
theorem wp_der_cell {Q : D → Rho → List D → Prop} (n : Nat) : Wp (derM (.cell n) ρ S) Q X = match S[n]? with
  | some d => Q d ρ S
  | none => False := by
  with_unfolding_all
    rw [der_cell]
    cases S[n]? <;> rfl
theorem wp_var (i : Nat) : Wp (varM i ρ S) QO X = match ρ[i]? with
  | some (some (own, d)) => QO (false, d) (if own then ρ.set i (some (false, d)) else ρ) S
  | _ => False := by
  with_unfolding_all
    rw [ap_var]
    rcases ρ[i]? with _ | _ | ⟨o, d⟩ <;> rfl
theorem wp_mov (i : Nat) : Wp (movM i ρ S) QO X = match ρ[i]? with
  | some (some (own, d)) => QO (own, d) (if own then ρ.set i none else ρ) S
  | _ => False := by
  with_unfolding_all
    rw [ap_mov]
    rcases ρ[i]? with _ | _ | ⟨o, d⟩ <;> rfl
theorem wp_rev (o : M Opd) : Wp (revM o ρ S) QO X = Wp (o ρ S) (fun x ρ S => Wp (resM x ρ S) (fun d ρ S => Wp (revD d ρ S) QO X) X) X := by
  with_unfolding_all
    rw [ap_rev]
    simp only [wp_bind]
theorem wp_sl (o : M Opd) (lo hi : M (Option Int)) : Wp (slM o lo hi ρ S) QO X = Wp (o ρ S) (fun x ρ S => Wp (lo ρ S) (fun l ρ S => Wp (hi ρ S) (fun h ρ S => Wp (resM x ρ S) (fun d ρ S => Wp (slD d l h ρ S) QO X) X) X) X) X := by
  with_unfolding_all
    rw [ap_sl]
    simp only [wp_bind]
/-- a whole number that is told -/
def InQ (d : D) (Q : Int → Prop) : Prop := match d with
  | .int b => Q b
  | _ => False
theorem inQ (b : Int) (Q : Int → Prop) : InQ (.int b) Q = Q b := Eq.trans rfl rfl
theorem wp_part (m : M OD) {Q : Option Int → Rho → List D → Prop} : Wp (partM m ρ S) Q X = Wp (m ρ S) (fun a ρ S => InQ a.2 fun i => Q (some i) ρ S) X := by
  with_unfolding_all
    rw [ap_part]
    cases m ρ S with
    | ok a ρ S =>
      obtain ⟨o, d⟩ := a
      cases d <;> rfl
    | _ => rfl
theorem wp_itM (m : M OD) : Wp (itM m ρ S) QL X = Wp (m ρ S) (fun a ρ S => Wp (itemsD a.2 ρ S) QL X) X := by
  with_unfolding_all
    rw [ap_itM, wp_bind, wp_val]
theorem wp_itOs (os : M (List Opd)) (f : List D → M (List D)) : Wp (itOs os f ρ S) QL X = Wp (os ρ S) (fun xs ρ S => Wp (resL xs ρ S) (fun ds ρ S => Wp (f ds ρ S) QL X) X) X := by
  with_unfolding_all
    rw [ap_itOs]
    simp only [wp_bind]
theorem wp_zip (ms : M (List D)) : Wp (zipM ms ρ S) QL X = Wp (ms ρ S) (fun ds ρ S => Wp (zipA ds ρ S) QL X) X := by
  with_unfolding_all
    rw [ap_zip, wp_bind]
theorem wp_mt (T : String) (o : M Opd) (os : M (List Opd)) (g : D → List D → M OD) : Wp (mtM T o os g ρ S) QO X = Wp (o ρ S) (fun x ρ S => Wp (resM x ρ S) (fun d0 ρ S => tyOk T d0 = true ∧ Wp (os ρ S) (fun xs ρ S => Wp (resM x ρ S) (fun d ρ S => Wp (resL xs ρ S) (fun ds ρ S => Wp (g d ds ρ S) QO X) X) X) X) X) X := by
  with_unfolding_all
    rw [ap_mt]
    simp only [wp_bind, wp_iteE]
theorem wp_celM (m : M OD) : Wp (celM m ρ S) QO X = Wp ((celM m) ρ S) QO X := by with_unfolding_all exact rfl
/-! statements -/
theorem run_set (i : Nat) (m : M OD) : Run (setS i m ρ S) p = Wp (m ρ S) (fun x ρ S => p.N (ρ.set i (some x)) S) p.X := by
  with_unfolding_all
    rw [ap_set]
    cases m ρ S <;> rfl
theorem run_setC (i : Nat) (m : M OD) : Run (setC i m ρ S) p = Wp (m ρ S) (fun x ρ S => x.1 = true ∧ p.N (ρ.set i (some (false, .cell S.length))) (S ++ [x.2])) p.X := by
  with_unfolding_all
    rw [ap_setC]
    cases m ρ S with
    | ok a ρ S =>
      obtain ⟨o, d⟩ := a
      cases o
      · simp [wp_ok]
      · simp [wp_ok]
    | _ => rfl
theorem run_retS (m : M OD) : Run (retS m ρ S) p = Wp (m ρ S) (fun x ρ S => p.V x S) p.X := by
  with_unfolding_all
    rw [ap_ret]
    cases m ρ S <;> rfl
theorem run_retN : Run (retN ρ S) p = p.V (false, .non) S := by with_unfolding_all exact Eq.trans rfl rfl
theorem run_drop (m : M OD) : Run (dropS m ρ S) p = Wp (m ρ S) (fun x ρ S => p.N ρ S) p.X := by
  with_unfolding_all
    rw [ap_drop]
    cases m ρ S <;> rfl
theorem run_if (c : M OD) (m n : MS) : Run (ifS c m n ρ S) p = Wp (c ρ S) (fun a ρ S => BlQ a.2 fun b => if b = true then Run (m ρ S) p else Run (n ρ S) p) p.X := by
  with_unfolding_all
    rw [ap_ifS]
    have e := wp_test c (ρ := ρ) (S := S) (X := p.X) (Q := fun b ρ S => if b = true then Run (m ρ S) p else Run (n ρ S) p)
    rw [← e]
    cases M.test c ρ S with
    | ok b ρ S => cases b <;> rfl
    | _ => rfl
theorem run_asg (t : Tg) (m : M OD) : Run (asgS t m ρ S) p = Wp (m ρ S) (fun x ρ S => match t.put x.2 ρ with | some ρ' => p.N ρ' S | none => False) p.X := by
  with_unfolding_all
    rw [ap_asg]
    cases m ρ S with
    | ok a ρ S =>
      simp only [wp_ok]
      cases t.put a.2 ρ <;> rfl
    | _ => rfl
theorem run_forS (it : M (List D)) (t : Tg) (b : MS) : Run (forS it t b ρ S) p = Wp (it ρ S) (fun ds ρ S => Run (forL t b ds ρ S) p) p.X := by
  with_unfolding_all
    rw [ap_for]
    cases it ρ S <;> rfl
theorem run_skip_ : Run (skipS ρ S) p = p.N ρ S := by with_unfolding_all exact Eq.trans rfl rfl
theorem run_brkS : Run (brkS ρ S) p = p.B ρ S := by with_unfolding_all exact Eq.trans rfl rfl
theorem run_cntS : Run (cntS ρ S) p = p.C ρ S := by with_unfolding_all exact Eq.trans rfl rfl
theorem run_raise0 (c : Nat) : Run (raise0S c ρ S) p = p.X c [] ρ S := by with_unfolding_all exact Eq.trans rfl rfl
theorem run_raise1 (c : Nat) (m : M OD) : Run (raise1S c m ρ S) p = Wp (m ρ S) (fun x ρ S => p.X c [x.2] ρ S) p.X := by
  with_unfolding_all
    rw [ap_raise1]
    cases m ρ S <;> rfl
theorem run_iteS {c : Prop} [Decidable c] (m n : MS) : Run ((if c then m else n) ρ S) p = if c then Run (m ρ S) p else Run (n ρ S) p := by with_unfolding_all (split <;> rfl)
end
/-! ### rules -/
section
variable {QO : OD → Rho → List D → Prop} {X : Nat → List D → Rho → List D → Prop} {XF : Nat → List D → List D → Prop} {ρ : Rho} {S : List D} {p : Po}
theorem wpF_of {r : Res OD} {QF : OD → List D → Prop} {x : OD} {ρ' : Rho} {S' : List D} (h : r = .ok x ρ' S') (k : QF x S') : WpF r QF XF := by with_unfolding_all (rw [h]; exact k)
theorem wpF_ex {r : Res OD} {QF : OD → List D → Prop} {V : OD → List D → Prop} (h : ∃ x ρ S', r = .ok x ρ S' ∧ V x S') (k : ∀ x S', V x S' → QF x S') : WpF r QF XF := by
  with_unfolding_all
    obtain ⟨x, ρ, S', rfl, v⟩ := h
    exact k _ _ v
theorem wp_imp {α : Type} {r : Res α} {Q Q' : α → Rho → List D → Prop} {X' : Nat → List D → Rho → List D → Prop} (h : Wp r Q X) (k : ∀ a ρ S, Q a ρ S → Q' a ρ S) (l : ∀ c vs ρ S, X c vs ρ S → X' c vs ρ S) : Wp r Q' X' := by
  with_unfolding_all
    cases r with
    | ok => exact k _ _ _ h
    | exc => exact l _ _ _ _ h
    | err => exact h
theorem run_keep {m : MS} {sub : List Bool} {i j : Nat} : Run (tryKeepS m sub i j ρ S) p = Run (m ρ S) { p with X := fun c vs ρ S => match sub[c]? with
    | some true => p.N (((ρ.set i none).set j (some (false, .exn c vs))).set i none) S
    | some false => p.X c vs ρ S
    | none => False } := by
  with_unfolding_all
    rw [ap_keep]
    cases m ρ S with
    | exc c vs ρ S =>
      simp only [run_exc]
      cases sub[c]? with
      | none => rfl
      | some b => cases b <;> rfl
    | _ => rfl
theorem run_only {m s : MS} {sub : List Bool} : Run (tryOnlyS m sub s ρ S) p = Run (m ρ S) { p with X := fun c vs ρ S => match sub[c]? with
    | some true => Run (s ρ S) p
    | some false => p.X c vs ρ S
    | none => False } := by
  with_unfolding_all
    rw [ap_only]
    cases m ρ S with
    | exc c vs ρ S =>
      simp only [run_exc]
      cases sub[c]? with
      | none => rfl
      | some b => cases b <;> rfl
    | _ => rfl
/-- an item of a list, by its place -/
theorem wp_ixL {xs : List D} {i : Int} (h0 : 0 ≤ i) (h1 : i < xs.length) (h : ∀ d, d ∈ xs → xs[i.toNat]? = some d → QO (false, d) ρ S) : Wp (ixD (.lst xs) (.int i) ρ S) QO X := by
  with_unfolding_all
    obtain ⟨d, e, hm, h2⟩ := atI_in h0 h1
    show Wp (optM (atI xs i) gives ρ S) QO X
    rw [wp_opt, e]
    exact h d hm h2
theorem wp_ixT {xs : List D} {i : Int} (h0 : 0 ≤ i) (h1 : i < xs.length) (h : ∀ d, d ∈ xs → xs[i.toNat]? = some d → QO (false, d) ρ S) : Wp (ixD (.tup xs) (.int i) ρ S) QO X := by
  with_unfolding_all
    obtain ⟨d, e, hm, h2⟩ := atI_in h0 h1
    show Wp (optM (atI xs i) gives ρ S) QO X
    rw [wp_opt, e]
    exact h d hm h2
theorem wp_ixS {xs : List Nat} {i : Int} (hl : xs.length ≤ 16777216) (h0 : 0 ≤ i) (h1 : i < xs.length) (h : ∀ d, d ∈ xs → xs[i.toNat]? = some d → QO (false, .str [d]) ρ S) : Wp (ixD (.str xs) (.int i) ρ S) QO X := by
  with_unfolding_all
    obtain ⟨d, e, hm, h2⟩ := atI_in h0 h1
    show Wp ((if xs.length ≤ LN then optM (atI xs i) fun c => gives (.str [c]) else M.err) ρ S) QO X
    rw [wp_iteE]
    refine ⟨hl, ?_⟩
    rw [wp_opt, e]
    exact h d hm h2
/-- whole numbers from lo to hi -/
def allIn (lo hi : Int) : List D → Prop
  | [] => True
  | .int i :: r => (lo ≤ i ∧ i ≤ hi) ∧ allIn lo hi r
  | _ => False
theorem allIn_mem {lo hi : Int} : ∀ {xs : List D}, allIn lo hi xs → ∀ d ∈ xs, ∃ i, d = .int i ∧ lo ≤ i ∧ i ≤ hi
  | .int i :: r, h, d, hd => by
    rcases List.mem_cons.mp hd with rfl | hd
    · exact ⟨i, rfl, h.1⟩
    · exact allIn_mem h.2 d hd
theorem wp_ixI (lo hi : Int) {xs : List D} {i : Int} (h0 : 0 ≤ i) (h1 : i < xs.length) (ha : allIn lo hi xs) (h : ∀ j, lo ≤ j → j ≤ hi → QO (false, .int j) ρ S) : Wp (ixD (.lst xs) (.int i) ρ S) QO X := by
  with_unfolding_all
    exact
      wp_ixL h0 h1 fun d hd _ => by
        obtain ⟨j, rfl, a, b⟩ := allIn_mem ha d hd
        exact h j a b
/-- a list's items all alike -/
def allP (T : D → Prop) : List D → Prop
  | [] => True
  | d :: r => T d ∧ allP T r
theorem allP_mem {T : D → Prop} : ∀ {xs : List D}, allP T xs ↔ ∀ d ∈ xs, T d
  | [] => by simp [allP]
  | d :: r => by simp [allP, allP_mem (xs := r)]
theorem wp_ixP (T : D → Prop) {xs : List D} {i : Int} (h0 : 0 ≤ i) (h1 : i < xs.length) (ha : allP T xs) (h : ∀ d, T d → QO (false, d) ρ S) : Wp (ixD (.lst xs) (.int i) ρ S) QO X := by
  with_unfolding_all
    exact
      wp_ixL h0 h1 fun d hd _ => h d (allP_mem.mp ha d hd)
theorem wp_ixTP (T : D → Prop) {xs : List D} {i : Int} (h0 : 0 ≤ i) (h1 : i < xs.length) (ha : allP T xs) (h : ∀ d, T d → QO (false, d) ρ S) : Wp (ixD (.tup xs) (.int i) ρ S) QO X := by
  with_unfolding_all
    exact
      wp_ixT h0 h1 fun d hd _ => h d (allP_mem.mp ha d hd)
/-- a comprehension -/
theorem wp_comp {it : M (List D)} {t : Tg} {cond : Option (M OD)} {m : M OD} {own : List Nat} (I : Nat → List D → Prop) (P : Nat → D → Prop)
    (hit : Wp (it ρ S) (fun ds ρ0 S0 => backR ρ0 ρ0 own = ρ0 ∧ ds.length ≤ 16777216 ∧ I 0 S0 ∧
      (∀ i x, ds[i]? = some x → ∀ S, I i S → Wp (turnM t cond m x (wipeR ρ0 own) S) (fun o ρ1 S1 => ∃ d, o = some d ∧ P i d ∧ I (i + 1) S1 ∧ wipeR ρ1 own = wipeR ρ0 own) (fun _ _ _ _ => False)) ∧
      ∀ ys S1, I ds.length S1 → ys.length = ds.length → (∀ i y, ys[i]? = some y → P i y) → QO (true, .lst ys) ρ0 S1) X) : Wp (compM it t cond m own ρ S) QO X := by
  with_unfolding_all
    cases e : it ρ S with
    | ok ds ρ0 S0 =>
      rw [e] at hit
      unfold Wp at hit
      dsimp only at hit
      obtain ⟨hb, hl, h0, ht, hq⟩ := hit
      obtain ⟨ys, S1, ec, i1, l1, p1⟩ := comp_inv (it := it) (t := t) (cond := cond) (m := m) (own := own) I P e hb hl h0 (fun i x hx S hi => by
        have w := ht i x hx S hi
        cases et : turnM t cond m x (wipeR ρ0 own) S with
        | ok o ρ1 S1 =>
          rw [et] at w
          obtain ⟨d, rfl, h1, h2, h3⟩ := w
          exact ⟨⟨h2, h1⟩, h3⟩
        | exc => rw [et] at w; exact w
        | err => rw [et] at w; exact w)
      rw [ec]
      exact hq ys S1 i1 l1 p1
    | exc c vs ρ0 S0 =>
      rw [e] at hit
      unfold Wp at hit
      dsimp only at hit
      unfold compM
      rw [e]
      exact hit
    | err => rw [e] at hit; exact hit.elim
/-- one that is a map -/
theorem wp_compM {α : Type} {it : M (List D)} {t : Tg} {m : M OD} {own : List Nat} (w g : α → D) (xs : List α)
    (hit : Wp (it ρ S) (fun ds ρ0 S0 => ds = xs.map w ∧ backR ρ0 ρ0 own = ρ0 ∧ xs.length ≤ 16777216 ∧ (∀ x ∈ xs, Wp (turnM t none m (w x) (wipeR ρ0 own) S0) (fun o ρ1 S1 => o = some (g x) ∧ S1 = S0 ∧ wipeR ρ1 own = wipeR ρ0 own) (fun _ _ _ _ => False)) ∧
      QO (true, .lst (xs.map g)) ρ0 S0) X) : Wp (compM it t none m own ρ S) QO X := by
  with_unfolding_all
    cases e : it ρ S with
    | ok ds ρ0 S0 =>
      rw [e] at hit
      unfold Wp at hit
      dsimp only at hit
      obtain ⟨rfl, hb, hl, ht, hq⟩ := hit
      rw [comp_mapM w g e hb hl (fun x hx => by
        have w := ht x hx
        revert w
        cases turnM t none m _ (wipeR ρ0 own) S0 <;> exact fun w => w)]
      exact hq
    | exc c vs ρ0 S0 =>
      rw [e] at hit
      unfold Wp at hit
      dsimp only at hit
      unfold compM
      rw [e]
      exact hit
    | err => rw [e] at hit; exact hit.elim
theorem wp_compF {α : Type} {it : M (List D)} {t : Tg} {c m : M OD} {own : List Nat} (w : α → D) (k : α → Bool) (g : α → D) (xs : List α)
    (hit : Wp (it ρ S) (fun ds ρ0 S0 => ds = xs.map w ∧ backR ρ0 ρ0 own = ρ0 ∧ xs.length ≤ 16777216 ∧ (∀ x ∈ xs, Wp (turnM t (some c) m (w x) (wipeR ρ0 own) S0) (fun o ρ1 S1 => o = (if k x = true then some (g x) else none) ∧ S1 = S0 ∧ wipeR ρ1 own = wipeR ρ0 own) (fun _ _ _ _ => False)) ∧
      QO (true, .lst ((xs.filter k).map g)) ρ0 S0) X) : Wp (compM it t (some c) m own ρ S) QO X := by
  with_unfolding_all
    cases e : it ρ S with
    | ok ds ρ0 S0 =>
      rw [e] at hit
      unfold Wp at hit
      dsimp only at hit
      obtain ⟨rfl, hb, hl, ht, hq⟩ := hit
      rw [comp_fltM w k g e hb hl (fun x hx => by
        have w := ht x hx
        revert w
        cases turnM t (some c) m _ (wipeR ρ0 own) S0 <;> exact fun w => w)]
      exact hq
    | exc c' vs ρ0 S0 =>
      rw [e] at hit
      unfold Wp at hit
      dsimp only at hit
      unfold compM
      rw [e]
      exact hit
    | err => rw [e] at hit; exact hit.elim
theorem wp_turn {t : Tg} {cond : Option (M OD)} {m : M OD} {x : D} {Q : Option D → Rho → List D → Prop} : Wp (turnM t cond m x ρ S) Q X = match t.put x ρ with
  | none => False
  | some ρ' => match cond with
    | none => Wp (m ρ' S) (fun a ρ S => Q (some a.2) ρ S) X
    | some c => Wp (c ρ' S) (fun a ρ S => BlQ a.2 fun b => if b = true then Wp (m ρ S) (fun a ρ S => Q (some a.2) ρ S) X else Q none ρ S) X := by
  with_unfolding_all
    rw [turnM_eq]
    cases t.put x ρ with
    | none => rfl
    | some ρ' =>
      cases cond with
      | none =>
        show Wp ((((pure true : M Bool) >>= fun b => if b then (do let d ← M.val m; pure (some d)) else pure none) : M (Option D)) ρ' S) Q X = _
        simp only [wp_bind, wp_pure, if_true, wp_val]
      | some c =>
        show Wp (((M.test c >>= fun b => if b then (do let d ← M.val m; pure (some d)) else pure none) : M (Option D)) ρ' S) Q X = _
        simp only [wp_bind, wp_ite, wp_pure, wp_val, wp_test]
/-- a call of a def -/
theorem fn_wp {k : Nat} {m : MS} {ds : List D} {QF : OD → List D → Prop} (h : ∀ q : Po, (∀ x S', QF x S' → q.V x S') → (∀ ρ S', QF (false, .non) S' → q.N ρ S') → (∀ c vs ρ S', XF c vs S' → q.X c vs ρ S') → Run (m (ds.map (fun d => some (false, d)) ++ List.replicate (k - ds.length) none) S) q) :
    WpF (bodyF k m ds S) QF XF := by
  with_unfolding_all
    rcases fn_res (m := m) (S := S) (k := k) (ds := ds) QF XF h with ⟨x, S', e, v⟩ | ⟨c, vs, S', e, v⟩
    · rw [e]; exact v
    · rw [e]; exact v
end

section
variable {α : Type} {Q : α → Rho → List D → Prop} {QO : OD → Rho → List D → Prop} {QL : List D → Rho → List D → Prop} {X : Nat → List D → Rho → List D → Prop} {XF : Nat → List D → List D → Prop} {ρ : Rho} {S : List D} {p : Po}
theorem wp_eqD (d e : D) : Wp (eqD d e ρ S) QO X = ((D.dle 60 d && D.dle 60 e) = true ∧ QO (false, .bl (D.eqb d e)) ρ S) := by
  with_unfolding_all
    unfold eqD
    rw [wp_iteE, wp_ofBool]
theorem wp_neD (d e : D) : Wp (neD d e ρ S) QO X = ((D.dle 60 d && D.dle 60 e) = true ∧ QO (false, .bl (!D.eqb d e)) ρ S) := by
  with_unfolding_all
    unfold neD
    rw [wp_iteE, wp_ofBool]
theorem wp_rng1 (n : Int) : Wp (rng1A [.int n] ρ S) QL X = (n.natAbs < 4611686018427387904 ∧ QL (rngD 0 n) ρ S) := by
  with_unfolding_all
    show Wp ((if n.natAbs < 4611686018427387904 then pure (rngD 0 n) else M.err : M (List D)) ρ S) QL X = _
    rw [wp_iteE, wp_pure]
theorem wp_rng2 (m n : Int) : Wp (rng2A [.int m, .int n] ρ S) QL X = ((m.natAbs < 4611686018427387904 ∧ n.natAbs < 4611686018427387904) ∧ QL (rngD m n) ρ S) := by
  with_unfolding_all
    show Wp ((if m.natAbs < 4611686018427387904 ∧ n.natAbs < 4611686018427387904 then pure (rngD m n) else M.err : M (List D)) ρ S) QL X = _
    rw [wp_iteE, wp_pure]
theorem wp_top (i : Nat) (f : D → M α) : Wp (topM i f ρ S) Q X = match ρ[i]? with
  | some (some (true, d)) => Wp (f d ρ S) Q X
  | some (some (false, .cell n)) => (match S[n]? with
    | some d => Wp (f d ρ S) Q X
    | none => False)
  | _ => False := by
  with_unfolding_all
    rw [ap_top]
    rcases ρ[i]? with _ | _ | ⟨o, d⟩
    · rfl
    · rfl
    · cases o
      · cases d with
        | cell n => dsimp only; cases S[n]? <;> rfl
        | _ => rfl
      · rfl
theorem wp_put {Q : Unit → Rho → List D → Prop} (i : Nat) (d : D) : Wp (putM i d ρ S) Q X = match ρ[i]? with
  | some (some (true, _)) => Q () (ρ.set i (some (true, d))) S
  | some (some (false, .cell n)) => Q () ρ (S.set n d)
  | _ => False := by
  with_unfolding_all
    rw [ap_put]
    rcases ρ[i]? with _ | _ | ⟨o, e⟩
    · rfl
    · rfl
    · cases o
      · cases e <;> rfl
      · rfl
theorem wp_vm (i : Nat) (f : VT) (ms : M (List D)) : Wp (vmM i f ms ρ S) QO X = Wp (chkM i ρ S) (fun _ ρ S => Wp (topM i (fun d0 => if isLst d0 then ms >>= fun ds => topM i fun d => optM (f.sem d ds) fun p => putM i p.1 >>= fun _ => gives p.2 else M.err) ρ S) QO X) X := by
  with_unfolding_all
    rw [ap_vm, wp_bind]
theorem run_six (x : Nat) (i e : M OD) : Run (sixS x i e ρ S) p = Wp (e ρ S) (fun d ρ S => Wp (chkM x ρ S) (fun _ ρ S => Wp (i ρ S) (fun k ρ S => match ρ[x]? with
    | some (some (true, d0)) => (match putIx d0 d.2 k.2 with | some d1 => p.N (ρ.set x (some (true, d1))) S | none => False)
    | some (some (false, .cell n)) => (match S[n]? with | some d0 => (match putIx d0 d.2 k.2 with | some d1 => p.N ρ (S.set n d1) | none => False) | none => False)
    | _ => False) p.X) p.X) p.X := by
  with_unfolding_all
    unfold sixS
    rw [ap_thn, ap_val]
    cases e ρ S with
    | ok d ρ S =>
      simp only [wp_ok]
      rw [ap_thn]
      cases chkM x ρ S with
      | ok _ ρ S =>
        simp only [wp_ok]
        rw [ap_thn, ap_val]
        cases i ρ S with
        | ok k ρ S =>
          simp only [wp_ok]
          rw [ap_top]
          rcases h : ρ[x]? with _ | _ | ⟨o, d0⟩
          · rfl
          · rfl
          · cases o
            · cases d0 with
              | cell n =>
                dsimp only
                cases S[n]? with
                | none => rfl
                | some d0 =>
                  dsimp only
                  cases putIx d0 d.2 k.2 with
                  | none => rfl
                  | some d1 => dsimp only; rw [ap_put, h]; rfl
              | _ => rfl
            · dsimp only
              cases putIx d0 d.2 k.2 with
              | none => rfl
              | some d1 => dsimp only; rw [ap_put, h]; rfl
        | _ => rfl
      | _ => rfl
    | _ => rfl
theorem run_addK (i : Nat) (k : Int) (d : D) : Run (addK i k d ρ S) p = InQ d fun j => p.N (ρ.set i (some (false, .int (k + j)))) S := by
  with_unfolding_all
    cases d <;> rfl
theorem run_add (i : Nat) (e : M OD) : Run (addS i e ρ S) p = match ρ[i]? with
  | some (some (false, .int k)) => Wp (e ρ S) (fun a ρ S => InQ a.2 fun j => p.N (ρ.set i (some (false, .int (k + j)))) S) p.X
  | _ => False := by
  with_unfolding_all
    rw [ap_add]
    rcases ρ[i]? with _ | _ | ⟨o, d⟩
    · rfl
    · rfl
    · cases o
      · cases d with
        | int k =>
          dsimp only
          rw [ap_thn, ap_val]
          cases e ρ S with
          | ok a ρ S => exact run_addK i k a.2
          | _ => rfl
        | _ => rfl
      · cases d <;> rfl
theorem wp_cel (m : M OD) : Wp (celM m ρ S) QO X = Wp (m ρ S) (fun a ρ S => a.1 = true ∧ QO (false, .cell S.length) ρ (S ++ [a.2])) X := by
  with_unfolding_all
    rw [ap_cel]
    cases m ρ S with
    | ok a ρ S =>
      obtain ⟨o, d⟩ := a
      cases o
      · simp [wp_ok, wp_err]
      · simp [wp_ok]
    | _ => rfl
theorem wp_isiD {T : Ty} {d : D} (h : d.kd ≠ .cell) : Wp (isiD T d ρ S) QO X = QO (false, .bl (T.has d)) ρ S := by
  with_unfolding_all
    cases d <;> first | rfl | exact absurd rfl h
theorem has_lst (T : Ty) (xs : List D) : T.has (.lst xs) = T.hasK .lst := Eq.trans rfl rfl
theorem has_tup (T : Ty) (xs : List D) : T.has (.tup xs) = T.hasK .tup := Eq.trans rfl rfl
theorem has_int (T : Ty) (i : Int) : T.has (.int i) = T.hasK .int := Eq.trans rfl rfl
theorem has_bl (T : Ty) (i : Bool) : T.has (.bl i) = T.hasK .bl := Eq.trans rfl rfl
theorem has_str (T : Ty) (i : List Nat) : T.has (.str i) = T.hasK .str := Eq.trans rfl rfl
theorem has_non (T : Ty) : T.has .non = T.hasK .non := Eq.trans rfl rfl
theorem wp_ix0 (d : D) (xs : List D) : Wp (ixD (.lst (d :: xs)) (.int 0) ρ S) QO X = QO (false, d) ρ S := by
  with_unfolding_all
    show Wp (optM (atI (d :: xs) 0) gives ρ S) QO X = _
    rw [at0]; rfl
theorem wp_ix1 (d e : D) (xs : List D) : Wp (ixD (.lst (d :: e :: xs)) (.int 1) ρ S) QO X = QO (false, e) ρ S := by
  with_unfolding_all
    show Wp (optM (atI (d :: e :: xs) 1) gives ρ S) QO X = _
    rw [at1]; rfl
theorem wp_ix2 (d e f : D) (xs : List D) : Wp (ixD (.lst (d :: e :: f :: xs)) (.int 2) ρ S) QO X = QO (false, f) ρ S := by
  with_unfolding_all
    show Wp (optM (atI (d :: e :: f :: xs) 2) gives ρ S) QO X = _
    rw [at2]; rfl
theorem wp_ixt0 (d : D) (xs : List D) : Wp (ixD (.tup (d :: xs)) (.int 0) ρ S) QO X = QO (false, d) ρ S := by
  with_unfolding_all
    show Wp (optM (atI (d :: xs) 0) gives ρ S) QO X = _
    rw [at0]; rfl
theorem wp_ixt1 (d e : D) (xs : List D) : Wp (ixD (.tup (d :: e :: xs)) (.int 1) ρ S) QO X = QO (false, e) ρ S := by
  with_unfolding_all
    show Wp (optM (atI (d :: e :: xs) 1) gives ρ S) QO X = _
    rw [at1]; rfl
theorem wp_ixt2 (d e f : D) (xs : List D) : Wp (ixD (.tup (d :: e :: f :: xs)) (.int 2) ρ S) QO X = QO (false, f) ρ S := by
  with_unfolding_all
    show Wp (optM (atI (d :: e :: f :: xs) 2) gives ρ S) QO X = _
    rw [at2]; rfl
theorem wp_ixt3 (d e f g : D) (xs : List D) : Wp (ixD (.tup (d :: e :: f :: g :: xs)) (.int 3) ρ S) QO X = QO (false, g) ρ S := by
  with_unfolding_all
    show Wp (optM (atI (d :: e :: f :: g :: xs) 3) gives ρ S) QO X = _
    rw [at3]; rfl
theorem wp_ixt4 (d e f g h : D) (xs : List D) : Wp (ixD (.tup (d :: e :: f :: g :: h :: xs)) (.int 4) ρ S) QO X = QO (false, h) ρ S := by
  with_unfolding_all
    show Wp (optM (atI (d :: e :: f :: g :: h :: xs) 4) gives ρ S) QO X = _
    rw [at4]; rfl
end
section
variable {QO : OD → Rho → List D → Prop} {QL : List D → Rho → List D → Prop} {X : Nat → List D → Rho → List D → Prop} {XF : Nat → List D → List D → Prop} {ρ : Rho} {S : List D} {p : Po}
theorem wp_add_ii (i j : Int) : Wp (addD (.int i) (.int j) ρ S) QO X = QO (false, .int (i + j)) ρ S := by with_unfolding_all exact Eq.trans rfl rfl
theorem wp_add_ss (x y : List Nat) : Wp (addD (.str x) (.str y) ρ S) QO X = (x.length + y.length ≤ 16777216 ∧ QO (false, .str (x ++ y)) ρ S) := by
  with_unfolding_all
    show Wp ((if x.length + y.length ≤ LN then gives (.str (x ++ y)) else M.err) ρ S) QO X = _
    rw [wp_iteE, wp_gives]
theorem wp_add_ll (x y : List D) : Wp (addD (.lst x) (.lst y) ρ S) QO X = (x.length + y.length ≤ 16777216 ∧ QO (true, .lst (x ++ y)) ρ S) := by
  with_unfolding_all
    show Wp ((if x.length + y.length ≤ LN then fresh (.lst (x ++ y)) else M.err) ρ S) QO X = _
    rw [wp_iteE, wp_fresh]
theorem wp_add_tt (x y : List D) : Wp (addD (.tup x) (.tup y) ρ S) QO X = (x.length + y.length ≤ 16777216 ∧ QO (false, .tup (x ++ y)) ρ S) := by
  with_unfolding_all
    show Wp ((if x.length + y.length ≤ LN then gives (.tup (x ++ y)) else M.err) ρ S) QO X = _
    rw [wp_iteE, wp_gives]
theorem wp_sub_ii (i j : Int) : Wp (subD (.int i) (.int j) ρ S) QO X = QO (false, .int (i - j)) ρ S := by with_unfolding_all exact Eq.trans rfl rfl
theorem wp_mul_ii (i j : Int) : Wp (mulD (.int i) (.int j) ρ S) QO X = (((-(2 ^ 64) < i ∧ i < 2 ^ 64) ∨ (-(2 ^ 64) < j ∧ j < 2 ^ 64)) ∧ QO (false, .int (i * j)) ρ S) := by
  with_unfolding_all
    show Wp ((if (-(2 ^ 64) < i ∧ i < 2 ^ 64) ∨ (-(2 ^ 64) < j ∧ j < 2 ^ 64) then gives (.int (i * j)) else M.err) ρ S) QO X = _
    rw [wp_iteE, wp_gives]
theorem wp_mul_li (xs : List D) (k : Int) : Wp (mulD (.lst xs) (.int k) ρ S) QO X = ((-(2 ^ 62) ≤ k ∧ k < 2 ^ 62 ∧ xs.length * k.toNat ≤ 16777216) ∧ QO (true, .lst (List.replicate k.toNat xs).flatten) ρ S) := by
  with_unfolding_all
    show Wp ((if -(2 ^ 62) ≤ k ∧ k < 2 ^ 62 ∧ xs.length * k.toNat ≤ LN then fresh (.lst (List.replicate k.toNat xs).flatten) else M.err) ρ S) QO X = _
    rw [wp_iteE, wp_fresh]
theorem wp_mul_si (s : List Nat) (k : Int) : Wp (mulD (.str s) (.int k) ρ S) QO X = ((-(2 ^ 62) ≤ k ∧ k ≤ 1000000 ∧ s.length ≤ 1000000 ∧ s.length * k.toNat ≤ 1000000) ∧ QO (false, .str (List.replicate k.toNat s).flatten) ρ S) := by
  with_unfolding_all
    show Wp ((if -(2 ^ 62) ≤ k ∧ k ≤ 1000000 ∧ s.length ≤ 1000000 ∧ s.length * k.toNat ≤ 1000000 then gives (.str (List.replicate k.toNat s).flatten) else M.err) ρ S) QO X = _
    rw [wp_iteE, wp_gives]
theorem huge_lt {j : Int} (h : j < 2 ^ 250) : j < Huge := Int.lt_trans h (by unfold Huge; decide +kernel)
theorem wp_div_ii (i j : Int) : (0 < j ∧ j < 2 ^ 250) → Wp (divD (.int i) (.int j) ρ S) QO X = QO (false, .int (i / j)) ρ S := by
  with_unfolding_all
    exact fun ⟨h0, h1⟩ => by
      show Wp ((if 0 < j ∧ j < Huge then gives (.int (i / j)) else M.err) ρ S) QO X = _
      rw [wp_iteE, wp_gives, eq_true (show 0 < j ∧ j < Huge from ⟨h0, huge_lt h1⟩), true_and]
theorem wp_mod_ii (i j : Int) : Wp (modD (.int i) (.int j) ρ S) QO X = (0 < j ∧ QO (false, .int (i % j)) ρ S) := by
  with_unfolding_all
    show Wp ((if 0 < j then gives (.int (i % j)) else M.err) ρ S) QO X = _
    rw [wp_iteE, wp_gives]
theorem wp_pow_ii (i j : Int) : Wp (powD (.int i) (.int j) ρ S) QO X = ((0 ≤ j ∧ j ≤ 1000000 ∧ i.natAbs < 2 ^ 64) ∧ QO (false, .int (i ^ j.toNat)) ρ S) := by
  with_unfolding_all
    show Wp ((if 0 ≤ j ∧ j ≤ 1000000 ∧ i.natAbs < 2 ^ 64 then gives (.int (i ^ j.toNat)) else M.err) ρ S) QO X = _
    rw [wp_iteE, wp_gives]
theorem wp_lt_ii (i j : Int) : Wp (ltD (.int i) (.int j) ρ S) QO X = QO (false, .bl (decide (i < j))) ρ S := by with_unfolding_all exact Eq.trans rfl rfl
theorem wp_lt_ss (i j : List Nat) : Wp (ltD (.str i) (.str j) ρ S) QO X = QO (false, .bl (decide (i < j))) ρ S := by with_unfolding_all exact Eq.trans rfl rfl
theorem wp_le_ii (i j : Int) : Wp (leD (.int i) (.int j) ρ S) QO X = QO (false, .bl (decide (i ≤ j))) ρ S := by with_unfolding_all exact Eq.trans rfl rfl
theorem wp_gt_ii (i j : Int) : Wp (gtD (.int i) (.int j) ρ S) QO X = QO (false, .bl (decide (j < i))) ρ S := by with_unfolding_all exact Eq.trans rfl rfl
theorem wp_ge_ii (i j : Int) : Wp (geD (.int i) (.int j) ρ S) QO X = QO (false, .bl (decide (j ≤ i))) ρ S := by with_unfolding_all exact Eq.trans rfl rfl
theorem wp_len_s (s : List Nat) : Wp (BI.sem .len [.str s] ρ S) QO X = (s.length ≤ 16777216 ∧ QO (false, .int s.length) ρ S) := by
  with_unfolding_all
    show Wp ((if s.length ≤ LN then gives (.int s.length) else M.err) ρ S) QO X = _
    rw [wp_iteE, wp_gives]
theorem wp_len_l (s : List D) : Wp (BI.sem .len [.lst s] ρ S) QO X = QO (false, .int s.length) ρ S := by with_unfolding_all exact Eq.trans rfl rfl
theorem wp_len_t (s : List D) : Wp (BI.sem .len [.tup s] ρ S) QO X = QO (false, .int s.length) ρ S := by with_unfolding_all exact Eq.trans rfl rfl
theorem wp_len_z (s : List Int) : Wp (BI.sem .len [.scr s] ρ S) QO X = QO (false, .int s.length) ρ S := by with_unfolding_all exact Eq.trans rfl rfl
theorem wp_len_d (k : Nat) (s : List (D × D)) : Wp (BI.sem .len [.dct k s] ρ S) QO X = QO (false, .int s.length) ρ S := by with_unfolding_all exact Eq.trans rfl rfl
theorem wp_max_ii (i j : Int) : Wp (BI.sem .max [.int i, .int j] ρ S) QO X = QO (false, .int (if j > i then j else i)) ρ S := by with_unfolding_all exact Eq.trans rfl rfl
theorem wp_min_ii (i j : Int) : Wp (BI.sem .min [.int i, .int j] ρ S) QO X = QO (false, .int (if j < i then j else i)) ρ S := by with_unfolding_all exact Eq.trans rfl rfl
theorem wp_int_i (i : Int) : Wp (BI.sem .int [.int i] ρ S) QO X = QO (false, .int i) ρ S := by with_unfolding_all exact Eq.trans rfl rfl
theorem wp_int_b (i : Bool) : Wp (BI.sem .int [.bl i] ρ S) QO X = QO (false, .int (if i then 1 else 0)) ρ S := by with_unfolding_all exact Eq.trans rfl rfl
theorem wp_list_l (s : List D) : Wp (BI.sem .list [.lst s] ρ S) QO X = QO (true, .lst s) ρ S := by with_unfolding_all exact Eq.trans rfl rfl
theorem wp_list_t (s : List D) : Wp (BI.sem .list [.tup s] ρ S) QO X = QO (true, .lst s) ρ S := by with_unfolding_all exact Eq.trans rfl rfl
theorem wp_tuple_l (s : List D) : Wp (BI.sem .tuple [.lst s] ρ S) QO X = QO (false, .tup s) ρ S := by with_unfolding_all exact Eq.trans rfl rfl
theorem wp_tuple_t (s : List D) : Wp (BI.sem .tuple [.tup s] ρ S) QO X = QO (false, .tup s) ρ S := by with_unfolding_all exact Eq.trans rfl rfl
theorem wp_all_l (s : List D) : Wp (BI.sem .all [.lst s] ρ S) QO X = match blsOf s with | some bs => QO (false, .bl (bs.all id)) ρ S | none => False := by
  with_unfolding_all
    show Wp (optM (blsOf s) (fun bs => ofBool (bs.all id)) ρ S) QO X = _
    rw [wp_opt]
    cases blsOf s <;> rfl
theorem wp_all_map {α : Type} (f : α → Bool) (l : List α) : Wp (BI.sem .all [.lst (l.map fun c => D.bl (f c))] ρ S) QO X = QO (false, .bl (l.all f)) ρ S := by
  with_unfolding_all
    rw [wp_all_l, blsOf_map]
    simp [List.all_map, Function.comp_def]
theorem wp_str_i (i : Int) : Wp (BI.sem .str [.int i] ρ S) QO X = (i.natAbs.log2 < 1920 ∧ QO (false, .str (decI i)) ρ S) := by
  with_unfolding_all
    show Wp ((if i.natAbs.log2 < 1920 then gives (.str (decI i)) else M.err) ρ S) QO X = _
    rw [wp_iteE, wp_gives]
theorem wp_isi_non (T : Ty) : Wp (isiD T .non ρ S) QO X = QO (false, .bl (T.hasK .non)) ρ S := by with_unfolding_all exact Eq.trans rfl rfl
theorem wp_isi_bl (T : Ty) (b : Bool) : Wp (isiD T (.bl b) ρ S) QO X = QO (false, .bl (T.hasK .bl)) ρ S := by with_unfolding_all exact Eq.trans rfl rfl
theorem wp_isi_int (T : Ty) (b : Int) : Wp (isiD T (.int b) ρ S) QO X = QO (false, .bl (T.hasK .int)) ρ S := by with_unfolding_all exact Eq.trans rfl rfl
theorem wp_isi_str (T : Ty) (b : List Nat) : Wp (isiD T (.str b) ρ S) QO X = QO (false, .bl (T.hasK .str)) ρ S := by with_unfolding_all exact Eq.trans rfl rfl
theorem wp_isi_tup (T : Ty) (b : List D) : Wp (isiD T (.tup b) ρ S) QO X = QO (false, .bl (T.hasK .tup)) ρ S := by with_unfolding_all exact Eq.trans rfl rfl
theorem wp_isi_lst (T : Ty) (b : List D) : Wp (isiD T (.lst b) ρ S) QO X = QO (false, .bl (T.hasK .lst)) ρ S := by with_unfolding_all exact Eq.trans rfl rfl
theorem wp_items_l (xs : List D) : Wp (itemsD (.lst xs) ρ S) QL X = QL xs ρ S := by with_unfolding_all exact Eq.trans rfl rfl
theorem wp_items_t (xs : List D) : Wp (itemsD (.tup xs) ρ S) QL X = QL xs ρ S := by with_unfolding_all exact Eq.trans rfl rfl
theorem wp_join {t : List Nat} (h : t.length ≤ 16777216) (k : QO (false, .str t) ρ S) : Wp (MT.sem .join (.str []) [.lst (t.map fun c => .str [c])] ρ S) QO X := by
  with_unfolding_all
    rw [join_signs' h]; exact k
theorem wp_slS {s : List Nat} {lo hi : Option Int} : Wp (slD (.str s) lo hi ρ S) QO X = (s.length ≤ 16777216 ∧ QO (false, .str (cut s lo hi)) ρ S) := by
  with_unfolding_all
    show Wp ((if s.length ≤ LN then gives (.str (cut s lo hi)) else M.err) ρ S) QO X = _
    rw [wp_iteE, wp_gives]
theorem wp_slL {s : List D} {lo hi : Option Int} : Wp (slD (.lst s) lo hi ρ S) QO X = QO (true, .lst (cut s lo hi)) ρ S := by with_unfolding_all exact Eq.trans rfl rfl
theorem wp_revL {s : List D} : Wp (revD (.lst s) ρ S) QO X = QO (true, .lst s.reverse) ρ S := by with_unfolding_all exact Eq.trans rfl rfl
theorem wp_revT {s : List D} : Wp (revD (.tup s) ρ S) QO X = QO (false, .tup s.reverse) ρ S := by with_unfolding_all exact Eq.trans rfl rfl
theorem wp_slZ {s : List Int} {lo hi : Option Int} : Wp (slD (.scr s) lo hi ρ S) QO X = QO (true, .lst ((cut s lo hi).map .int)) ρ S := by with_unfolding_all exact Eq.trans rfl rfl
theorem wp_slT {s : List D} {lo hi : Option Int} : Wp (slD (.tup s) lo hi ρ S) QO X = QO (false, .tup (cut s lo hi)) ρ S := by with_unfolding_all exact Eq.trans rfl rfl
section
variable {f : D × D → M OD} {QO : OD → Rho → List D → Prop} {X : Nat → List D → Rho → List D → Prop} {XF : Nat → List D → List D → Prop} {ρ : Rho} {S : List D} {xs : List D}
theorem wp_v_app (d : D) : Wp (optM (VT.sem .append (.lst xs) [d]) f ρ S) QO X = (xs.length < 16777216 ∧ Wp (f (.lst (xs ++ [d]), .non) ρ S) QO X) := by
  with_unfolding_all
    rw [wp_opt]
    have e : VT.sem .append (.lst xs) [d] = if xs.length < LN then some (D.lst (xs ++ [d]), D.non) else none := rfl
    rw [e]
    by_cases h : xs.length < LN
    · rw [if_pos h, eq_true (show xs.length < 16777216 from h), true_and]
    · rw [if_neg h, eq_false (show ¬ xs.length < 16777216 from h), false_and]
theorem wp_v_ext (ys : List D) : Wp (optM (VT.sem .extend (.lst xs) [.lst ys]) f ρ S) QO X = (xs.length + ys.length ≤ 16777216 ∧ Wp (f (.lst (xs ++ ys), .non) ρ S) QO X) := by
  with_unfolding_all
    rw [wp_opt]
    have e : VT.sem .extend (.lst xs) [.lst ys] = if xs.length + ys.length ≤ LN then some (D.lst (xs ++ ys), D.non) else none := rfl
    rw [e]
    by_cases h : xs.length + ys.length ≤ LN
    · rw [if_pos h, eq_true (show xs.length + ys.length ≤ 16777216 from h), true_and]
    · rw [if_neg h, eq_false (show ¬ xs.length + ys.length ≤ 16777216 from h), false_and]
theorem wp_v_rev : Wp (optM (VT.sem .reverse (.lst xs) []) f ρ S) QO X = Wp (f (.lst xs.reverse, .non) ρ S) QO X := by with_unfolding_all exact Eq.trans rfl rfl
theorem wp_v_clr : Wp (optM (VT.sem .clear (.lst xs) []) f ρ S) QO X = Wp (f (.lst [], .non) ρ S) QO X := by with_unfolding_all exact Eq.trans rfl rfl
theorem wp_v_ins (i : Int) (d : D) : Wp (optM (VT.sem .insert (.lst xs) [.int i, d]) f ρ S) QO X = ((0 ≤ i ∧ i ≤ 16777216 ∧ xs.length < 16777216) ∧ Wp (f (.lst (xs.take i.toNat ++ [d] ++ xs.drop i.toNat), .non) ρ S) QO X) := by
  with_unfolding_all
    rw [wp_opt]
    have e : VT.sem .insert (.lst xs) [.int i, d] = if 0 ≤ i ∧ i ≤ (LN : Int) ∧ xs.length < LN then some (D.lst (xs.take i.toNat ++ [d] ++ xs.drop i.toNat), D.non) else none := rfl
    rw [e]
    by_cases h : 0 ≤ i ∧ i ≤ (LN : Int) ∧ xs.length < LN
    · rw [if_pos h, eq_true (show 0 ≤ i ∧ i ≤ 16777216 ∧ xs.length < 16777216 from h), true_and]
    · rw [if_neg h, eq_false (show ¬ (0 ≤ i ∧ i ≤ 16777216 ∧ xs.length < 16777216) from h), false_and]
theorem wp_v_popAt {i : Int} (h0 : 0 ≤ i) (h1 : i < xs.length) (hl : xs.length ≤ 16777216) (h : ∀ d, d ∈ xs → xs[i.toNat]? = some d → Wp (f (.lst (xs.eraseIdx i.toNat), d) ρ S) QO X) : Wp (optM (VT.sem .popAt (.lst xs) [.int i]) f ρ S) QO X := by
  with_unfolding_all
    rw [wp_opt]
    have hi : i.toNat < xs.length := by omega
    have e : VT.sem .popAt (.lst xs) [.int i] = some (.lst (xs.eraseIdx i.toNat), xs[i.toNat]) := by
      show (if 0 ≤ i ∧ i < xs.length ∧ xs.length ≤ LN then (xs[i.toNat]?).map fun d => (D.lst (xs.eraseIdx i.toNat), d) else none) = _
      rw [if_pos ⟨h0, h1, hl⟩, List.getElem?_eq_getElem hi]
      rfl
    rw [e]
    exact h _ (List.getElem_mem hi) (List.getElem?_eq_getElem hi)
end
theorem nodup_map {α β : Type} (f : α → β) {l : List α} (h : l.Nodup) (inj : ∀ a ∈ l, ∀ b ∈ l, f a = f b → a = b) : (l.map f).Nodup := by
  unfold List.Nodup at *
  rw [List.pairwise_map]
  exact h.imp_of_mem fun ha hb hab e => hab (inj _ ha _ hb e)
theorem rng_map (n : Nat) : rngD 0 (n : Int) = (List.range n).map fun (k : Nat) => D.int k := by
  unfold rngD
  simp
theorem tk_len (k : Nat) : (rngD 0 (k : Int)).length = k := by rw [rng_len]; omega
end
/-! ### things of a small size -/
def D.ok : Nat → D → Prop
  | _, .non => True
  | _, .bl _ => True
  | _, .int _ => True
  | _, .str s => s.length ≤ 1000000
  | n + 1, .tup xs => xs.length ≤ 1000000 ∧ ∀ x ∈ xs, D.ok n x
  | n + 1, .lst xs => xs.length ≤ 1000000 ∧ ∀ x ∈ xs, D.ok n x
  | _, _ => False
theorem D.ok.dle {n : Nat} {d : D} (h : D.ok n d) : D.dle n d = true := by
  induction n generalizing d with
  | zero => cases d <;> first | rfl | exact h.elim
  | succ n ih =>
    cases d with
    | tup xs => exact dleL_all fun x hx => ih (h.2 x hx)
    | lst xs => exact dleL_all fun x hx => ih (h.2 x hx)
    | _ => first | rfl | exact h.elim
theorem D.ok.mono {n m : Nat} {d : D} (h : D.ok n d) (l : n ≤ m) : D.ok m d := by
  induction n generalizing d m with
  | zero => cases d <;> cases m <;> first | exact h | exact trivial | exact h.elim
  | succ n ih =>
    obtain ⟨m, rfl⟩ : ∃ k, m = k + 1 := ⟨m - 1, by omega⟩
    cases d with
    | tup xs => exact ⟨h.1, fun x hx => ih (h.2 x hx) (by omega)⟩
    | lst xs => exact ⟨h.1, fun x hx => ih (h.2 x hx) (by omega)⟩
    | _ => exact h
theorem D.ok.d60 {n : Nat} {d : D} (h : D.ok n d) (l : n ≤ 60) : D.dle 60 d = true := (h.mono l).dle
theorem D.ok.nc {n : Nat} {d : D} (h : D.ok n d) : d.kd ≠ .cell := by
  cases n <;> cases d <;> first | exact h.elim | (intro z; cases z)
theorem D.ok.der {n : Nat} {d : D} (h : D.ok n d) (ρ : Rho) (S : List D) : derM d ρ S = .ok d ρ S := der_nc (fun m e => h.nc (by rw [e]; rfl)) ρ S
/-! ### readings by constructor -/
theorem ao_add : AO.sem .add = addD := Eq.trans rfl rfl
theorem ao_sub : AO.sem .sub = subD := Eq.trans rfl rfl
theorem ao_mul : AO.sem .mul = mulD := Eq.trans rfl rfl
theorem ao_div : AO.sem .div = divD := Eq.trans rfl rfl
theorem ao_mod : AO.sem .mod = modD := Eq.trans rfl rfl
theorem ao_pow : AO.sem .pow = powD := Eq.trans rfl rfl
theorem co_eq : CO.sem .eq = eqD := Eq.trans rfl rfl
theorem co_ne : CO.sem .ne = neD := Eq.trans rfl rfl
theorem co_lt : CO.sem .lt = ltD := Eq.trans rfl rfl
theorem co_le : CO.sem .le = leD := Eq.trans rfl rfl
theorem co_gt : CO.sem .gt = gtD := Eq.trans rfl rfl
theorem co_ge : CO.sem .ge = geD := Eq.trans rfl rfl
theorem co_ins : CO.sem .ins = inD false := Eq.trans rfl rfl
theorem co_nin : CO.sem .nin = inD true := Eq.trans rfl rfl
theorem kd_ii : Ty.hasK .int .int = true := Eq.trans rfl rfl
theorem kd_ib : Ty.hasK .int .bl = true := Eq.trans rfl rfl
theorem kd_bb : Ty.hasK .bool .bl = true := Eq.trans rfl rfl
theorem kd_ss : Ty.hasK .str .str = true := Eq.trans rfl rfl
theorem kd_tt : Ty.hasK .tuple .tup = true := Eq.trans rfl rfl
theorem kd_ll : Ty.hasK .list .lst = true := Eq.trans rfl rfl
theorem kd_in : Ty.hasK .int .non = false := Eq.trans rfl rfl
theorem kd_is : Ty.hasK .int .str = false := Eq.trans rfl rfl
theorem kd_it : Ty.hasK .int .tup = false := Eq.trans rfl rfl
theorem kd_il : Ty.hasK .int .lst = false := Eq.trans rfl rfl
theorem kd_bn : Ty.hasK .bool .non = false := Eq.trans rfl rfl
theorem kd_bi : Ty.hasK .bool .int = false := Eq.trans rfl rfl
theorem kd_bs : Ty.hasK .bool .str = false := Eq.trans rfl rfl
theorem kd_bt : Ty.hasK .bool .tup = false := Eq.trans rfl rfl
theorem kd_bL : Ty.hasK .bool .lst = false := Eq.trans rfl rfl
theorem kd_sn : Ty.hasK .str .non = false := Eq.trans rfl rfl
theorem kd_sb : Ty.hasK .str .bl = false := Eq.trans rfl rfl
theorem kd_si : Ty.hasK .str .int = false := Eq.trans rfl rfl
theorem kd_st : Ty.hasK .str .tup = false := Eq.trans rfl rfl
theorem kd_sl : Ty.hasK .str .lst = false := Eq.trans rfl rfl
theorem kd_tn : Ty.hasK .tuple .non = false := Eq.trans rfl rfl
theorem kd_tb : Ty.hasK .tuple .bl = false := Eq.trans rfl rfl
theorem kd_ti : Ty.hasK .tuple .int = false := Eq.trans rfl rfl
theorem kd_ts : Ty.hasK .tuple .str = false := Eq.trans rfl rfl
theorem kd_tl : Ty.hasK .tuple .lst = false := Eq.trans rfl rfl
theorem kd_ln : Ty.hasK .list .non = false := Eq.trans rfl rfl
theorem kd_lb : Ty.hasK .list .bl = false := Eq.trans rfl rfl
theorem kd_li : Ty.hasK .list .int = false := Eq.trans rfl rfl
theorem kd_ls : Ty.hasK .list .str = false := Eq.trans rfl rfl
theorem kd_lt : Ty.hasK .list .tup = false := Eq.trans rfl rfl
theorem nd_non (b : Bool) : isND b .non = !b := by cases b <;> rfl
theorem nd_bl (b c : Bool) : isND b (.bl c) = b := Eq.trans rfl rfl
theorem nd_int (b : Bool) (c : Int) : isND b (.int c) = b := Eq.trans rfl rfl
theorem nd_str (b : Bool) (c : List Nat) : isND b (.str c) = b := Eq.trans rfl rfl
theorem nd_tup (b : Bool) (c : List D) : isND b (.tup c) = b := Eq.trans rfl rfl
theorem nd_lst (b : Bool) (c : List D) : isND b (.lst c) = b := Eq.trans rfl rfl
theorem nd_exn (b : Bool) (c : Nat) (vs : List D) : isND b (.exn c vs) = b := Eq.trans rfl rfl
theorem nd_obj (b : Bool) (c : Nat) (vs : List D) : isND b (.obj c vs) = b := Eq.trans rfl rfl
theorem put_one (i : Nat) (d : D) (ρ : Rho) : Tg.put (.one i) d ρ = some (ρ.set i (some (false, d))) := Eq.trans rfl rfl
theorem put_tup (is : List Nat) (ds : List D) (ρ : Rho) : Tg.put (.tup is) (.tup ds) ρ = if ds.length = is.length then some (setMany is ds ρ) else none := Eq.trans rfl rfl
theorem put_two (i : Nat) (js : List Nat) (a : D) (ds : List D) (ρ : Rho) : Tg.put (.two i js) (.tup [a, .tup ds]) ρ = if ds.length = js.length then some (setMany js ds (ρ.set i (some (false, a)))) else none := Eq.trans rfl rfl
theorem setMany_nil (ρ : Rho) : setMany [] [] ρ = ρ := Eq.trans rfl rfl
theorem setMany_cons (i : Nat) (is : List Nat) (d : D) (ds : List D) (ρ : Rho) : setMany (i :: is) (d :: ds) ρ = setMany is ds (ρ.set i (some (false, d))) := Eq.trans rfl rfl
theorem bq_tt : (true == true) = true := Eq.trans rfl rfl
theorem bq_tf : (true == false) = false := Eq.trans rfl rfl
theorem bq_ft : (false == true) = false := Eq.trans rfl rfl
theorem bq_ff : (false == false) = true := Eq.trans rfl rfl
theorem dle_non (n : Nat) : D.dle n .non = true := by cases n <;> rfl
theorem dle_bl (n : Nat) (b : Bool) : D.dle n (.bl b) = true := by cases n <;> rfl
theorem dle_int (n : Nat) (b : Int) : D.dle n (.int b) = true := by cases n <;> rfl
theorem dle_str (n : Nat) (b : List Nat) : D.dle n (.str b) = true := by cases n <;> rfl
theorem dle_tup (n : Nat) (b : List D) : D.dle n (.tup b) = D.dleL n b := by cases n <;> rfl
theorem dle_lst (n : Nat) (b : List D) : D.dle n (.lst b) = D.dleL n b := by cases n <;> rfl
theorem dleL_nil (n : Nat) : D.dleL n [] = true := by cases n <;> rfl
theorem dleL_cons (n : Nat) (x : D) (xs : List D) : D.dleL (n + 1) (x :: xs) = (D.dle n x && D.dleL (n + 1) xs) := Eq.trans rfl rfl
theorem isLst_l (xs : List D) : isLst (.lst xs) = true := Eq.trans rfl rfl
theorem mt_T (f : MT) : tyOk (MT.T f) (.str []) = tyOk (MT.T f) (.str []) := rfl
end Mi

namespace Mi
open PySem PySem.Spec PyProof.Rows L2
/-! ### dicts, by plain keys -/
section
variable {κ β : Type} [DecidableEq κ]
def putA (es : List (κ × β)) (k : κ) (v : β) : List (κ × β) := if (es.any fun e => decide (e.1 = k)) = true then es.map (fun e => if e.1 = k then (e.1, v) else e) else es ++ [(k, v)]
def findA (es : List (κ × β)) (k : κ) : Option β := (es.find? fun e => decide (e.1 = k)).map (·.2)
theorem findA_nil (k : κ) : findA ([] : List (κ × β)) k = none := rfl
theorem findA_cons (e : κ × β) (es : List (κ × β)) (k : κ) : findA (e :: es) k = if e.1 = k then some e.2 else findA es k := by
  unfold findA
  rw [List.find?_cons]
  by_cases h : e.1 = k <;> simp [h]
theorem findA_none {es : List (κ × β)} {k : κ} : findA es k = none ↔ k ∉ es.map (·.1) := by
  induction es with
  | nil => simp [findA_nil]
  | cons e es ih =>
    rw [findA_cons]
    by_cases h : e.1 = k
    · simp [h]
    · rw [if_neg h, ih, List.map_cons, List.mem_cons, not_or]
      exact ⟨fun z => ⟨fun q => h q.symm, z⟩, fun z => z.2⟩
theorem findA_some {es : List (κ × β)} {k : κ} (h : k ∈ es.map (·.1)) : ∃ v, findA es k = some v := by
  cases e : findA es k with
  | none => exact absurd h (findA_none.mp e)
  | some v => exact ⟨v, rfl⟩
theorem findA_mem {es : List (κ × β)} {k : κ} {v : β} (h : findA es k = some v) : (k, v) ∈ es := by
  induction es with
  | nil => cases h
  | cons e es ih =>
    rw [findA_cons] at h
    by_cases hk : e.1 = k
    · rw [if_pos hk] at h
      cases h
      subst hk
      exact List.mem_cons_self
    · rw [if_neg hk] at h
      exact List.mem_cons_of_mem _ (ih h)
theorem findA_of {es : List (κ × β)} {k : κ} {v : β} (nd : (es.map (·.1)).Nodup) (h : (k, v) ∈ es) : findA es k = some v := by
  induction es with
  | nil => cases h
  | cons e es ih =>
    rw [findA_cons]
    rw [List.map_cons, List.nodup_cons] at nd
    rcases List.mem_cons.mp h with rfl | h
    · simp
    · have : e.1 ≠ k := fun z => nd.1 (z ▸ List.mem_map_of_mem (f := (·.1)) h)
      rw [if_neg this]
      exact ih nd.2 h
theorem any_key {es : List (κ × β)} {k : κ} : (es.any fun e => decide (e.1 = k)) = true ↔ k ∈ es.map (·.1) := by
  simp [List.any_eq_true, List.mem_map]
theorem keys_put (es : List (κ × β)) (k : κ) (v : β) : (putA es k v).map (·.1) = if k ∈ es.map (·.1) then es.map (·.1) else es.map (·.1) ++ [k] := by
  unfold putA
  by_cases h : (es.any fun e => decide (e.1 = k)) = true
  · rw [if_pos h, if_pos (any_key.mp h), List.map_map]
    congr 1
    funext e
    simp only [Function.comp_def]
    split <;> rfl
  · rw [if_neg h, if_neg (fun z => h (any_key.mpr z))]
    simp
theorem put_nodup {es : List (κ × β)} (h : (es.map (·.1)).Nodup) (k : κ) (v : β) : ((putA es k v).map (·.1)).Nodup := by
  rw [keys_put]
  split
  · exact h
  · rename_i hk
    refine List.nodup_append.mpr ⟨h, by simp, fun a ha b hb e => ?_⟩
    simp at hb
    subst hb e
    exact hk ha
theorem mem_keys_put {es : List (κ × β)} {k k' : κ} {v : β} : k' ∈ (putA es k v).map (·.1) ↔ k' ∈ es.map (·.1) ∨ k' = k := by
  rw [keys_put]
  split
  · rename_i h
    constructor
    · exact .inl
    · rintro (h1 | rfl)
      · exact h1
      · exact h
  · rw [List.mem_append, List.mem_singleton]
theorem find_put (es : List (κ × β)) (k k' : κ) (v : β) : findA (putA es k v) k' = if k' = k then some v else findA es k' := by
  unfold putA
  by_cases h : (es.any fun e => decide (e.1 = k)) = true
  · rw [if_pos h]
    have hk := any_key.mp h
    clear h
    induction es with
    | nil => simp at hk
    | cons e es ih =>
      rw [List.map_cons, findA_cons, findA_cons]
      by_cases h1 : e.1 = k
      · rw [if_pos h1]
        by_cases h2 : k' = k
        · subst h2; simp [h1]
        · have : e.1 ≠ k' := fun z => h2 (z.symm.trans h1)
          simp only [this, if_false, h2]
          by_cases h3 : k ∈ es.map (·.1)
          · have := ih h3
            rw [if_neg h2] at this
            exact this
          · have : es.map (fun e => if e.1 = k then (e.1, v) else e) = es := by
              refine List.map_congr_left (g := id) (fun a ha => ?_) |>.trans (List.map_id es)
              have : a.1 ≠ k := fun z => h3 (z ▸ List.mem_map_of_mem (f := (·.1)) ha)
              simp [this]
            rw [this]
      · rw [if_neg h1]
        have hk2 : k ∈ es.map (·.1) := by
          rw [List.map_cons, List.mem_cons] at hk
          rcases hk with hk | hk
          · exact absurd hk.symm h1
          · exact hk
        rw [ih hk2]
        by_cases h2 : k' = k
        · subst h2; simp [h1]
        · simp [h2]
  · rw [if_neg h]
    have hk : k ∉ es.map (·.1) := fun z => h (any_key.mpr z)
    induction es with
    | nil => simp [findA_cons, findA_nil, eq_comm]
    | cons e es ih =>
      rw [List.cons_append, findA_cons, findA_cons]
      have h1 : e.1 ≠ k := fun z => hk (by simp [z])
      have h2 : ¬ (es.any fun e => decide (e.1 = k)) = true := fun z => h (by simp at z ⊢; exact .inr z)
      have h3 : k ∉ es.map (·.1) := fun z => hk (List.mem_cons_of_mem _ z)
      rw [ih h2 h3]
      by_cases h4 : e.1 = k'
      · have : k' ≠ k := fun z => h1 (h4.trans z)
        simp [h4, this]
      · simp [h4]
theorem len_put_le (es : List (κ × β)) (k : κ) (v : β) : (putA es k v).length ≤ es.length + 1 := by
  unfold putA
  split <;> simp
theorem put_new {es : List (κ × β)} {k : κ} (h : k ∉ es.map (·.1)) (v : β) : putA es k v = es ++ [(k, v)] := by
  unfold putA
  rw [if_neg (fun z => h (any_key.mp z))]
/-- all items put, one by one -/
def putsA {α : Type} (key : α → κ) (val : α → β) (xs : List α) (es : List (κ × β)) : List (κ × β) := xs.foldl (fun es x => putA es (key x) (val x)) es
theorem puts_nodup {α : Type} (key : α → κ) (val : α → β) (xs : List α) {es : List (κ × β)} (h : (es.map (·.1)).Nodup) : ((putsA key val xs es).map (·.1)).Nodup := by
  induction xs generalizing es with
  | nil => exact h
  | cons x xs ih => exact ih (put_nodup h _ _)
theorem mem_keys_puts {α : Type} {key : α → κ} {val : α → β} {xs : List α} {es : List (κ × β)} {k : κ} : k ∈ (putsA key val xs es).map (·.1) ↔ k ∈ es.map (·.1) ∨ k ∈ xs.map key := by
  induction xs generalizing es with
  | nil => simp [putsA]
  | cons x xs ih =>
    show k ∈ (putsA key val xs (putA es (key x) (val x))).map (·.1) ↔ _
    rw [ih, mem_keys_put, List.map_cons, List.mem_cons, or_assoc]
theorem len_puts_le {α : Type} (key : α → κ) (val : α → β) (xs : List α) (es : List (κ × β)) : (putsA key val xs es).length ≤ es.length + xs.length := by
  induction xs generalizing es with
  | nil => exact Nat.le_refl _
  | cons x xs ih =>
    have h1 := ih (putA es (key x) (val x))
    have h2 := len_put_le es (key x) (val x)
    show (putsA key val xs (putA es (key x) (val x))).length ≤ _
    simp
    omega
theorem find_puts {α : Type} {key : α → κ} {val : α → β} {xs : List α} {es : List (κ × β)} {k : κ} (h : k ∉ xs.map key) : findA (putsA key val xs es) k = findA es k := by
  induction xs generalizing es with
  | nil => rfl
  | cons x xs ih =>
    rw [List.map_cons, List.mem_cons, not_or] at h
    show findA (putsA key val xs (putA es (key x) (val x))) k = _
    rw [ih h.2, find_put, if_neg h.1]
theorem puts_new {α : Type} {key : α → κ} {val : α → β} {xs : List α} {es : List (κ × β)} (nd : (xs.map key).Nodup) (h : ∀ x ∈ xs, key x ∉ es.map (·.1)) : putsA key val xs es = es ++ xs.map fun x => (key x, val x) := by
  induction xs generalizing es with
  | nil => simp [putsA]
  | cons x xs ih =>
    rw [List.map_cons, List.nodup_cons] at nd
    show putsA key val xs (putA es (key x) (val x)) = _
    rw [put_new (h x List.mem_cons_self), ih nd.2 (fun y hy => by
      rw [List.map_append, List.mem_append, not_or]
      refine ⟨h y (List.mem_cons_of_mem _ hy), ?_⟩
      simp
      intro z
      exact nd.1 (z ▸ List.mem_map_of_mem hy))]
    simp
theorem puts_len {α : Type} {key : α → κ} {val : α → β} {xs : List α} : (putsA key val xs []).length = xs.length ↔ (xs.map key).Nodup := by
  constructor
  · intro h
    suffices H : ∀ (xs : List α) (es : List (κ × β)), (putsA key val xs es).length = es.length + xs.length → (xs.map key).Nodup ∧ ∀ x ∈ xs, key x ∉ es.map (·.1) from (H xs [] (by simpa using h)).1
    clear h xs
    intro xs
    induction xs with
    | nil => intro es _; simp
    | cons x xs ih =>
      intro es h
      have h : (putsA key val xs (putA es (key x) (val x))).length = es.length + (xs.length + 1) := h
      have h1 := len_puts_le key val xs (putA es (key x) (val x))
      have h2 := len_put_le es (key x) (val x)
      have hx : key x ∉ es.map (·.1) := fun z => by
        have : (putA es (key x) (val x)).length = es.length := by
          unfold putA
          rw [if_pos (any_key.mpr z), List.length_map]
        omega
      obtain ⟨n1, n2⟩ := ih (putA es (key x) (val x)) (by omega)
      refine ⟨?_, ?_⟩
      · rw [List.map_cons, List.nodup_cons]
        refine ⟨fun z => ?_, n1⟩
        obtain ⟨y, hy, e⟩ := List.mem_map.mp z
        exact n2 y hy (by rw [mem_keys_put]; exact .inr e)
      · intro y hy
        rcases List.mem_cons.mp hy with rfl | hy
        · exact hx
        · exact fun z => n2 y hy (by rw [mem_keys_put]; exact .inl z)
  · intro h
    rw [puts_new h (by simp)]
    simp
end
/-- keys as data -/
structure KeyE {κ : Type} (kd : Nat) (e : κ → D) : Prop where
  k01 : kd = 0 ∨ kd = 1
  ok : ∀ a, keyOk kd (e a) = true
  inj : ∀ a b, D.nk (e a) = D.nk (e b) → a = b
def encE {κ β : Type} (e : κ → D) (f : β → D) (es : List (κ × β)) : List (D × D) := es.map fun p => (e p.1, f p.2)
def dK (kd : Nat) (es : List (D × D)) : D := .dct (if es.isEmpty = true then 0 else kd) es
section
variable {κ β : Type} [DecidableEq κ] {kd : Nat} {e : κ → D} {f : β → D} (h : KeyE kd e)
include h
theorem KeyE.ok2 (es : List (D × D)) (a : κ) : kOk (if es.isEmpty = true then 0 else kd) es (e a) = true := by
  unfold kOk
  have := h.ok a
  cases es with
  | nil => rcases h.k01 with rfl | rfl <;> simp [this]
  | cons x xs => simp [this]
theorem KeyE.kind (a : κ) : kindOf (e a) = kd := by
  unfold kindOf
  have := h.ok a
  rcases h.k01 with rfl | rfl
  · rw [if_pos this]
  · split
    · rename_i h0
      exfalso
      revert h0 this
      cases e a <;> simp [keyOk]
    · rfl
theorem KeyE.nk_eq (a b : κ) : decide (D.nk (e a) = D.nk (e b)) = decide (a = b) := by
  by_cases hab : a = b
  · subst hab; simp
  · have : ¬ D.nk (e a) = D.nk (e b) := fun z => hab (h.inj a b z)
    simp [hab, this]
theorem find_enc (es : List (κ × β)) (k : κ) : findE (encE e f es) (e k) = (findA es k).map f := by
  unfold findE encE findA
  induction es with
  | nil => rfl
  | cons x xs ih =>
    rw [List.map_cons, List.find?_cons, List.find?_cons]
    simp only [h.nk_eq]
    by_cases hk : x.1 = k
    · simp [hk]
    · simp only [hk, decide_false]
      exact ih
theorem put_enc (es : List (κ × β)) (k : κ) (v : β) : putE (encE e f es) (e k) (f v) = encE e f (putA es k v) := by
  unfold putE putA
  have e1 : ((encE e f es).any fun x => decide (D.nk x.1 = D.nk (e k))) = es.any fun x => decide (x.1 = k) := by
    unfold encE
    rw [List.any_map]
    congr 1
    funext x
    exact h.nk_eq _ _
  rw [e1]
  split
  · unfold encE
    rw [List.map_map, List.map_map]
    congr 1
    funext x
    simp only [Function.comp_def]
    by_cases hx : x.1 = k
    · subst hx; simp
    · have : ¬ D.nk (e x.1) = D.nk (e k) := fun z => hx (h.inj _ _ z)
      simp [hx, this]
  · unfold encE
    simp
theorem putIx_dK {es : List (κ × β)} (hl : es.length < 16777216) (k : κ) (v : β) : putIx (dK kd (encE e f es)) (f v) (e k) = some (dK kd (encE e f (putA es k v))) := by
  unfold dK putIx
  have h1 := h.ok2 (encE e f es) k
  have h2 : (encE e f es).length < LN := by unfold encE; rw [List.length_map]; exact hl
  have h4 : (if (encE e f es).isEmpty = true then 0 else kd) ≤ 1 := by
    split
    · decide
    · rcases h.k01 with rfl | rfl <;> decide
  simp only [h1, h2, h4, and_self, if_true, h.kind, put_enc h]
  have h3 : (encE e f (putA es k v)).isEmpty = false := by
    unfold encE putA
    split
    · rename_i ha
      cases es with
      | nil => simp at ha
      | cons x xs => rfl
    · cases es <;> rfl
  rw [h3]
  rfl
variable {QO : OD → Rho → List D → Prop} {X : Nat → List D → Rho → List D → Prop} {ρ : Rho} {S : List D}
theorem wp_dix {es : List (κ × β)} {k : κ} {v : β} (hf : findA es k = some v) : Wp (ixD (dK kd (encE e f es)) (e k) ρ S) QO X = QO (false, f v) ρ S := by
  with_unfolding_all
    show Wp ((if kOk _ (encE e f es) (e k) = true then optM (findE (encE e f es) (e k)) gives else M.err) ρ S) QO X = _
    rw [wp_iteE, h.ok2, find_enc h, hf, wp_opt]
    simp [wp_gives, wp_ok]
theorem wp_din (neg : Bool) (es : List (κ × β)) (k : κ) : Wp (inD neg (e k) (dK kd (encE e f es)) ρ S) QO X = QO (false, .bl (if neg then !(findA es k).isSome else (findA es k).isSome)) ρ S := by
  with_unfolding_all
    show Wp ((if kOk _ (encE e f es) (e k) = true then ofBool (if neg then !(findE (encE e f es) (e k)).isSome else (findE (encE e f es) (e k)).isSome) else M.err) ρ S) QO X = _
    rw [wp_iteE, h.ok2, find_enc h, wp_ofBool]
    simp
theorem wp_dget1 (es : List (κ × β)) (k : κ) : Wp (getD' (dK kd (encE e f es)) [e k] ρ S) QO X = QO (false, ((findA es k).map f).getD .non) ρ S := by
  with_unfolding_all
    show Wp ((if kOk _ (encE e f es) (e k) = true then gives ((findE (encE e f es) (e k)).getD .non) else M.err) ρ S) QO X = _
    rw [wp_iteE, h.ok2, find_enc h, wp_gives]
    simp
theorem wp_dget2 (es : List (κ × β)) (k : κ) (d : D) (hd : d.flat = true) : Wp (getD' (dK kd (encE e f es)) [e k, d] ρ S) QO X = QO (false, ((findA es k).map f).getD d) ρ S := by
  with_unfolding_all
    show Wp ((if kOk _ (encE e f es) (e k) = true ∧ d.flat = true then gives ((findE (encE e f es) (e k)).getD d) else M.err) ρ S) QO X = _
    rw [wp_iteE, h.ok2, find_enc h, wp_gives, hd]
    simp
end
section
variable {α : Type} {QO : OD → Rho → List D → Prop} {X : Nat → List D → Rho → List D → Prop} {ρ : Rho} {S : List D} {p : Po}
theorem wp_get (o : M Opd) (os : M (List Opd)) : Wp (getM o os ρ S) QO X = Wp (o ρ S) (fun x ρ S => Wp (resM x ρ S) (fun d0 ρ S => isDct d0 = true ∧ Wp (os ρ S) (fun xs ρ S => Wp (resM x ρ S) (fun d ρ S => Wp (resL xs ρ S) (fun ds ρ S => Wp (getD' d ds ρ S) QO X) X) X) X) X) X := by
  with_unfolding_all
    have : getM o os = (o >>= fun x => resM x >>= fun d0 => if isDct d0 = true then os >>= fun xs => resM x >>= fun d => resL xs >>= fun ds => getD' d ds else M.err) := rfl
    rw [this]
    simp only [wp_bind, wp_iteE]
theorem wp_der_dK (kd : Nat) (es : List (D × D)) {Q : D → Rho → List D → Prop} : Wp (derM (dK kd es) ρ S) Q X = Q (dK kd es) ρ S := by with_unfolding_all exact Eq.trans rfl rfl
theorem der_dK (kd : Nat) (es : List (D × D)) : derM (dK kd es) ρ S = .ok (dK kd es) ρ S := Eq.trans rfl rfl
theorem isDct_dK (kd : Nat) (es : List (D × D)) : isDct (dK kd es) = true := Eq.trans rfl rfl
theorem wp_len_dK {κ β : Type} (e : κ → D) (f : β → D) (kd : Nat) (es : List (κ × β)) : Wp (BI.sem .len [dK kd (encE e f es)] ρ S) QO X = QO (false, .int es.length) ρ S := by
  with_unfolding_all
    show QO (false, .int (encE e f es).length) ρ S = _
    unfold encE
    rw [List.length_map]
theorem wp_sort_l (xs : List D) : Wp (sortD [.lst xs] ρ S) QO X = (sortOk xs = true ∧ QO (true, .lst (xs.mergeSort D.le)) ρ S) := by
  with_unfolding_all
    show Wp ((if sortOk xs = true then fresh (.lst (xs.mergeSort D.le)) else M.err) ρ S) QO X = _
    rw [wp_iteE, wp_fresh]
theorem wp_sort_d {κ β : Type} (e : κ → D) (f : β → D) (kd : Nat) (es : List (κ × β)) : Wp (sortD [dK kd (encE e f es)] ρ S) QO X = (sortOk ((es.map (·.1)).map e) = true ∧ QO (true, .lst (((es.map (·.1)).map e).mergeSort D.le)) ρ S) := by
  with_unfolding_all
    have e1 : (encE e f es).map (·.1) = (es.map (·.1)).map e := by unfold encE; simp
    show Wp ((if sortOk ((encE e f es).map (·.1)) = true then fresh (.lst (((encE e f es).map (·.1)).mergeSort D.le)) else M.err) ρ S) QO X = _
    rw [wp_iteE, wp_fresh, e1]
theorem dK_nil (kd : Nat) {κ β : Type} (e : κ → D) (f : β → D) : D.dct 0 [] = dK kd (encE e f []) := rfl
theorem wp_inL (neg : Bool) (d : D) (ys : List D) : Wp (inD neg d (.lst ys) ρ S) QO X = ((D.dle 60 d && D.dleL 60 ys) = true ∧ QO (false, .bl (if neg then !(ys.any fun y => D.eqb y d) else ys.any fun y => D.eqb y d)) ρ S) := by
  with_unfolding_all
    show Wp ((if (D.dle 60 d && D.dleL 60 ys) = true then ofBool (if neg then !(ys.any fun y => D.eqb y d) else ys.any fun y => D.eqb y d) else M.err) ρ S) QO X = _
    rw [wp_iteE, wp_ofBool]
theorem wp_inT (neg : Bool) (d : D) (ys : List D) : Wp (inD neg d (.tup ys) ρ S) QO X = ((D.dle 60 d && D.dleL 60 ys) = true ∧ QO (false, .bl (if neg then !(ys.any fun y => D.eqb y d) else ys.any fun y => D.eqb y d)) ρ S) := by
  with_unfolding_all
    show Wp ((if (D.dle 60 d && D.dleL 60 ys) = true then ofBool (if neg then !(ys.any fun y => D.eqb y d) else ys.any fun y => D.eqb y d) else M.err) ρ S) QO X = _
    rw [wp_iteE, wp_ofBool]
theorem wp_inS1 (neg : Bool) (c : Nat) (ys : List Nat) : Wp (inD neg (.str [c]) (.str ys) ρ S) QO X = QO (false, .bl (if neg then !decide (c ∈ ys) else decide (c ∈ ys))) ρ S := by with_unfolding_all exact Eq.trans rfl rfl
theorem CO_ins (d e : D) : CO.sem .ins d e = inD false d e := Eq.trans rfl rfl
theorem CO_nin (d e : D) : CO.sem .nin d e = inD true d e := Eq.trans rfl rfl
/-- a loop that folds what it keeps, the slots else free -/
theorem run_foldE {α β : Type} {t : Tg} {b : MS} (w : β → D) (E : Nat → α → Rho → Prop) (f : α → β → α) {xs : List β} (a : α) (n : Nat) (h0 : E n a ρ)
    (h : ∀ i a x ρ, x ∈ xs → i < n + xs.length → E i a ρ → ∃ ρ0, t.put (w x) ρ = some ρ0 ∧ ∀ q : Po, (∀ ρ', E (i + 1) (f a x) ρ' → q.N ρ' S) → (∀ ρ', E (i + 1) (f a x) ρ' → q.C ρ' S) → Run (b ρ0 S) q) (hN : ∀ ρ', E (n + xs.length) (xs.foldl f a) ρ' → p.N ρ' S) : Run (forL t b (xs.map w) ρ S) p := by
  with_unfolding_all
    induction xs generalizing a ρ n with
    | nil => exact hN _ h0
    | cons x xs ih =>
      obtain ⟨ρ0, e0, r⟩ := h n a x ρ List.mem_cons_self (by simp) h0
      have r := r { N := fun ρ1 S1 => E (n + 1) (f a x) ρ1 ∧ S1 = S, C := fun ρ1 S1 => E (n + 1) (f a x) ρ1 ∧ S1 = S, B := fun _ _ => False, V := fun _ _ => False, X := fun _ _ _ _ => False } (fun ρ' e => ⟨e, rfl⟩) (fun ρ' e => ⟨e, rfl⟩)
      have next : ∀ ρ', E (n + 1) (f a x) ρ' → Run (forL t b (xs.map w) ρ' S) p := fun ρ' e => ih (f a x) (n + 1) e (fun i a y ρ hy hi => h i a y ρ (List.mem_cons_of_mem _ hy) (by simp; omega)) (fun ρ' e => hN ρ' (by simpa [Nat.add_assoc, Nat.add_comm 1] using e))
      rw [List.map_cons]
      unfold forL
      rw [e0]
      dsimp only
      cases e : b ρ0 S with
      | nxt ρ1 S1 => rw [e, run_nxt] at r; obtain ⟨e1, rfl⟩ := r; exact next _ e1
      | cnt ρ1 S1 => rw [e, run_cnt] at r; obtain ⟨e1, rfl⟩ := r; exact next _ e1
      | brk ρ1 S1 => rw [e] at r; exact r.elim
      | ret x ρ1 S1 => rw [e] at r; exact r.elim
      | exc c vs ρ1 S1 => rw [e] at r; exact r.elim
      | err => rw [e] at r; exact r.elim
/-- sorting data whose order is plain -/
theorem sort_enc {α : Type} (e : α → D) (le : α → α → Bool) (h : ∀ a b, D.le (e a) (e b) = le a b) (xs : List α) : (xs.map e).mergeSort D.le = (xs.mergeSort le).map e :=
  (List.map_mergeSort (r := le) (s := D.le) (f := e) (l := xs) (fun a _ b _ => (h a b).symm)).symm
end
/-! ### keys in use -/
theorem key_str : KeyE 0 D.str := ⟨.inl rfl, fun _ => rfl, fun a b h => by
  simp only [D.nk, Option.some.injEq, NestedKey.text.injEq, Str.mk.injEq] at h
  simpa using h⟩
theorem key_int : KeyE 0 D.int := ⟨.inl rfl, fun _ => rfl, fun a b h => by
  simpa [D.nk] using h⟩
/-! ### texts in a list -/
theorem any_str (xs : List (List Nat)) (x : List Nat) : ((xs.map D.str).any fun y => D.eqb y (.str x)) = decide (x ∈ xs) := by
  rw [List.any_map, Bool.eq_iff_iff, List.any_eq_true, decide_eq_true_eq]
  simp
theorem any_int (xs : List Int) (x : Int) : ((xs.map D.int).any fun y => D.eqb y (.int x)) = decide (x ∈ xs) := by
  rw [List.any_map, Bool.eq_iff_iff, List.any_eq_true, decide_eq_true_eq]
  simp
theorem place_str {xs : List (List Nat)} {x : List Nat} (h : x ∈ xs) : ∃ j, place (.str x) (xs.map D.str) = some j ∧ j < xs.length ∧ xs[j]? = some x := by
  induction xs with
  | nil => cases h
  | cons y ys ih =>
    rw [List.map_cons]
    unfold place
    by_cases hy : y = x
    · subst hy
      exact ⟨0, by simp, by simp, rfl⟩
    · have hx : x ∈ ys := by
        rcases List.mem_cons.mp h with h | h
        · exact absurd h.symm hy
        · exact h
      obtain ⟨j, h1, h2, h3⟩ := ih hx
      refine ⟨j + 1, ?_, by simp; omega, by simpa using h3⟩
      simp [hy, h1]
section
variable {QO : OD → Rho → List D → Prop} {X : Nat → List D → Rho → List D → Prop} {ρ : Rho} {S : List D}
theorem wp_indexL (xs : List D) (y : D) : Wp (MT.sem .lindex (.lst xs) [y] ρ S) QO X = ((D.dle 60 y && D.dleL 60 xs) = true ∧ match place y xs with | some j => QO (false, .int j) ρ S | none => False) := by
  with_unfolding_all
    show Wp ((if (D.dle 60 y && D.dleL 60 xs) = true then optM (place y xs) (fun j => gives (.int j)) else M.err) ρ S) QO X = _
    rw [wp_iteE, wp_opt]
    cases place y xs <;> rfl
end
theorem tyOk_s (f : MT) (s : List Nat) : tyOk (MT.T f) (.str s) = decide (MT.T f = "str") := Eq.trans rfl rfl
theorem tyOk_l (f : MT) (s : List D) : tyOk (MT.T f) (.lst s) = decide (MT.T f = "list") := Eq.trans rfl rfl
/-! ### own classes -/
section
variable {α : Type} {QO : OD → Rho → List D → Prop} {QL : List D → Rho → List D → Prop} {X : Nat → List D → Rho → List D → Prop} {ρ : Rho} {S : List D} {p : Po}
theorem wp_newV (c n : Nat) (ms : M (List D)) : Wp (newV c n ms ρ S) QO X = Wp (ms ρ S) (fun ds ρ S => ds.length = n ∧ QO (true, .obj c ds) ρ S) X := by
  with_unfolding_all
    have : newV c n ms = (ms >>= fun ds => if ds.length = n then fresh (.obj c ds) else M.err) := rfl
    rw [this]
    simp only [wp_bind, wp_iteE, wp_fresh]
theorem wp_meth (n : Nat) (tbl : List (Option Fn)) (m : M OD) (ms : M (List D)) : Wp (methM n tbl m ms ρ S) QO X = Wp (m ρ S) (fun x ρ S => match clsOf x.2 S with
    | some c => (match tbl[c]? with
      | some (some g) => Wp (ms ρ S) (fun ds ρ S => (x.2 :: ds).length = n + 1 ∧ WpF (g (x.2 :: ds) S) (fun y S => QO y ρ S) (fun c vs S => X c vs ρ S)) X
      | _ => False)
    | none => False) X := by
  with_unfolding_all
    show Wp (M.bnd m.val (fun x ρ S => match clsOf x S with
      | some c => (match tbl[c]? with
        | some (some g) => callM (n + 1) g (do let ds ← ms; pure (x :: ds)) ρ S
        | _ => .err)
      | none => .err) ρ S) QO X = _
    unfold M.bnd
    rw [ap_val]
    cases m ρ S with
    | ok x ρ S =>
      dsimp only
      rw [wp_ok]
      cases clsOf x.2 S with
      | none => rfl
      | some c =>
        dsimp only
        rcases tbl[c]? with _ | _ | g
        · rfl
        · rfl
        · dsimp only
          rw [wp_call, wp_bind]
          rfl
    | _ => rfl
theorem cls_obj (c : Nat) (fs : List D) (S : List D) : clsOf (.obj c fs) S = some c := Eq.trans rfl rfl
theorem wp_getF (of : List (Option Nat)) (c : Nat) (fs : List D) : Wp (getF of c fs ρ S) QO X = match of[c]? with
  | some (some i) => (match fs[i]? with
    | some d => QO (false, d) ρ S
    | none => False)
  | _ => False := by
  with_unfolding_all
    unfold getF
    rcases of[c]? with _ | _ | i
    · rfl
    · rfl
    · dsimp only
      cases fs[i]? <;> rfl
theorem wp_zip_ll (xs ys : List D) : Wp (zipA [.lst xs, .lst ys] ρ S) QL X = QL (zipD xs ys) ρ S := by with_unfolding_all exact Eq.trans rfl rfl
theorem wp_zip_tt (xs ys : List D) : Wp (zipA [.tup xs, .tup ys] ρ S) QL X = QL (zipD xs ys) ρ S := by with_unfolding_all exact Eq.trans rfl rfl
theorem run_whlW {c : M OD} {b : MS} (I : Nat → Rho → List D → Prop) {k : Nat} (h0 : I k ρ S)
    (h : ∀ k ρ S, I k ρ S → Wp (c ρ S) (fun a ρ1 S1 => BlQ a.2 fun t => (t = false → p.N ρ1 S1) ∧ (t = true → ∀ q : Po, (∀ k' ρ S, k' < k → I k' ρ S → q.N ρ S) → (∀ k' ρ S, k' < k → I k' ρ S → q.C ρ S) → q.V = p.V → q.B = p.N → q.X = p.X → Run (b ρ1 S1) q)) (fun _ _ _ _ => False)) : Run (whlX c b ρ S) p := by
  with_unfolding_all
    refine run_whl I h0 fun k ρ S i => ?_
    have w := h k ρ S i
    have e := wp_test c (ρ := ρ) (S := S) (X := fun _ _ _ _ => False) (Q := fun t ρ1 S1 => (t = false → p.N ρ1 S1) ∧ (t = true → ∀ q : Po, (∀ k' ρ S, k' < k → I k' ρ S → q.N ρ S) → (∀ k' ρ S, k' < k → I k' ρ S → q.C ρ S) → q.V = p.V → q.B = p.N → q.X = p.X → Run (b ρ1 S1) q))
    rw [← e] at w
    revert w
    cases c.test ρ S with
    | ok t ρ1 S1 => exact fun w => ⟨t, ρ1, S1, rfl, w.1, w.2⟩
    | exc => exact fun w => w.elim
    | err => exact fun w => w.elim
end
/-! ### sorted(set(xs)), min(xs), sorted(d.items()) -/
section
variable {ρ : Rho} {S : List D} {QO : OD → Rho → List D → Prop} {X : Nat → List D → Rho → List D → Prop}
def pD (p : Int × Int) : D := .tup [.int p.1, .int p.2]
def leP (p q : Int × Int) : Bool := decide (p.1 < q.1 ∨ (p.1 = q.1 ∧ p.2 ≤ q.2))
theorem le_ii (a b c d : Int) : D.le (.tup [.int a, .int b]) (.tup [.int c, .int d]) = decide (a < c ∨ (a = c ∧ b ≤ d)) := congrFun (congrFun (PySem.W.dataLe_ii (fun z : Int × Int => z.1) (fun z => z.2)) (a, b)) (c, d)
theorem sort_pD (xs : List (Int × Int)) : (xs.map pD).mergeSort D.le = (xs.mergeSort leP).map pD := sort_enc pD leP (fun a b => le_ii _ _ _ _) xs
theorem dleL_pD (xs : List (Int × Int)) : D.dleL 60 (xs.map pD) = true := dleL_all fun x hx => by
  obtain ⟨p, _, rfl⟩ := List.mem_map.mp hx
  simp [pD, D.dle, D.dleL]
theorem sortOk_pD (xs : List (Int × Int)) (h : xs.length ≤ 16777216) : sortOk (xs.map pD) = true := by
  unfold sortOk
  have h1 : (xs.map pD).all D.tupB = true := List.all_eq_true.mpr fun x hx => by
    obtain ⟨p, _, rfl⟩ := List.mem_map.mp hx
    rfl
  have h2 : ((xs.map pD).all fun x => (xs.map pD).all fun y => D.alk x y) = true := List.all_eq_true.mpr fun x hx => List.all_eq_true.mpr fun y hy => by
    obtain ⟨p, _, rfl⟩ := List.mem_map.mp hx
    obtain ⟨q, _, rfl⟩ := List.mem_map.mp hy
    simp [D.alk, pD, D.py, D.pyL, PySem.W.alike, PySem.W.alikeAll]
  rw [h1, h2, dleL_pD xs]
  simp [h, LN]
theorem wp_sset_i (ns : List Int) : Wp (ssetD [.lst (ns.map .int)] ρ S) QO X = (ns.length < 64 ∧ QO (true, .lst ((uniq ltI ns).map .int)) ρ S) := by
  with_unfolding_all
    unfold ssetD
    simp only [iOf_map]
    rw [wp_iteE, wp_fresh]
theorem wp_lrg (i j : Int) : Wp (lrgD (.int i) (.int j) ρ S) QO X = (((0 ≤ i ∧ i ≤ 1000000) ∧ 0 ≤ j ∧ j ≤ 1000000) ∧ QO (true, .lst (rngD i j)) ρ S) := by
  with_unfolding_all
    show Wp ((if _ then fresh (.lst (rngD i j)) else M.err) ρ S) QO X = _
    rw [wp_iteE, wp_fresh]
theorem pOf_pD : ∀ ps : List (Int × Int), pairsOf (ps.map pD) = some ps := pairsOf_map
theorem wp_sset_p (ps : List (Int × Int)) (h : ps.length < 64) (hb : ∀ p ∈ ps, (0 ≤ p.1 ∧ p.1 < 2 ^ 64) ∧ 0 ≤ p.2 ∧ p.2 < 2 ^ 64) : Wp (ssetD [.lst (ps.map pD)] ρ S) QO X = QO (true, .lst ((uniq ltP ps).map pD)) ρ S := by
  with_unfolding_all
    cases ps with
    | nil =>
      show Wp (ssetD [.lst (([] : List Int).map .int)] ρ S) QO X = _
      rw [wp_sset_i]
      exact propext ⟨fun z => z.2, fun z => ⟨by decide, z⟩⟩
    | cons p t =>
      have e : intsOf ((p :: t).map pD) = none := rfl
      unfold ssetD
      simp only [e, pOf_pD]
      rw [wp_iteE, wp_fresh]
      exact propext ⟨fun z => z.2, fun z => ⟨⟨h, hb⟩, z⟩⟩
def minL : List Int → Int
  | [] => 0
  | n :: t => t.foldl Min.min n
theorem wp_min_l (ns : List Int) : Wp (BI.sem .min [.lst (ns.map .int)] ρ S) QO X = (ns ≠ [] ∧ QO (false, .int (minL ns)) ρ S) := by
  with_unfolding_all
    show Wp (optM (intsOf (ns.map .int)) minM ρ S) QO X = _
    rw [iOf_map, wp_opt]
    cases ns with
    | nil => exact propext ⟨fun z => z.elim, fun z => absurd rfl z.1⟩
    | cons n t => exact propext ⟨fun z => ⟨by simp, z⟩, fun z => z.2⟩
def maxL : List Int → Int
  | [] => 0
  | n :: t => t.foldl Max.max n
theorem wp_max_l (ns : List Int) : Wp (BI.sem .max [.lst (ns.map .int)] ρ S) QO X = (ns ≠ [] ∧ QO (false, .int (maxL ns)) ρ S) := by
  with_unfolding_all
    show Wp (optM (intsOf (ns.map .int)) maxM ρ S) QO X = _
    rw [iOf_map, wp_opt]
    cases ns with
    | nil => exact propext ⟨fun z => z.elim, fun z => absurd rfl z.1⟩
    | cons n t => exact propext ⟨fun z => ⟨by simp, z⟩, fun z => z.2⟩
theorem maxL_ge : ∀ {ns : List Int} {x : Int}, x ∈ ns → x ≤ maxL ns
  | n :: t, x, h => (foldl_max n t).1 x h
theorem maxL_mem : ∀ {ns : List Int}, ns ≠ [] → maxL ns ∈ ns
  | [], h => absurd rfl h
  | n :: t, _ => (foldl_max n t).2
def dctW (d : D) (K : List (D × D) → Prop) : Prop := match d with
  | .dct _ es => K es
  | _ => False
theorem dctW_dK (kd : Nat) (es : List (D × D)) (K : List (D × D) → Prop) : dctW (dK kd es) K = K es := Eq.trans rfl rfl
theorem wp_dct (o : M Opd) (g : List (D × D) → M OD) : Wp (dctM o g ρ S) QO X = Wp (o ρ S) (fun x ρ S => Wp (resM x ρ S) (fun d ρ S => dctW d fun es => Wp (g es ρ S) QO X) X) X := by
  with_unfolding_all
    have : dctM o g = (o >>= fun x => resM x >>= fun d => match d with | .dct _ es => g es | _ => M.err) := rfl
    rw [this, wp_bind]
    simp only [wp_bind]
    congr 1
    funext x ρ S
    congr 1
    funext d ρ S
    cases d <;> rfl
theorem wp_sitems_ii (es : List (Int × Int)) (h : es.length ≤ 16777216) : Wp (sitemsD (encE D.int D.int es) ρ S) QO X = QO (true, .lst ((es.mergeSort leP).map pD)) ρ S := by
  with_unfolding_all
    have e : itemsL (encE D.int D.int es) = es.map pD := by
      unfold itemsL encE
      rw [List.map_map]
      rfl
    unfold sitemsD
    rw [e, wp_iteE, wp_fresh, sort_pD]
    exact propext ⟨fun z => z.2, fun z => ⟨sortOk_pD es h, z⟩⟩
end
end Mi

namespace Mi
open PySem PySem.Spec PyProof.Rows L2
/-- what simp rewrites by -/
def wset := (And.intro (And.intro (And.intro (And.intro (And.intro (And.intro (And.intro (And.intro @wp_ok @wp_exc) (And.intro @wp_err @wpF_ok)) (And.intro (And.intro @wpF_exc @wpF_err) (And.intro @wp_bind (And.intro @wp_pure @wp_Merr)))) (And.intro (And.intro (And.intro @wp_gives @wp_fresh) (And.intro @wp_ofBool @wp_val)) (And.intro (And.intro @wp_opd @wp_test) (And.intro @wp_iteE (And.intro @wp_consV @wp_consM))))) (And.intro (And.intro (And.intro (And.intro @wp_tup @wp_lst) (And.intro @wp_call @wp_bi)) (And.intro (And.intro @wp_resL0 @wp_resL1) (And.intro @wp_op2 (And.intro @wp_neg @wp_not)))) (And.intro (And.intro (And.intro @wp_and @wp_or) (And.intro @wp_bl (And.intro @wp_ifE @wp_chain))) (And.intro (And.intro @wp_isi @wp_is2) (And.intro @wp_isx (And.intro @wp_fld @wp_isN)))))) (And.intro (And.intro (And.intro (And.intro (And.intro @wp_chk @wp_resL) (And.intro @wp_resR @wp_der_cell)) (And.intro (And.intro @der_non @der_bl) (And.intro @der_int (And.intro @der_str @der_tup)))) (And.intro (And.intro (And.intro @der_lst @der_scr) (And.intro @der_dct @der_obj)) (And.intro (And.intro @der_exn @wp_var) (And.intro @wp_mov (And.intro @wp_sl @wp_part))))) (And.intro (And.intro (And.intro (And.intro @wp_itM @wp_itOs) (And.intro @wp_zip @wp_mt)) (And.intro (And.intro @wp_cel @run_set) (And.intro @run_setC (And.intro @run_retS @run_retN)))) (And.intro (And.intro (And.intro @run_drop @run_if) (And.intro @run_asg (And.intro @run_forS @run_skip_))) (And.intro (And.intro @run_brkS @run_cntS) (And.intro @run_raise0 (And.intro @run_raise1 @run_keep))))))) (And.intro (And.intro (And.intro (And.intro (And.intro (And.intro @run_only @run_iteS) (And.intro @run_nxt @run_ret)) (And.intro (And.intro @run_cnt @run_brk) (And.intro @run_exc (And.intro @run_err @run_six)))) (And.intro (And.intro (And.intro @run_add @wp_eqD) (And.intro @wp_neD @wp_rng1)) (And.intro (And.intro @wp_rng2 @wp_top) (And.intro @wp_put (And.intro @wp_vm @isLst_l))))) (And.intro (And.intro (And.intro (And.intro @wp_v_app @wp_v_ext) (And.intro @wp_v_rev @wp_v_clr)) (And.intro (And.intro @wp_v_ins @blQ) (And.intro @inQ (And.intro @ao_add @ao_sub)))) (And.intro (And.intro (And.intro @ao_mul @ao_div) (And.intro @ao_mod (And.intro @ao_pow @co_eq))) (And.intro (And.intro @co_ne @co_lt) (And.intro @co_le (And.intro @co_gt @co_ge)))))) (And.intro (And.intro (And.intro (And.intro (And.intro @co_ins @co_nin) (And.intro @wp_add_ii @wp_add_ss)) (And.intro (And.intro @wp_add_ll @wp_add_tt) (And.intro @wp_sub_ii (And.intro @wp_mul_ii @wp_mul_li)))) (And.intro (And.intro (And.intro @wp_mul_si @wp_mod_ii) (And.intro @wp_pow_ii @wp_lt_ii)) (And.intro (And.intro @wp_lt_ss @wp_le_ii) (And.intro @wp_gt_ii (And.intro @wp_ge_ii @wp_len_s))))) (And.intro (And.intro (And.intro (And.intro @wp_len_l @wp_len_t) (And.intro @wp_len_z @wp_len_d)) (And.intro (And.intro @wp_max_ii @wp_min_ii) (And.intro @wp_int_i (And.intro @wp_int_b @wp_list_l)))) (And.intro (And.intro (And.intro @wp_list_t @wp_tuple_l) (And.intro @wp_tuple_t (And.intro @wp_all_map @wp_isi_non))) (And.intro (And.intro @wp_isi_bl @wp_isi_int) (And.intro @wp_isi_str (And.intro @wp_isi_tup @wp_isi_lst)))))))) (And.intro (And.intro (And.intro (And.intro (And.intro (And.intro (And.intro @wp_items_l @wp_items_t) (And.intro @wp_slS @wp_slL)) (And.intro (And.intro @wp_slT @wp_slZ) (And.intro @wp_rev (And.intro @wp_revL @wp_revT)))) (And.intro (And.intro (And.intro @wp_ix0 @wp_ix1) (And.intro @wp_ix2 @wp_ixt0)) (And.intro (And.intro @wp_ixt1 @wp_ixt2) (And.intro @wp_ixt3 (And.intro @wp_ixt4 @wp_inS1))))) (And.intro (And.intro (And.intro (And.intro @wp_inL @wp_inT) (And.intro @wp_get @der_dK)) (And.intro (And.intro @isDct_dK @wp_len_dK) (And.intro @wp_sort_l (And.intro @wp_sort_d @wp_indexL)))) (And.intro (And.intro (And.intro @wp_sset_i @wp_min_l) (And.intro @wp_max_l (And.intro @wp_lrg @wp_dct))) (And.intro (And.intro @dctW_dK @kd_ii) (And.intro @kd_ib (And.intro @kd_bb @kd_ss)))))) (And.intro (And.intro (And.intro (And.intro (And.intro @kd_tt @kd_ll) (And.intro @kd_in @kd_is)) (And.intro (And.intro @kd_it @kd_il) (And.intro @kd_bn (And.intro @kd_bi @kd_bs)))) (And.intro (And.intro (And.intro @kd_bt @kd_bL) (And.intro @kd_sn @kd_sb)) (And.intro (And.intro @kd_si @kd_st) (And.intro @kd_sl (And.intro @kd_tn @kd_tb))))) (And.intro (And.intro (And.intro (And.intro @kd_ti @kd_ts) (And.intro @kd_tl @kd_ln)) (And.intro (And.intro @kd_lb @kd_li) (And.intro @kd_ls (And.intro @kd_lt @nd_non)))) (And.intro (And.intro (And.intro @nd_bl @nd_int) (And.intro @nd_str (And.intro @nd_tup @nd_lst))) (And.intro (And.intro @nd_exn @nd_obj) (And.intro @dle_non (And.intro @dle_bl @dle_int))))))) (And.intro (And.intro (And.intro (And.intro (And.intro (And.intro @dle_str @dle_tup) (And.intro @dle_lst @dleL_nil)) (And.intro (And.intro @dleL_cons @eqb_non_non) (And.intro @eqb_int_int (And.intro @eqb_str_str @eqb_non_int)))) (And.intro (And.intro (And.intro @eqb_int_non @eqb_non_str) (And.intro @eqb_str_non @eqb_bl_bl)) (And.intro (And.intro @eqb_tup_tup @eqbL_nn) (And.intro @eqbL_nc (And.intro @eqbL_cn @eqbL_cc))))) (And.intro (And.intro (And.intro (And.intro @wp_newV @wp_meth) (And.intro @cls_obj @fld_obj)) (And.intro (And.intro @wp_getF @wp_zip_ll) (And.intro @wp_zip_tt (And.intro @bq_tt @bq_tf)))) (And.intro (And.intro (And.intro @bq_ft @bq_ff) (And.intro @put_one (And.intro @put_tup @put_two))) (And.intro (And.intro @setMany_nil @setMany_cons) (And.intro @isx_exn0 (And.intro @isx_exn1 @isx_obj)))))) (And.intro (And.intro (And.intro (And.intro (And.intro @isx_non @isx_bl) (And.intro @isx_int @isx_str)) (And.intro (And.intro @isx_tup @isx_lst) (And.intro @fld_exn (And.intro @List.map_cons.{0,0} @List.map_nil.{0,0})))) (And.intro (And.intro (And.intro @List.length_cons.{0} @List.length_nil.{0}) (And.intro @List.cons_append.{0} (And.intro @List.nil_append.{0} @List.append_assoc.{0}))) (And.intro (And.intro @List.replicate_succ.{0} @List.replicate_zero.{0}) (And.intro @List.getElem?_cons_zero.{0} (And.intro @List.getElem?_cons_succ.{0} @List.set_cons_zero.{0}))))) (And.intro (And.intro (And.intro (And.intro @List.set_cons_succ.{0} @List.getElem?_nil.{0}) (And.intro @Option.map_some.{0,0} @Option.map_none.{0,0})) (And.intro (And.intro @if_true.{1} @if_false.{1}) (And.intro @Bool.false_eq_true (And.intro @decide_eq_true_eq @true_and)))) (And.intro (And.intro (And.intro @and_true @false_and) (And.intro @Bool.not_true (And.intro @Bool.not_false @Bool.and_true))) (And.intro (And.intro @Bool.true_and @Bool.and_self) (And.intro @not_false_eq_true (And.intro @not_true_eq_false @eq_self.{1})))))))))
def lset := (And.intro (And.intro (And.intro @List.length_append.{0} @List.length_cons.{0}) (And.intro @List.length_nil.{0} @List.length_map.{0,0})) (And.intro (And.intro @List.length_range @List.length_take.{0}) (And.intro @List.length_drop.{0} @List.length_replicate.{0})))
end Mi

namespace Mi
open PySem PySem.Spec PyProof.Rows L2
/-! ### an exception made as a value -/
theorem pe_mk {X : Cx} {e : Expr} {t : L2.St → Hp → XK → Prop} (he : L2.PMk X e t) : PE X e (fun σ H Q => t σ H fun cls d H' => ∀ a, H' a = none → Q (.ref a) (upd H' a (xvO a cls d))) := by
  refine ⟨fun pins s σ H Q I h => wpAny_mono (he pins s σ H _ I h) (fun u s1 hu => ?_) fun _ _ x => x⟩
  obtain ⟨a, oe, vs, sI, H', cls, d, rfl, J, k, hne, ha, hz, hd, h1, na, os, ag, r, q⟩ := hu
  have J2 := J.call' (s' := s1) (ch := []) os (Un.laidN k hne na) (J.hok.laidN k na (xv_ok ha hz hd)) ag (fun b z => absurd z (by simp))
  exact ⟨.ref a, _, J2, rfl, q a na⟩
def newX0 (c : Nat) (m : M OD) : M OD := m.val >>= fun _ => gives (.exn c [])
def newX1 (c : Nat) (m : M OD) : M OD := m.val >>= fun d => gives (.exn c [d])
section
variable {X : Cx} {P : Pm} {k : Nat} {x s : Str} {c : Nat} {p p2 pos pos' : Pos} {jj : Option Str} {e : Expr} {m : M OD}
theorem t_newX0 (o : Ok k X P) (gx : Gn X x) (z : Rz0 P.K X.mg x c) (he : PE X e (tmO P m)) (hs : starEach [e] X.env = [(false, eval e X.env)]) : PE X (.Call (.Name x p) [e] [] pos) (tmO P (newX0 c m)) := by
  obtain ⟨C, hm, hc, h1, h2, h3, h4⟩ := z.ex
  rw [← o.hK] at h1 h2 h3 h4
  refine (pe_mk (SkE.pmk_own1 PySem.F.excBase_ValueError h1 hm h2 (raises_own h3 h4) gx.g he hs gx.d)).imp fun σ H Q h => ?_
  refine val_of (tm_imp (tm_bind (rel1 := relV P) h) fun v H1 ⟨G1, ρ1, S1, a, r1, w, q1⟩ => ?_)
  intro b hb
  obtain ⟨G2, le2, r2, w2⟩ := r1.xval (c := c) (vs := []) (cls := .ref C) (dd := none) ⟨hc.symm, rfl⟩ hb
  exact q1 (.ref b) _ G2 le2 r2 (VOk.fz w2)
theorem t_newX1 {j : Nat} (o : Ok (k + 1) X P) (gx : Gn X x) (z : Rz1 X.prog X.w P.K X.mg X.base j x c) (hj : j ≤ k) (he : PE X e (tmO P m)) (hs : isStar e = false) : PE X (.Call (.Name x p) [e] [] pos) (tmO P (newX1 c m)) := by
  obtain ⟨C, fI, fd, ps, hm, hc, h1, hn, h2, h3, F, hb⟩ := z.ex
  have hK := o.hK
  rw [← hK] at h1 h2 h3 F hb hn
  refine (pe_mk (pmk_oex h1 h2 h3 (F.mono hj) o.room hb .nil passL gx.g hm (pa_cons he pa_nil (star1 hs)) gx.d (star1 hs) (by rfl))).imp fun σ H Q h => ?_
  refine val_of (tm_imp (tm_bind (rel1 := relV P) h) fun v H1 ⟨G1, ρ1, S1, a, r1, w, q1⟩ => ?_)
  refine ⟨Nat.le_of_ble_eq_true rfl, fun a ha => ⟨a, v, by simp, h1, hn, upd_same, fun dx hdx hne => ⟨rfl, dx, [((P.K.cv c).2, v)], upd_same, ?_, ?_, ?_⟩⟩⟩
  · rw [upd_ne hne, upd_same]
  · rw [upd_ne hne] at hdx; exact hdx
  · rw [upd_ne hne] at hdx
    have eH : upd (del (upd (upd (upd H1 a (exo a C none)) dx (exd dx [((P.K.cv c).2, v)])) a (exo a C (some dx))) a) dx (.xd [((P.K.cv c).2, v)]) = upd H1 dx (.xd [((P.K.cv c).2, v)]) := by
      funext y
      by_cases h1 : y = dx
      · subst h1; rw [upd_same, upd_same]
      · rw [upd_ne h1, upd_ne h1]
        by_cases h2 : y = a
        · subst h2; rw [del_same, ha]
        · rw [del_ne h2, upd_ne h2, upd_ne h1, upd_ne h2]
    rw [eH]
    intro b hb2
    obtain ⟨G2, le2, r2, w2⟩ := (r1.new hdx (.xd [((P.K.cv c).2, v)])).xval (c := c) (vs := [_]) (cls := .ref C) (dd := some dx) ⟨hc.symm, rfl, dx, v, rfl, upd_same, w, r1.newB hdx⟩ hb2
    exact q1 (.ref b) _ G2 le2 r2 (VOk.fz w2)
end
section
variable {ρ : Rho} {S : List D} {QO : OD → Rho → List D → Prop} {X : Nat → List D → Rho → List D → Prop}
theorem wp_newX0 (c : Nat) (m : M OD) : Wp (newX0 c m ρ S) QO X = Wp (m ρ S) (fun x ρ S => QO (false, .exn c []) ρ S) X := by
  unfold newX0
  rw [wp_bind, wp_val]
  simp only [wp_gives]
theorem wp_newX1 (c : Nat) (m : M OD) : Wp (newX1 c m ρ S) QO X = Wp (m ρ S) (fun x ρ S => QO (false, .exn c [x.2]) ρ S) X := by
  unfold newX1
  rw [wp_bind, wp_val]
  simp only [wp_gives]
end
end Mi

namespace Mi
open PySem PySem.Spec PyProof.Rows L2
noncomputable section
def c_BoxError : Nat := 0
def c_NoText : Nat := 1
def c_NoStep : Nat := 2
def c_NoBox : Nat := 3
def c_NoDay : Nat := 4
def c_NoName : Nat := 5
def c_Twice : Nat := 6
def c_NoCard : Nat := 7
def c_NotAsked : Nat := 8
def c_NotDue : Nat := 9
def c_NoAnswer : Nat := 10
def c_NoDeed : Nat := 11
def c_Clash : Nat := 12
def c_TooMany : Nat := 13
def c_NoMatch : Nat := 14
def c_NoRow : Nat := 15
def d__law_cell_2 : MS :=
  (retS (op2M (chkM 0) (chkM 1) ixD))
def d__law_cell_1 : MS :=
  (ifS (op2M (chkM 1) (M.opd (biM (consM (chkM 0) (pure [])) (BI.sem .len))) (CO.sem .lt))
    (seqS d__law_cell_2 skipS)
    skipS)
def d__law_cell_3 : MS :=
  (retS (gives (.int 0)))
def d__law_cell : MS :=
  (seqS d__law_cell_1 (seqS d__law_cell_3 skipS))
def fn__law_cell : Fn := bodyF 2 d__law_cell
def d__law_digits_1 : MS :=
  (setS 2 (callM 2 fn__law_cell (consV (varM 0) (consV (varM 1) (pure [])))))
def d__law_digits_3 : MS :=
  (retS (lstM (consV (op2M (chkM 2) (M.opd (op2M (M.opd (gives (.int 10))) (M.opd (gives (.int 18))) (AO.sem .pow))) (AO.sem .sub)) (pure []))))
def d__law_digits_2 : MS :=
  (ifS (op2M (chkM 2) (M.opd (op2M (M.opd (gives (.int 10))) (M.opd (gives (.int 18))) (AO.sem .pow))) (CO.sem .ge))
    (seqS d__law_digits_3 skipS)
    skipS)
def d__law_digits_4 : MS :=
  (setS 3 (op2M (M.opd (op2M (M.opd (op2M (M.opd (op2M (chkM 2) (M.opd (gives (.int 48271))) (AO.sem .mul))) (M.opd (op2M (M.opd (gives (.int 7919))) (chkM 1) (AO.sem .mul))) (AO.sem .add))) (M.opd (gives (.int 11))) (AO.sem .add))) (M.opd (gives (.int 2147483647))) (AO.sem .mod)))
def d__law_digits_5 : MS :=
  (setS 4 (gives (.int 1)))
def d__law_digits_7 : MS :=
  (setS 3 (op2M (M.opd (op2M (M.opd (op2M (M.opd (op2M (chkM 3) (chkM 3) (AO.sem .mul))) (M.opd (op2M (M.opd (gives (.int 48271))) (chkM 3) (AO.sem .mul))) (AO.sem .add))) (chkM 5) (AO.sem .add))) (M.opd (gives (.int 2147483629))) (AO.sem .mod)))
def d__law_digits_8 : MS :=
  (setS 4 (op2M (M.opd (op2M (chkM 4) (M.opd (gives (.int 2147483587))) (AO.sem .mul))) (M.opd (op2M (M.opd (op2M (chkM 3) (M.opd (gives (.int 69621))) (AO.sem .mul))) (M.opd (gives (.int 2147483587))) (AO.sem .mod))) (AO.sem .add)))
def d__law_digits_L1 : MS :=
  (seqS d__law_digits_7 (seqS d__law_digits_8 skipS))
def d__law_digits_6 : MS :=
  (forS (itOs (consM (M.opd (gives (.int 20))) (pure [])) rng1A) (.one 5) d__law_digits_L1)
def d__law_digits_9 : MS :=
  (retS (lstM (consV (varM 4) (pure []))))
def d__law_digits : MS :=
  (seqS d__law_digits_1 (seqS d__law_digits_2 (seqS d__law_digits_4 (seqS d__law_digits_5 (seqS d__law_digits_6 (seqS d__law_digits_9 skipS))))))
def fn__law_digits : Fn := bodyF 6 d__law_digits
def d__law_take_1 : MS :=
  (setS 2 (op2M (M.opd (op2M (chkM 0) (M.opd (gives (.int 0))) ixD)) (chkM 1) (AO.sem .mod)))
def d__law_take_2 : MS :=
  (sixS 0 (gives (.int 0)) (op2M (M.opd (op2M (chkM 0) (M.opd (gives (.int 0))) ixD)) (chkM 1) (AO.sem .div)))
def d__law_take_3 : MS :=
  (retS (movM 2))
def d__law_take : MS :=
  (seqS d__law_take_1 (seqS d__law_take_2 (seqS d__law_take_3 skipS)))
def fn__law_take : Fn := bodyF 3 d__law_take
def d__law_names_1 : MS :=
  (setS 2 (gives (.str abcL)))
def d__law_names_2 : MS :=
  (setS 3 (op2M (chkM 2) (M.opd (gives (.str figL))) (AO.sem .add)))
def d__law_names_3 : MS :=
  (setS 4 (op2M (chkM 2) (M.opd (callM 2 fn__law_take (consV (varM 0) (consV (gives (.int 26)) (pure []))))) ixD))
def d__law_names_E1 : M OD :=
  (op2M (chkM 3) (M.opd (callM 2 fn__law_take (consV (varM 0) (consV (gives (.int 36)) (pure []))))) ixD)
def d__law_names_4 : MS :=
  (setS 4 (op2M (chkM 4) (M.opd (mtM (MT.T .join) (M.opd (gives (.str []))) (consM (M.opd (compM (itOs (consM (M.opd (gives (.int 7))) (pure [])) rng1A) (.one 10) none d__law_names_E1 [10])) (pure [])) (MT.sem .join))) (AO.sem .add)))
def d__law_names_E2 : M OD :=
  (slM (chkM 4) (pure none) (partM (op2M (chkM 10) (M.opd (gives (.int 1))) (AO.sem .add))))
def d__law_names_6 : MS :=
  (retS (compM (itOs (consM (chkM 1) (pure [])) rng1A) (.one 10) none d__law_names_E2 [10]))
def d__law_names_5 : MS :=
  (ifS (andM (op2M (chkM 1) (M.opd (gives (.int 9))) (CO.sem .lt)) (blM (op2M (M.opd (callM 2 fn__law_take (consV (varM 0) (consV (gives (.int 3)) (pure []))))) (M.opd (gives (.int 0))) (CO.sem .eq))))
    (seqS d__law_names_6 skipS)
    skipS)
def d__law_names_7 : MS :=
  (setS 4 (slM (chkM 4) (pure none) (partM (op2M (M.opd (gives (.int 1))) (M.opd (callM 2 fn__law_take (consV (varM 0) (consV (gives (.int 8)) (pure []))))) (AO.sem .add)))))
def d__law_names_8 : MS :=
  (setS 5 (callM 2 fn__law_take (consV (varM 0) (consV (biM (consM (chkM 4) (pure [])) (BI.sem .len)) (pure [])))))
def d__law_names_9 : MS :=
  (setS 6 (callM 2 fn__law_take (consV (varM 0) (consV (gives (.int 26)) (pure [])))))
def d__law_names_10 : MS :=
  (setS 7 (op2M (M.opd (callM 2 fn__law_take (consV (varM 0) (consV (gives (.int 2)) (pure []))))) (M.opd (biM (consM (M.opd (op2M (M.opd (biM (consM (chkM 4) (pure [])) (BI.sem .len))) (M.opd (gives (.int 8))) (CO.sem .lt))) (pure [])) (BI.sem .int))) (AO.sem .mul)))
def d__law_names_11 : MS :=
  (setS 8 (lstM (consV (slM (chkM 4) (partM (op2M (chkM 5) (M.opd (gives (.int 1))) (AO.sem .add))) (pure none)) (consV (op2M (M.opd (slM (chkM 4) (partM (op2M (chkM 5) (M.opd (gives (.int 1))) (AO.sem .add))) (pure none))) (M.opd (op2M (M.opd (gives (.str [109]))) (chkM 7) (AO.sem .mul))) (AO.sem .add)) (pure [])))))
def d__law_names_E3 : M OD :=
  (op2M (chkM 2) (M.opd (op2M (M.opd (op2M (chkM 6) (M.opd (op2M (M.opd (gives (.int 3))) (chkM 10) (AO.sem .mul))) (AO.sem .add))) (M.opd (gives (.int 26))) (AO.sem .mod))) ixD)
def d__law_names_12 : MS :=
  (setS 9 (compM (itOs (consM (chkM 1) (pure [])) rng1A) (.one 10) none d__law_names_E3 [10]))
def d__law_names_E4 : M OD :=
  (op2M (M.opd (op2M (M.opd (slM (chkM 4) (pure none) (partM (varM 5)))) (M.opd (op2M (chkM 9) (chkM 10) ixD)) (AO.sem .add))) (M.opd (op2M (chkM 8) (M.opd (op2M (chkM 10) (M.opd (gives (.int 2))) (AO.sem .mod))) ixD)) (AO.sem .add))
def d__law_names_13 : MS :=
  (retS (compM (itOs (consM (chkM 1) (pure [])) rng1A) (.one 10) none d__law_names_E4 [10]))
def d__law_names : MS :=
  (seqS d__law_names_1 (seqS d__law_names_2 (seqS d__law_names_3 (seqS d__law_names_4 (seqS d__law_names_5 (seqS d__law_names_7 (seqS d__law_names_8 (seqS d__law_names_9 (seqS d__law_names_10 (seqS d__law_names_11 (seqS d__law_names_12 (seqS d__law_names_13 skipS))))))))))))
def fn__law_names : Fn := bodyF 11 d__law_names
def d__law_marks_1 : MS :=
  (setS 1 (lstM (consV (isxM (chkM 0) [false, true, false, false, false, false, false, false, false, false, false, false, false, false, false, false] []) (consV (isxM (chkM 0) [false, false, true, false, false, false, false, false, false, false, false, false, false, false, false, false] []) (consV (isxM (chkM 0) [false, false, false, true, false, false, false, false, false, false, false, false, false, false, false, false] []) (consV (isxM (chkM 0) [false, false, false, false, true, false, false, false, false, false, false, false, false, false, false, false] []) (pure [])))))))
def d__law_marks_2 : MS :=
  (setS 1 (op2M (chkM 1) (M.opd (lstM (consV (isxM (chkM 0) [false, false, false, false, false, true, false, false, false, false, false, false, false, false, false, false] []) (consV (isxM (chkM 0) [false, false, false, false, false, false, true, false, false, false, false, false, false, false, false, false] []) (consV (isxM (chkM 0) [false, false, false, false, false, false, false, true, false, false, false, false, false, false, false, false] []) (consV (isxM (chkM 0) [false, false, false, false, false, false, false, false, true, false, false, false, false, false, false, false] []) (pure []))))))) (AO.sem .add)))
def d__law_marks_3 : MS :=
  (setS 1 (op2M (chkM 1) (M.opd (lstM (consV (isxM (chkM 0) [false, false, false, false, false, false, false, false, false, true, false, false, false, false, false, false] []) (consV (isxM (chkM 0) [false, false, false, false, false, false, false, false, false, false, true, false, false, false, false, false] []) (consV (isxM (chkM 0) [false, false, false, false, false, false, false, false, false, false, false, true, false, false, false, false] []) (consV (isxM (chkM 0) [false, false, false, false, false, false, false, false, false, false, false, false, true, false, false, false] []) (pure []))))))) (AO.sem .add)))
def d__law_marks_4 : MS :=
  (setS 1 (op2M (chkM 1) (M.opd (lstM (consV (isxM (chkM 0) [false, false, false, false, false, false, false, false, false, false, false, false, false, true, false, false] []) (consV (isxM (chkM 0) [false, false, false, false, false, false, false, false, false, false, false, false, false, false, true, false] []) (consV (isxM (chkM 0) [false, false, false, false, false, false, false, false, false, false, false, false, false, false, false, true] []) (pure [])))))) (AO.sem .add)))
def d__law_marks_6 : MS :=
  (retS (negM (M.opd (gives (.int 1)))))
def d__law_marks_5 : MS :=
  (ifS (orM (notM (isxM (chkM 0) [true, true, true, true, true, true, true, true, true, true, true, true, true, true, true, true] [])) (blM (notM (isxM (chkM 0) [true, true, true, true, true, true, true, true, true, true, true, true, true, true, true, true] []))))
    (seqS d__law_marks_6 skipS)
    skipS)
def d__law_marks_K1 : M OD :=
  (varM 2)
def d__law_marks_E1 : M OD :=
  (varM 2)
def d__law_marks_8 : MS :=
  (retS (negM (M.opd (gives (.int 1)))))
def d__law_marks_7 : MS :=
  (ifS (op2M (M.opd (biM (consM (M.opd (compM (itM (varM 1)) (.one 2) (some d__law_marks_K1) d__law_marks_E1 [2])) (pure [])) (BI.sem .len))) (M.opd (gives (.int 1))) (CO.sem .ne))
    (seqS d__law_marks_8 skipS)
    skipS)
def d__law_marks_9 : MS :=
  (retS (mtM (MT.T .lindex) (chkM 1) (consM (M.opd (gives (.bl true))) (pure [])) (MT.sem .lindex)))
def d__law_marks : MS :=
  (seqS d__law_marks_1 (seqS d__law_marks_2 (seqS d__law_marks_3 (seqS d__law_marks_4 (seqS d__law_marks_5 (seqS d__law_marks_7 (seqS d__law_marks_9 skipS)))))))
def fn__law_marks : Fn := bodyF 3 d__law_marks
def d_law_2 : MS :=
  (setC 2 (callM 2 fn__law_digits (consV (varM 0) (consV (varM 1) (pure [])))))
def d_law_3 : MS :=
  (setS 3 (callM 2 fn__law_take (consV (varM 2) (consV (op2M (M.opd (gives (.int 10))) (M.opd (gives (.int 60))) (AO.sem .pow)) (pure [])))))
def d_law_4 : MS :=
  (setS 4 (op2M (M.opd (callM 2 fn__law_names (consV (varM 2) (consV (gives (.int 1)) (pure []))))) (M.opd (gives (.int 0))) ixD))
def d_law_5 : MS :=
  (setS 5 (op2M (M.opd (lstM (consV (gives (.str [110, 111, 32, 115, 117, 99, 104])) (consV (varM 4) (consV (gives (.str [])) (pure [])))))) (M.opd (callM 2 fn__law_take (consV (varM 2) (consV (gives (.int 3)) (pure []))))) ixD))
def d_law_6 : MS :=
  (setS 6 (lstM (consV (newX1 c_NoText (varM 3)) (consV (newX0 c_NoStep (varM 5)) (consV (newX0 c_NoBox (varM 5)) (consV (newX0 c_NoDay (varM 5)) (consV (newX0 c_NoName (varM 5)) (consV (newX1 c_Twice (varM 4)) (consV (newX1 c_NoCard (varM 4)) (pure []))))))))))
def d_law_7 : MS :=
  (setS 6 (op2M (chkM 6) (M.opd (lstM (consV (newX1 c_NotAsked (varM 4)) (consV (newX1 c_NotDue (varM 4)) (consV (newX0 c_NoAnswer (varM 5)) (consV (newX0 c_NoDeed (varM 5)) (consV (newX1 c_Clash (tupM (consV (op2M (chkM 4) (M.opd (gives (.int 0))) ixD) (consV (op2M (M.opd (gives (.int 1))) (M.opd (op2M (chkM 3) (M.opd (gives (.int 999))) (AO.sem .mod))) (AO.sem .add)) (pure []))))) (pure [])))))))) (AO.sem .add)))
def d_law_8 : MS :=
  (setS 6 (op2M (chkM 6) (M.opd (lstM (consV (newX0 c_TooMany (varM 5)) (consV (newX0 c_NoMatch (varM 5)) (consV (newX0 c_NoRow (varM 5)) (pure [])))))) (AO.sem .add)))
def d_law_E1 : M OD :=
  (callM 1 fn__law_marks (consV (varM 7) (pure [])))
def d_law_E2 : M OD :=
  (varM 8)
def d_law_10 : MS :=
  (retS (gives (.bl false)))
def d_law_9 : MS :=
  (ifS (op2M (M.opd (compM (itM (varM 6)) (.one 7) none d_law_E1 [7])) (M.opd (compM (itOs (consM (M.opd (gives (.int 15))) (pure [])) rng1A) (.one 8) none d_law_E2 [8])) (CO.sem .ne))
      (seqS d_law_10 skipS)
      skipS)
def d_law_E3 : M OD :=
  (fldM (M.opd (op2M (chkM 6) (chkM 9) ixD)) [false, false, false, false, false, false, true, true, true, true, false, false, false, false, false, false] [])
def d_law_12 : MS :=
  (retS (gives (.bl false)))
def d_law_11 : MS :=
  (ifS (orM (op2M (M.opd (fldM (M.opd (op2M (chkM 6) (M.opd (gives (.int 0))) ixD)) [false, true, false, false, false, false, false, false, false, false, false, false, false, false, false, false] [])) (chkM 3) (CO.sem .ne)) (blM (op2M (M.opd (compM (itM (tupM (consV (gives (.int 5)) (consV (gives (.int 6)) (consV (gives (.int 7)) (consV (gives (.int 8)) (pure []))))))) (.one 9) none d_law_E3 [9])) (M.opd (op2M (M.opd (lstM (consV (varM 4) (pure [])))) (M.opd (gives (.int 4))) (AO.sem .mul))) (CO.sem .ne))))
      (seqS d_law_12 skipS)
      skipS)
def d_law_14 : MS :=
  (retS (gives (.bl false)))
def d_law_13 : MS :=
  (ifS (op2M (M.opd (fldM (M.opd (op2M (chkM 6) (M.opd (gives (.int 11))) ixD)) [false, false, false, false, false, false, false, false, false, false, false, false, true, false, false, false] [])) (M.opd (tupM (consV (op2M (chkM 4) (M.opd (gives (.int 0))) ixD) (consV (op2M (M.opd (gives (.int 1))) (M.opd (op2M (chkM 3) (M.opd (gives (.int 999))) (AO.sem .mod))) (AO.sem .add)) (pure []))))) (CO.sem .ne))
      (seqS d_law_14 skipS)
      skipS)
def d_law_L1 : MS :=
  (seqS d_law_2 (seqS d_law_3 (seqS d_law_4 (seqS d_law_5 (seqS d_law_6 (seqS d_law_7 (seqS d_law_8 (seqS d_law_9 (seqS d_law_11 (seqS d_law_13 skipS))))))))))
def d_law_1 : MS :=
  (forS (itOs (consM (M.opd (op2M (M.opd (gives (.int 2))) (M.opd (biM (consM (M.opd (gives (.int 20))) (consM (M.opd (biM (consM (chkM 0) (pure [])) (BI.sem .len))) (pure []))) (BI.sem .min))) (AO.sem .add))) (pure [])) rng1A) (.one 1) d_law_L1)
def d_law_15 : MS :=
  (retS (gives (.bl true)))
def d_law : MS :=
  (seqS d_law_1 (seqS d_law_15 skipS))
def fn_law : Fn := bodyF 10 d_law
end
end Mi

namespace Mi
open PySem PySem.Spec PyProof.Rows L2
theorem lt_huge {m : Int} (h : m < 2 ^ 250) : m < Huge := Int.lt_trans h (by unfold Huge; decide +kernel)
theorem take_raw {S : List D} {n : Nat} {x m : Int} (h : S[n]? = some (.lst [.int x])) (h0 : 0 < m) (h1 : m < Huge) : fn__law_take [.cell n, .int m] S = .ok (false, .int (x % m)) [] (S.set n (.lst [.int (x / m)])) := by
  simp [fn__law_take, d__law_take, d__law_take_1, d__law_take_2, d__law_take_3, h, h0, h1, sixS, ixD, atI, ixN, AO.sem, modD, divD, putIx]
/-- the cell that the drawn number stands in, last of all -/
def Hd (S : List D) (x : Int) : List D := S ++ [.lst [.int x]]
@[simp] theorem fn_take {S : List D} {x m : Int} (h0 : 0 < m) (h1 : m < 2 ^ 250) : fn__law_take [.cell S.length, .int m] (Hd S x) = .ok (false, .int (x % m)) [] (Hd S (x / m)) := by
  rw [take_raw (x := x) (by simp [Hd]) h0 (lt_huge h1)]
  simp [Hd]
/-- the cell n of S holds x -/
def Ct (S : List D) (n : Nat) (x : Int) : List D := S.set n (.lst [.int x])
theorem ct_of {S : List D} {n : Nat} {x : Int} (h : S[n]? = some (.lst [.int x])) : S = Ct S n x ∧ n < S.length := by
  have hl := (List.getElem?_eq_some_iff.mp h).1
  refine ⟨?_, hl⟩
  unfold Ct
  refine List.ext_getElem? fun j => ?_
  rw [List.getElem?_set]
  by_cases hj : n = j
  · subst hj; rw [if_pos rfl, if_pos hl, h]
  · simp [hj]
@[simp] theorem ct_len (S : List D) (n : Nat) (x : Int) : (Ct S n x).length = S.length := by simp [Ct]
@[simp] theorem take_ct {S : List D} {n : Nat} {x m : Int} (hl : n < S.length) (h0 : 0 < m) (h1 : m < 2 ^ 250) : fn__law_take [.cell n, .int m] (Ct S n x) = .ok (false, .int (x % m)) [] (Ct S n (x / m)) := by
  rw [take_raw (x := x) (by simp [Ct, hl]) h0 (lt_huge h1)]
  simp [Ct]
theorem ct_app {S T : List D} {n : Nat} {x : Int} (hl : n < S.length) : Ct S n x ++ T = Ct (S ++ T) n x := by
  unfold Ct
  rw [List.set_append_left _ _ hl]
theorem ct_new (S : List D) (x : Int) : S ++ [.lst [.int x]] = Ct (S ++ [.lst [.int x]]) S.length x := by simp [Ct]
theorem wpF_take {S : List D} {n : Nat} {x m : Int} {QF : OD → List D → Prop} {XF : Nat → List D → List D → Prop} (hn : n < S.length) (h0 : 0 < m) (h1 : m < 2 ^ 250) (h : ∀ r y, 0 ≤ r → r < m → QF (false, .int r) (Ct S n y)) : WpF (fn__law_take [.cell n, .int m] (Ct S n x)) QF XF := by
  rw [take_ct hn h0 h1, wpF_ok]
  exact h _ _ (Int.emod_nonneg _ (by omega)) (Int.emod_lt_of_pos _ h0)
theorem fn_cell (ns : List Int) (k : Nat) (S : List D) : ∃ c, fn__law_cell [.scr ns, .int k] S = .ok (false, .int c) [] S := by
  by_cases h : k < ns.length
  · exact ⟨ns[k], by simp [fn__law_cell, d__law_cell, d__law_cell_1, d__law_cell_2, d__law_cell_3, h, ixD, atI, ixN, CO.sem, ltD, BI.sem]⟩
  · exact ⟨0, by simp [fn__law_cell, d__law_cell, d__law_cell_1, d__law_cell_2, d__law_cell_3, h, CO.sem, ltD, BI.sem]⟩
theorem digits_loop (x0 x1 x2 : Sl) (a b : Int) (x5 : Sl) (S : List D) (ha : 0 ≤ a) (hb : a < 2147483647) : ∃ b' a' y, forL (.one 5) d__law_digits_L1 (rngD 0 20) [x0, x1, x2, some (false, .int a), some (false, .int b), x5] S = .nxt [x0, x1, x2, some (false, .int a'), some (false, .int b'), y] S := by
  obtain ⟨ρ1, S1, e, a', b', y, _, _, rfl, rfl⟩ := forL_inv (t := .one 5) (b := d__law_digits_L1) (ds := rngD 0 20) (fun ρ S' => ∃ a b x5, 0 ≤ a ∧ a < 2147483647 ∧ ρ = [x0, x1, x2, some (false, .int a), some (false, .int b), x5] ∧ S' = S) (by
    rintro x hx ρ S' ⟨a, b, y, h0, h1, rfl, rfl⟩
    obtain ⟨k, _, rfl⟩ := List.mem_map.mp hx
    have h2 : (-18446744073709551616 < a ∧ a < 18446744073709551616) := ⟨by omega, by omega⟩
    have h3 := Int.emod_nonneg (a * a + 48271 * a + (k : Int)) (b := 2147483629) (by decide)
    have h4 := Int.emod_lt_of_pos (a * a + 48271 * a + (k : Int)) (b := 2147483629) (by decide)
    refine ⟨_, rfl, _, _, .inl (by simp [d__law_digits_L1, d__law_digits_7, d__law_digits_8, AO.sem, mulD, addD, modD, h2]; exact ⟨rfl, rfl⟩), (a * a + 48271 * a + k) % 2147483629, _, _, h3, by omega, rfl, rfl⟩) _ S ⟨a, b, x5, ha, hb, rfl, rfl⟩
  exact ⟨b', a', y, e⟩
theorem fn_digits (ns : List Int) (k : Nat) (S : List D) : ∃ x, fn__law_digits [.scr ns, .int k] S = .ok (true, .lst [.int x]) [] S := by
  obtain ⟨c, hc⟩ := fn_cell ns k S
  by_cases h : 1000000000000000000 ≤ c
  · exact ⟨c - 10 ^ 18, by simp [fn__law_digits, d__law_digits, d__law_digits_1, d__law_digits_2, d__law_digits_3, d__law_digits_4, d__law_digits_5, d__law_digits_6, d__law_digits_9, hc, h, CO.sem, geD, AO.sem, powD, subD, LN]⟩
  · have h3 := Int.emod_nonneg (c * 48271 + 7919 * (k : Int) + 11) (b := 2147483647) (by decide)
    have h4 := Int.emod_lt_of_pos (c * 48271 + 7919 * (k : Int) + 11) (b := 2147483647) (by decide)
    obtain ⟨b', a', y, e⟩ := digits_loop (some (false, .scr ns)) (some (false, .int k)) (some (false, .int c)) _ 1 none S h3 h4
    exact ⟨b', by simp [fn__law_digits, d__law_digits, d__law_digits_1, d__law_digits_2, d__law_digits_3, d__law_digits_4, d__law_digits_5, d__law_digits_6, d__law_digits_9, hc, h, CO.sem, geD, AO.sem, powD, mulD, addD, modD, rng1A, e, LN]⟩
/-! ### names -/
def okSign (c : Nat) : Bool := decide (c ∈ abcL) || decide (c ∈ figL)
def nameB (t : List Nat) : Bool := match t with
  | [] => false
  | c :: r => decide (r.length ≤ 7) && (decide (c ∈ abcL) && (c :: r).all okSign)
def nameD : D → Bool
  | .str t => nameB t
  | _ => false
/-! ### names drawn, of the later laws -/
theorem abc_sub {c : Nat} (h : c ∈ abcL ++ figL) : okSign c = true := by
  rcases List.mem_append.mp h with h | h <;> simp [okSign, h]
theorem nameB_of {t : List Nat} (h0 : t ≠ []) (h1 : t.length ≤ 8) (h2 : ∀ c, t.head? = some c → c ∈ abcL) (h3 : ∀ c ∈ t, okSign c = true) : nameB t = true := by
  cases t with
  | nil => exact absurd rfl h0
  | cons c r =>
    simp only [List.length_cons] at h1
    have := List.all_eq_true.mpr h3
    simp only [nameB, this, h2 c rfl, Bool.and_true, decide_true]
    exact decide_eq_true (by omega)
def nameT (d : D) : Prop := ∃ t, d = .str t ∧ nameB t = true
theorem names_of {ys : List D} (h : ∀ (i : Nat) (y : D), ys[i]? = some y → nameT y) : ∃ ts : List (List Nat), ys = ts.map .str ∧ ∀ t ∈ ts, nameB t = true := by
  induction ys with
  | nil => exact ⟨[], rfl, by simp⟩
  | cons y ys ih =>
    obtain ⟨t, rfl, ht⟩ := h 0 y rfl
    obtain ⟨ts, rfl, hts⟩ := ih fun i z hz => h (i + 1) z (by simpa using hz)
    exact ⟨t :: ts, rfl, fun u hu => by
      rcases List.mem_cons.mp hu with rfl | hu
      · exact ht
      · exact hts u hu⟩
theorem cut_head {t : List Nat} {k : Nat} {c : Nat} {r : List Nat} (h : t = c :: r) : (cut t none (some ((k : Int) + 1))) = c :: r.take k := by
  rw [show ((k : Int) + 1) = ((k + 1 : Nat) : Int) by omega, cut_take, h]
  rfl
theorem fn_names13 (many : Nat) (hm : many ≤ 60) {S : List D} {n : Nat} (x : Int) (hn : n < S.length) {QF : OD → List D → Prop} {XF : Nat → List D → List D → Prop}
    (h : ∀ (ts : List (List Nat)) (y : Int), ts.length = many → (∀ t ∈ ts, nameB t = true) → QF (true, .lst (ts.map .str)) (Ct S n y)) : WpF (fn__law_names [.cell n, .int many] (Ct S n x)) QF XF := by
  refine fn_wp fun q hV _ _ => ?_
  have la : abcL.length = 26 := by decide
  have lf : figL.length = 10 := by decide
  unfold d__law_names
  ((first | (with_reducible refine run_seq ?_) | refine run_next ?_); (try simp only [wset, ne_eq, decide_true, decide_false, Nat.reduceAdd, Nat.reduceSub, Nat.reduceLeDiff, reduceIte, d__law_names_1]); (repeat ((with_reducible refine And.intro ?_ ?_); (focus ((first | omega | decide | rfl | (simp only [lset]; omega) | (simp only [lset, wset]; done)))); (try simp only [wset, ne_eq, decide_true, decide_false, Nat.reduceAdd, Nat.reduceSub, Nat.reduceLeDiff, reduceIte, d__law_names_1]))))
  ((first | (with_reducible refine run_seq ?_) | refine run_next ?_); (try simp only [wset, ne_eq, decide_true, decide_false, Nat.reduceAdd, Nat.reduceSub, Nat.reduceLeDiff, reduceIte, d__law_names_2]); (repeat ((with_reducible refine And.intro ?_ ?_); (focus ((first | omega | decide | rfl | (simp only [lset]; omega) | (simp only [lset, wset]; done)))); (try simp only [wset, ne_eq, decide_true, decide_false, Nat.reduceAdd, Nat.reduceSub, Nat.reduceLeDiff, reduceIte, d__law_names_2]))))
  ((first | (with_reducible refine run_seq ?_) | refine run_next ?_); (try simp only [wset, ne_eq, decide_true, decide_false, Nat.reduceAdd, Nat.reduceSub, Nat.reduceLeDiff, reduceIte, d__law_names_3]); (repeat ((with_reducible refine And.intro ?_ ?_); (focus ((first | omega | decide | rfl | (simp only [lset]; omega) | (simp only [lset, wset]; done)))); (try simp only [wset, ne_eq, decide_true, decide_false, Nat.reduceAdd, Nat.reduceSub, Nat.reduceLeDiff, reduceIte, d__law_names_3]))))
  refine wpF_take hn (by omega) (by omega) fun r y r0 r1 => ?_
  ((try simp only [wset, ne_eq, decide_true, decide_false, Nat.reduceAdd, Nat.reduceSub, Nat.reduceLeDiff, reduceIte]); (repeat ((with_reducible refine And.intro ?_ ?_); (focus ((first | omega | decide | rfl | (simp only [lset]; omega) | (simp only [lset, wset]; done)))); (try simp only [wset, ne_eq, decide_true, decide_false, Nat.reduceAdd, Nat.reduceSub, Nat.reduceLeDiff, reduceIte]))))
  refine wp_ixS (by omega) r0 (by omega) fun c hc _ => ?_
  ((try simp only [wset, ne_eq, decide_true, decide_false, Nat.reduceAdd, Nat.reduceSub, Nat.reduceLeDiff, reduceIte]); (repeat ((with_reducible refine And.intro ?_ ?_); (focus ((first | omega | decide | rfl | (simp only [lset]; omega) | (simp only [lset, wset]; done)))); (try simp only [wset, ne_eq, decide_true, decide_false, Nat.reduceAdd, Nat.reduceSub, Nat.reduceLeDiff, reduceIte]))))
  ((first | (with_reducible refine run_seq ?_) | refine run_next ?_); (try simp only [wset, ne_eq, decide_true, decide_false, Nat.reduceAdd, Nat.reduceSub, Nat.reduceLeDiff, reduceIte, d__law_names_4, tyOk, MT.T]); (repeat ((with_reducible refine And.intro ?_ ?_); (focus ((first | omega | decide | rfl | (simp only [lset]; omega) | (simp only [lset, wset]; done)))); (try simp only [wset, ne_eq, decide_true, decide_false, Nat.reduceAdd, Nat.reduceSub, Nat.reduceLeDiff, reduceIte, d__law_names_4, tyOk, MT.T]))))
  refine wp_comp (fun _ S' => ∃ y, S' = Ct S n y) (fun _ d => ∃ c, d = .str [c] ∧ c ∈ abcL ++ figL) ?_
  ((try simp only [wset, ne_eq, decide_true, decide_false, Nat.reduceAdd, Nat.reduceSub, Nat.reduceLeDiff, reduceIte]); (repeat ((with_reducible refine And.intro ?_ ?_); (focus ((first | omega | decide | rfl | (simp only [lset]; omega) | (simp only [lset, wset]; done)))); (try simp only [wset, ne_eq, decide_true, decide_false, Nat.reduceAdd, Nat.reduceSub, Nat.reduceLeDiff, reduceIte]))))
  refine ⟨⟨_, rfl⟩, ?_, ?_⟩
  · rintro i d hd S' ⟨y, rfl⟩
    obtain ⟨rfl, hi⟩ := rng_at hd
    rw [wp_turn]
    (try simp only [wset, ne_eq, decide_true, decide_false, Nat.reduceAdd, Nat.reduceSub, Nat.reduceLeDiff, reduceIte, wipeR, d__law_names_E1])
    refine wpF_take hn (by omega) (by omega) fun r y r0 r1 => ?_
    (try simp only [wset, ne_eq, decide_true, decide_false, Nat.reduceAdd, Nat.reduceSub, Nat.reduceLeDiff, reduceIte])
    refine wp_ixS (by simp; omega) r0 (by simp; omega) fun c hc _ => ?_
    exact ⟨_, rfl, ⟨c, rfl, hc⟩, ⟨_, rfl⟩, rfl⟩
  rintro ys S1 ⟨y2, rfl⟩ hl hy
  obtain ⟨t, rfl, ht⟩ := signs_of (P := fun c => c ∈ abcL ++ figL) (ys := ys) fun z hz => by
    obtain ⟨i, hi⟩ := List.getElem?_of_mem hz
    exact hy i z hi
  have hl7 : t.length = 7 := by simpa [rng_len] using hl
  refine wp_join (by omega) ?_
  ((try simp only [wset, ne_eq, decide_true, decide_false, Nat.reduceAdd, Nat.reduceSub, Nat.reduceLeDiff, reduceIte]); (repeat ((with_reducible refine And.intro ?_ ?_); (focus ((first | omega | decide | rfl | (simp only [lset]; omega) | (simp only [lset, wset]; done)))); (try simp only [wset, ne_eq, decide_true, decide_false, Nat.reduceAdd, Nat.reduceSub, Nat.reduceLeDiff, reduceIte]))))
  have sgn : ∀ z ∈ c :: t, okSign z = true := fun z hz => by
    rcases List.mem_cons.mp hz with rfl | hz
    · simp [okSign, hc]
    · exact abc_sub (ht z hz)
  have beg : ∀ k : Nat, k < 8 → nameB (cut (c :: t) none (some ((k : Int) + 1))) = true := fun k hk => by
    rw [cut_head rfl]
    exact nameB_of (by simp) (by simp; omega) (by simp; exact hc) fun z hz => sgn z (by
      rcases List.mem_cons.mp hz with rfl | hz
      · exact List.mem_cons_self
      · exact List.mem_cons_of_mem _ (List.mem_of_mem_take hz))
  ((first | (with_reducible refine run_seq ?_) | refine run_next ?_); (try simp only [wset, ne_eq, decide_true, decide_false, Nat.reduceAdd, Nat.reduceSub, Nat.reduceLeDiff, reduceIte, d__law_names_5]); (repeat ((with_reducible refine And.intro ?_ ?_); (focus ((first | omega | decide | rfl | (simp only [lset]; omega) | (simp only [lset, wset]; done)))); (try simp only [wset, ne_eq, decide_true, decide_false, Nat.reduceAdd, Nat.reduceSub, Nat.reduceLeDiff, reduceIte, d__law_names_5]))))
  have fin1 : ∀ p : Po, p.V = q.V → many < 9 → ∀ y, Run (d__law_names_6 [vC n, vI many, vS abcL, vS (abcL ++ figL), vS (c :: t), none, none, none, none, none, none] (Ct S n y)) p := fun p hp hm9 y => by
    ((try simp only [wset, ne_eq, decide_true, decide_false, Nat.reduceAdd, Nat.reduceSub, Nat.reduceLeDiff, reduceIte, d__law_names_6]); (repeat ((with_reducible refine And.intro ?_ ?_); (focus ((first | omega | decide | rfl | (simp only [lset]; omega) | (simp only [lset, wset]; done)))); (try simp only [wset, ne_eq, decide_true, decide_false, Nat.reduceAdd, Nat.reduceSub, Nat.reduceLeDiff, reduceIte, d__law_names_6]))))
    refine wp_compM (fun k : Nat => D.int k) (fun k => .str (cut (c :: t) none (some ((k : Int) + 1)))) (List.range many) ?_
    ((try simp only [wset, ne_eq, decide_true, decide_false, Nat.reduceAdd, Nat.reduceSub, Nat.reduceLeDiff, reduceIte]); (repeat ((with_reducible refine And.intro ?_ ?_); (focus ((first | omega | decide | rfl | (simp only [lset]; omega) | (simp only [lset, wset]; done)))); (try simp only [wset, ne_eq, decide_true, decide_false, Nat.reduceAdd, Nat.reduceSub, Nat.reduceLeDiff, reduceIte]))))
    refine ⟨rng_map many, ?_⟩
    ((try simp only [wset, ne_eq, decide_true, decide_false, Nat.reduceAdd, Nat.reduceSub, Nat.reduceLeDiff, reduceIte]); (repeat ((with_reducible refine And.intro ?_ ?_); (focus ((first | omega | decide | rfl | (simp only [lset]; omega) | (simp only [lset, wset]; done)))); (try simp only [wset, ne_eq, decide_true, decide_false, Nat.reduceAdd, Nat.reduceSub, Nat.reduceLeDiff, reduceIte]))))
    refine ⟨fun k hk => ?_, ?_⟩
    · rw [wp_turn]
      ((try simp only [wset, ne_eq, decide_true, decide_false, Nat.reduceAdd, Nat.reduceSub, Nat.reduceLeDiff, reduceIte, wipeR, d__law_names_E2]); (repeat ((with_reducible refine And.intro ?_ ?_); (focus ((first | omega | decide | rfl | (simp only [lset]; omega) | (simp only [lset, wset]; done)))); (try simp only [wset, ne_eq, decide_true, decide_false, Nat.reduceAdd, Nat.reduceSub, Nat.reduceLeDiff, reduceIte, wipeR, d__law_names_E2]))))
      omega
    · rw [hp]
      refine hV _ _ ?_
      have := h ((List.range many).map fun (k : Nat) => cut (c :: t) none (some ((k : Int) + 1))) y (by simp) fun t' ht' => by
        obtain ⟨k, hk, rfl⟩ := List.mem_map.mp ht'
        exact beg k (by have := List.mem_range.mp hk; omega)
      simpa [List.map_map, Function.comp_def] using this
  have fin2 : ∀ y, Run (seqS d__law_names_7 (seqS d__law_names_8 (seqS d__law_names_9 (seqS d__law_names_10 (seqS d__law_names_11 (seqS d__law_names_12 (seqS d__law_names_13 skipS)))))) [vC n, vI many, vS abcL, vS (abcL ++ figL), vS (c :: t), none, none, none, none, none, none] (Ct S n y)) q := fun y => by
    ((first | (with_reducible refine run_seq ?_) | refine run_next ?_); (try simp only [wset, ne_eq, decide_true, decide_false, Nat.reduceAdd, Nat.reduceSub, Nat.reduceLeDiff, reduceIte, d__law_names_7]); (repeat ((with_reducible refine And.intro ?_ ?_); (focus ((first | omega | decide | rfl | (simp only [lset]; omega) | (simp only [lset, wset]; done)))); (try simp only [wset, ne_eq, decide_true, decide_false, Nat.reduceAdd, Nat.reduceSub, Nat.reduceLeDiff, reduceIte, d__law_names_7]))))
    refine wpF_take hn (by omega) (by omega) fun r y r0 r1 => ?_
    ((try simp only [wset, ne_eq, decide_true, decide_false, Nat.reduceAdd, Nat.reduceSub, Nat.reduceLeDiff, reduceIte]); (repeat ((with_reducible refine And.intro ?_ ?_); (focus ((first | omega | decide | rfl | (simp only [lset]; omega) | (simp only [lset, wset]; done)))); (try simp only [wset, ne_eq, decide_true, decide_false, Nat.reduceAdd, Nat.reduceSub, Nat.reduceLeDiff, reduceIte]))))
    obtain ⟨j, rfl⟩ := Int.eq_ofNat_of_zero_le r0
    rw [show (1 : Int) + (j : Int) = (j : Int) + 1 by omega, cut_head rfl]
    obtain ⟨u, hu⟩ : ∃ u, u = t.take j := ⟨_, rfl⟩
    have hul : u.length = j := by rw [hu, List.length_take]; omega
    have hus : ∀ z ∈ c :: u, okSign z = true := fun z hz => sgn z (by
      rcases List.mem_cons.mp hz with rfl | hz
      · exact List.mem_cons_self
      · exact List.mem_cons_of_mem _ (by rw [hu] at hz; exact List.mem_of_mem_take hz))
    rw [← hu]
    ((first | (with_reducible refine run_seq ?_) | refine run_next ?_); (try simp only [wset, ne_eq, decide_true, decide_false, Nat.reduceAdd, Nat.reduceSub, Nat.reduceLeDiff, reduceIte, d__law_names_8]); (repeat ((with_reducible refine And.intro ?_ ?_); (focus ((first | omega | decide | rfl | (simp only [lset]; omega) | (simp only [lset, wset]; done)))); (try simp only [wset, ne_eq, decide_true, decide_false, Nat.reduceAdd, Nat.reduceSub, Nat.reduceLeDiff, reduceIte, d__law_names_8]))))
    refine wpF_take hn (by omega) (by omega) fun r y r0 r1 => ?_
    ((try simp only [wset, ne_eq, decide_true, decide_false, Nat.reduceAdd, Nat.reduceSub, Nat.reduceLeDiff, reduceIte]); (repeat ((with_reducible refine And.intro ?_ ?_); (focus ((first | omega | decide | rfl | (simp only [lset]; omega) | (simp only [lset, wset]; done)))); (try simp only [wset, ne_eq, decide_true, decide_false, Nat.reduceAdd, Nat.reduceSub, Nat.reduceLeDiff, reduceIte]))))
    ((first | (with_reducible refine run_seq ?_) | refine run_next ?_); (try simp only [wset, ne_eq, decide_true, decide_false, Nat.reduceAdd, Nat.reduceSub, Nat.reduceLeDiff, reduceIte, d__law_names_9]); (repeat ((with_reducible refine And.intro ?_ ?_); (focus ((first | omega | decide | rfl | (simp only [lset]; omega) | (simp only [lset, wset]; done)))); (try simp only [wset, ne_eq, decide_true, decide_false, Nat.reduceAdd, Nat.reduceSub, Nat.reduceLeDiff, reduceIte, d__law_names_9]))))
    refine wpF_take hn (by omega) (by omega) fun f y f0 f1 => ?_
    ((try simp only [wset, ne_eq, decide_true, decide_false, Nat.reduceAdd, Nat.reduceSub, Nat.reduceLeDiff, reduceIte]); (repeat ((with_reducible refine And.intro ?_ ?_); (focus ((first | omega | decide | rfl | (simp only [lset]; omega) | (simp only [lset, wset]; done)))); (try simp only [wset, ne_eq, decide_true, decide_false, Nat.reduceAdd, Nat.reduceSub, Nat.reduceLeDiff, reduceIte]))))
    obtain ⟨at_, rfl⟩ := Int.eq_ofNat_of_zero_le r0
    obtain ⟨f, rfl⟩ := Int.eq_ofNat_of_zero_le f0
    ((first | (with_reducible refine run_seq ?_) | refine run_next ?_); (try simp only [wset, ne_eq, decide_true, decide_false, Nat.reduceAdd, Nat.reduceSub, Nat.reduceLeDiff, reduceIte, d__law_names_10]); (repeat ((with_reducible refine And.intro ?_ ?_); (focus ((first | omega | decide | rfl | (simp only [lset]; omega) | (simp only [lset, wset]; done)))); (try simp only [wset, ne_eq, decide_true, decide_false, Nat.reduceAdd, Nat.reduceSub, Nat.reduceLeDiff, reduceIte, d__law_names_10]))))
    refine wpF_take hn (by omega) (by omega) fun m y m0 m1 => ?_
    ((try simp only [wset, ne_eq, decide_true, decide_false, Nat.reduceAdd, Nat.reduceSub, Nat.reduceLeDiff, reduceIte]); (repeat ((with_reducible refine And.intro ?_ ?_); (focus ((first | omega | decide | rfl | (simp only [lset]; omega) | (simp only [lset, wset]; done)))); (try simp only [wset, ne_eq, decide_true, decide_false, Nat.reduceAdd, Nat.reduceSub, Nat.reduceLeDiff, reduceIte]))))
    obtain ⟨mo, hmo, hm2, hm3⟩ : ∃ mo : Nat, (m * if ((u.length + 1 : Nat) : Int) < 8 then 1 else 0) = (mo : Int) ∧ mo ≤ 1 ∧ (u.length + 1 + mo ≤ 8) := by
      have : m = 0 ∨ m = 1 := by omega
      rcases this with rfl | rfl
      · exact ⟨0, by simp, by omega, by omega⟩
      · by_cases hu8 : ((u.length + 1 : Nat) : Int) < 8
        · exact ⟨1, by rw [if_pos hu8]; rfl, by omega, by omega⟩
        · exact ⟨0, by rw [if_neg hu8]; rfl, by omega, by omega⟩
    rw [hmo]
    have hat : at_ ≤ u.length := by omega
    have em : (List.replicate mo [109]).flatten = List.replicate mo 109 := by
      have : mo = 0 ∨ mo = 1 := by omega
      rcases this with rfl | rfl <;> rfl
    ((first | (with_reducible refine run_seq ?_) | refine run_next ?_); (try simp only [wset, ne_eq, decide_true, decide_false, Nat.reduceAdd, Nat.reduceSub, Nat.reduceLeDiff, reduceIte, d__law_names_11]); (repeat ((with_reducible refine And.intro ?_ ?_); (focus ((first | omega | decide | rfl | (simp only [lset]; omega) | (simp only [lset, wset]; done)))); (try simp only [wset, ne_eq, decide_true, decide_false, Nat.reduceAdd, Nat.reduceSub, Nat.reduceLeDiff, reduceIte, d__law_names_11]))))
    rw [show (at_ : Int) + 1 = ((at_ + 1 : Nat) : Int) by omega, cut_drop, Int.toNat_natCast, em]
    refine And.intro (by simp; omega) ?_
    ((try simp only [wset, ne_eq, decide_true, decide_false, Nat.reduceAdd, Nat.reduceSub, Nat.reduceLeDiff, reduceIte]); (repeat ((with_reducible refine And.intro ?_ ?_); (focus ((first | omega | decide | rfl | (simp only [lset]; omega) | (simp only [lset, wset]; done)))); (try simp only [wset, ne_eq, decide_true, decide_false, Nat.reduceAdd, Nat.reduceSub, Nat.reduceLeDiff, reduceIte]))))
    obtain ⟨e0, he0⟩ : ∃ e0, e0 = (c :: u).drop (at_ + 1) := ⟨_, rfl⟩
    have le0 : e0.length + at_ + 1 = u.length + 1 := by rw [he0]; simp; omega
    have se0 : ∀ z ∈ e0, okSign z = true := fun z hz => hus z (by rw [he0] at hz; exact List.mem_of_mem_drop hz)
    rw [← he0]
    ((first | (with_reducible refine run_seq ?_) | refine run_next ?_); (try simp only [wset, ne_eq, decide_true, decide_false, Nat.reduceAdd, Nat.reduceSub, Nat.reduceLeDiff, reduceIte, d__law_names_12]); (repeat ((with_reducible refine And.intro ?_ ?_); (focus ((first | omega | decide | rfl | (simp only [lset]; omega) | (simp only [lset, wset]; done)))); (try simp only [wset, ne_eq, decide_true, decide_false, Nat.reduceAdd, Nat.reduceSub, Nat.reduceLeDiff, reduceIte, d__law_names_12]))))
    refine wp_comp (fun _ S' => S' = Ct S n y) (fun _ d => ∃ c, d = .str [c] ∧ c ∈ abcL) ?_
    ((try simp only [wset, ne_eq, decide_true, decide_false, Nat.reduceAdd, Nat.reduceSub, Nat.reduceLeDiff, reduceIte]); (repeat ((with_reducible refine And.intro ?_ ?_); (focus ((first | omega | decide | rfl | (simp only [lset]; omega) | (simp only [lset, wset]; done)))); (try simp only [wset, ne_eq, decide_true, decide_false, Nat.reduceAdd, Nat.reduceSub, Nat.reduceLeDiff, reduceIte]))))
    refine And.intro (by rw [tk_len]; omega) (And.intro ?_ ?_)
    · rintro i d hd S' rfl
      obtain ⟨rfl, hi⟩ := rng_at hd
      rw [wp_turn]
      ((try simp only [wset, ne_eq, decide_true, decide_false, Nat.reduceAdd, Nat.reduceSub, Nat.reduceLeDiff, reduceIte, wipeR, d__law_names_E3]); (repeat ((with_reducible refine And.intro ?_ ?_); (focus ((first | omega | decide | rfl | (simp only [lset]; omega) | (simp only [lset, wset]; done)))); (try simp only [wset, ne_eq, decide_true, decide_false, Nat.reduceAdd, Nat.reduceSub, Nat.reduceLeDiff, reduceIte, wipeR, d__law_names_E3]))))
      refine wp_ixS (by omega) (by omega) (by omega) fun c hc _ => ?_
      exact ⟨_, rfl, ⟨c, rfl, hc⟩, rfl, rfl⟩
    rintro ys S1 rfl hl2 hy2
    obtain ⟨sm, rfl, hsm⟩ := signs_of (P := fun c => c ∈ abcL) (ys := ys) fun z hz => by
      obtain ⟨i, hi⟩ := List.getElem?_of_mem hz
      exact hy2 i z hi
    have hsml : sm.length = many := by simpa [tk_len] using hl2
    ((first | (with_reducible refine run_seq ?_) | refine run_next ?_); (try simp only [wset, ne_eq, decide_true, decide_false, Nat.reduceAdd, Nat.reduceSub, Nat.reduceLeDiff, reduceIte, d__law_names_13]); (repeat ((with_reducible refine And.intro ?_ ?_); (focus ((first | omega | decide | rfl | (simp only [lset]; omega) | (simp only [lset, wset]; done)))); (try simp only [wset, ne_eq, decide_true, decide_false, Nat.reduceAdd, Nat.reduceSub, Nat.reduceLeDiff, reduceIte, d__law_names_13]))))
    refine wp_comp (fun _ S' => S' = Ct S n y) (fun _ d => nameT d) ?_
    ((try simp only [wset, ne_eq, decide_true, decide_false, Nat.reduceAdd, Nat.reduceSub, Nat.reduceLeDiff, reduceIte]); (repeat ((with_reducible refine And.intro ?_ ?_); (focus ((first | omega | decide | rfl | (simp only [lset]; omega) | (simp only [lset, wset]; done)))); (try simp only [wset, ne_eq, decide_true, decide_false, Nat.reduceAdd, Nat.reduceSub, Nat.reduceLeDiff, reduceIte]))))
    refine And.intro (by rw [tk_len]; omega) (And.intro ?_ ?_)
    · rintro i d hd S' rfl
      obtain ⟨rfl, hi⟩ := rng_at hd
      rw [wp_turn]
      ((try simp only [wset, ne_eq, decide_true, decide_false, Nat.reduceAdd, Nat.reduceSub, Nat.reduceLeDiff, reduceIte, wipeR, d__law_names_E4, cut_take]); (repeat ((with_reducible refine And.intro ?_ ?_); (focus ((first | omega | decide | rfl | (simp only [lset]; omega) | (simp only [lset, wset]; done)))); (try simp only [wset, ne_eq, decide_true, decide_false, Nat.reduceAdd, Nat.reduceSub, Nat.reduceLeDiff, reduceIte, wipeR, d__law_names_E4, cut_take]))))
      refine wp_ixL (by omega) (by simp; omega) fun d hd _ => ?_
      obtain ⟨a, ha, rfl⟩ := List.mem_map.mp hd
      ((try simp only [wset, ne_eq, decide_true, decide_false, Nat.reduceAdd, Nat.reduceSub, Nat.reduceLeDiff, reduceIte]); (repeat ((with_reducible refine And.intro ?_ ?_); (focus ((first | omega | decide | rfl | (simp only [lset]; omega) | (simp only [lset, wset]; done)))); (try simp only [wset, ne_eq, decide_true, decide_false, Nat.reduceAdd, Nat.reduceSub, Nat.reduceLeDiff, reduceIte]))))
      refine wp_ixP (fun d => ∃ e, d = .str e ∧ (e = e0 ∨ e = e0 ++ List.replicate mo 109)) (by omega) (by simp; omega) ⟨⟨_, rfl, .inl rfl⟩, ⟨_, rfl, .inr rfl⟩, trivial⟩ ?_
      rintro d ⟨e, rfl, he⟩
      have hel : e.length ≤ e0.length + mo ∧ ∀ z ∈ e, okSign z = true := by
        rcases he with rfl | rfl
        · exact ⟨by omega, se0⟩
        · refine ⟨by simp, fun z hz => ?_⟩
          rcases List.mem_append.mp hz with h | h
          · exact se0 z h
          · rw [List.eq_of_mem_replicate h]; decide
      ((try simp only [wset, ne_eq, decide_true, decide_false, Nat.reduceAdd, Nat.reduceSub, Nat.reduceLeDiff, reduceIte]); (repeat ((with_reducible refine And.intro ?_ ?_); (focus ((first | omega | decide | rfl | (simp only [lset]; omega) | (simp only [lset, wset]; done)))); (try simp only [wset, ne_eq, decide_true, decide_false, Nat.reduceAdd, Nat.reduceSub, Nat.reduceLeDiff, reduceIte]))))
      have hl1 := hel.1
      refine ⟨_, rfl, ?_⟩
      refine ⟨_, rfl, nameB_of (by simp) (by simp; omega) (fun z hz => ?_) fun z hz => ?_⟩
      · cases at_ with
        | zero => simp at hz; subst hz; exact hsm a ha
        | succ k => simp at hz; subst hz; exact hc
      · simp only [List.mem_append, List.mem_cons, List.not_mem_nil, or_false] at hz
        rcases hz with h | h | h
        · exact hus z (List.mem_of_mem_take h)
        · subst h; simp [okSign, hsm _ ha]
        · exact hel.2 z h
    rintro ys S1 rfl hl3 hy3
    obtain ⟨ts, rfl, hts⟩ := names_of hy3
    exact hV _ _ (h ts y (by simpa [tk_len] using hl3) hts)
  by_cases hm9 : many < 9
  · rw [if_pos (by omega)]
    refine wpF_take hn (by omega) (by omega) fun r y r0 r1 => ?_
    ((try simp only [wset, ne_eq, decide_true, decide_false, Nat.reduceAdd, Nat.reduceSub, Nat.reduceLeDiff, reduceIte]); (repeat ((with_reducible refine And.intro ?_ ?_); (focus ((first | omega | decide | rfl | (simp only [lset]; omega) | (simp only [lset, wset]; done)))); (try simp only [wset, ne_eq, decide_true, decide_false, Nat.reduceAdd, Nat.reduceSub, Nat.reduceLeDiff, reduceIte]))))
    split
    · refine run_seq ?_
      refine fin1 _ ?_ hm9 y
      rfl
    · exact fin2 y
  · rw [if_neg (by omega)]
    exact fin2 _
/-! ### the law's look at an exception -/
theorem mk_1 (d : D) (S : List D) : fn__law_marks [.exn 1 [d]] S = .ok (false, .int 0) [] S := by
  refine fn_run_eq fun q hV _ => ?_
  show Run (d__law_marks [vD (.exn 1 [d]), none, none] S) q
  unfold d__law_marks
  ((first | (with_reducible refine run_seq ?_) | refine run_next ?_); (try simp only [wset, ne_eq, decide_true, decide_false, Nat.reduceAdd, Nat.reduceSub, Nat.reduceLeDiff, reduceIte, d__law_marks_1]); (repeat ((with_reducible refine And.intro ?_ ?_); (focus ((first | omega | decide | rfl | (simp only [lset]; omega) | (simp only [lset, wset]; done)))); (try simp only [wset, ne_eq, decide_true, decide_false, Nat.reduceAdd, Nat.reduceSub, Nat.reduceLeDiff, reduceIte, d__law_marks_1]))))
  ((first | (with_reducible refine run_seq ?_) | refine run_next ?_); (try simp only [wset, ne_eq, decide_true, decide_false, Nat.reduceAdd, Nat.reduceSub, Nat.reduceLeDiff, reduceIte, d__law_marks_2]); (repeat ((with_reducible refine And.intro ?_ ?_); (focus ((first | omega | decide | rfl | (simp only [lset]; omega) | (simp only [lset, wset]; done)))); (try simp only [wset, ne_eq, decide_true, decide_false, Nat.reduceAdd, Nat.reduceSub, Nat.reduceLeDiff, reduceIte, d__law_marks_2]))))
  ((first | (with_reducible refine run_seq ?_) | refine run_next ?_); (try simp only [wset, ne_eq, decide_true, decide_false, Nat.reduceAdd, Nat.reduceSub, Nat.reduceLeDiff, reduceIte, d__law_marks_3]); (repeat ((with_reducible refine And.intro ?_ ?_); (focus ((first | omega | decide | rfl | (simp only [lset]; omega) | (simp only [lset, wset]; done)))); (try simp only [wset, ne_eq, decide_true, decide_false, Nat.reduceAdd, Nat.reduceSub, Nat.reduceLeDiff, reduceIte, d__law_marks_3]))))
  ((first | (with_reducible refine run_seq ?_) | refine run_next ?_); (try simp only [wset, ne_eq, decide_true, decide_false, Nat.reduceAdd, Nat.reduceSub, Nat.reduceLeDiff, reduceIte, d__law_marks_4]); (repeat ((with_reducible refine And.intro ?_ ?_); (focus ((first | omega | decide | rfl | (simp only [lset]; omega) | (simp only [lset, wset]; done)))); (try simp only [wset, ne_eq, decide_true, decide_false, Nat.reduceAdd, Nat.reduceSub, Nat.reduceLeDiff, reduceIte, d__law_marks_4]))))
  ((first | (with_reducible refine run_seq ?_) | refine run_next ?_); (try simp only [wset, ne_eq, decide_true, decide_false, Nat.reduceAdd, Nat.reduceSub, Nat.reduceLeDiff, reduceIte, d__law_marks_5]); (repeat ((with_reducible refine And.intro ?_ ?_); (focus ((first | omega | decide | rfl | (simp only [lset]; omega) | (simp only [lset, wset]; done)))); (try simp only [wset, ne_eq, decide_true, decide_false, Nat.reduceAdd, Nat.reduceSub, Nat.reduceLeDiff, reduceIte, d__law_marks_5]))))
  refine run_seq ?_
  ((try simp only [wset, ne_eq, decide_true, decide_false, Nat.reduceAdd, Nat.reduceSub, Nat.reduceLeDiff, reduceIte, d__law_marks_7]); (repeat ((with_reducible refine And.intro ?_ ?_); (focus ((first | omega | decide | rfl | (simp only [lset]; omega) | (simp only [lset, wset]; done)))); (try simp only [wset, ne_eq, decide_true, decide_false, Nat.reduceAdd, Nat.reduceSub, Nat.reduceLeDiff, reduceIte, d__law_marks_7]))))
  refine wp_compF D.bl (fun b => b) D.bl [true, false, false, false, false, false, false, false, false, false, false, false, false, false, false] ?_
  ((try simp only [wset, ne_eq, decide_true, decide_false, Nat.reduceAdd, Nat.reduceSub, Nat.reduceLeDiff, reduceIte]); (repeat ((with_reducible refine And.intro ?_ ?_); (focus ((first | omega | decide | rfl | (simp only [lset]; omega) | (simp only [lset, wset]; done)))); (try simp only [wset, ne_eq, decide_true, decide_false, Nat.reduceAdd, Nat.reduceSub, Nat.reduceLeDiff, reduceIte]))))
  refine ⟨fun b _ => ?_, ?_⟩
  · rw [wp_turn]
    cases b <;> ((try simp only [wset, ne_eq, decide_true, decide_false, Nat.reduceAdd, Nat.reduceSub, Nat.reduceLeDiff, reduceIte, wipeR, d__law_marks_K1, d__law_marks_E1]); (repeat ((with_reducible refine And.intro ?_ ?_); (focus ((first | omega | decide | rfl | (simp only [lset]; omega) | (simp only [lset, wset]; done)))); (try simp only [wset, ne_eq, decide_true, decide_false, Nat.reduceAdd, Nat.reduceSub, Nat.reduceLeDiff, reduceIte, wipeR, d__law_marks_K1, d__law_marks_E1]))))
  refine run_seq ?_
  have hp : place (D.bl true) [D.bl true, D.bl false, D.bl false, D.bl false, D.bl false, D.bl false, D.bl false, D.bl false, D.bl false, D.bl false, D.bl false, D.bl false, D.bl false, D.bl false, D.bl false] = some 0 := by simp [place]
  ((try simp only [wset, ne_eq, decide_true, decide_false, Nat.reduceAdd, Nat.reduceSub, Nat.reduceLeDiff, reduceIte, d__law_marks_9, hp]); (repeat ((with_reducible refine And.intro ?_ ?_); (focus ((first | omega | decide | rfl | (simp only [lset]; omega) | (simp only [lset, wset]; done)))); (try simp only [wset, ne_eq, decide_true, decide_false, Nat.reduceAdd, Nat.reduceSub, Nat.reduceLeDiff, reduceIte, d__law_marks_9, hp]))))
  exact hV

theorem mk_2 (S : List D) : fn__law_marks [.exn 2 []] S = .ok (false, .int 1) [] S := by
  refine fn_run_eq fun q hV _ => ?_
  show Run (d__law_marks [vD (.exn 2 []), none, none] S) q
  unfold d__law_marks
  ((first | (with_reducible refine run_seq ?_) | refine run_next ?_); (try simp only [wset, ne_eq, decide_true, decide_false, Nat.reduceAdd, Nat.reduceSub, Nat.reduceLeDiff, reduceIte, d__law_marks_1]); (repeat ((with_reducible refine And.intro ?_ ?_); (focus ((first | omega | decide | rfl | (simp only [lset]; omega) | (simp only [lset, wset]; done)))); (try simp only [wset, ne_eq, decide_true, decide_false, Nat.reduceAdd, Nat.reduceSub, Nat.reduceLeDiff, reduceIte, d__law_marks_1]))))
  ((first | (with_reducible refine run_seq ?_) | refine run_next ?_); (try simp only [wset, ne_eq, decide_true, decide_false, Nat.reduceAdd, Nat.reduceSub, Nat.reduceLeDiff, reduceIte, d__law_marks_2]); (repeat ((with_reducible refine And.intro ?_ ?_); (focus ((first | omega | decide | rfl | (simp only [lset]; omega) | (simp only [lset, wset]; done)))); (try simp only [wset, ne_eq, decide_true, decide_false, Nat.reduceAdd, Nat.reduceSub, Nat.reduceLeDiff, reduceIte, d__law_marks_2]))))
  ((first | (with_reducible refine run_seq ?_) | refine run_next ?_); (try simp only [wset, ne_eq, decide_true, decide_false, Nat.reduceAdd, Nat.reduceSub, Nat.reduceLeDiff, reduceIte, d__law_marks_3]); (repeat ((with_reducible refine And.intro ?_ ?_); (focus ((first | omega | decide | rfl | (simp only [lset]; omega) | (simp only [lset, wset]; done)))); (try simp only [wset, ne_eq, decide_true, decide_false, Nat.reduceAdd, Nat.reduceSub, Nat.reduceLeDiff, reduceIte, d__law_marks_3]))))
  ((first | (with_reducible refine run_seq ?_) | refine run_next ?_); (try simp only [wset, ne_eq, decide_true, decide_false, Nat.reduceAdd, Nat.reduceSub, Nat.reduceLeDiff, reduceIte, d__law_marks_4]); (repeat ((with_reducible refine And.intro ?_ ?_); (focus ((first | omega | decide | rfl | (simp only [lset]; omega) | (simp only [lset, wset]; done)))); (try simp only [wset, ne_eq, decide_true, decide_false, Nat.reduceAdd, Nat.reduceSub, Nat.reduceLeDiff, reduceIte, d__law_marks_4]))))
  ((first | (with_reducible refine run_seq ?_) | refine run_next ?_); (try simp only [wset, ne_eq, decide_true, decide_false, Nat.reduceAdd, Nat.reduceSub, Nat.reduceLeDiff, reduceIte, d__law_marks_5]); (repeat ((with_reducible refine And.intro ?_ ?_); (focus ((first | omega | decide | rfl | (simp only [lset]; omega) | (simp only [lset, wset]; done)))); (try simp only [wset, ne_eq, decide_true, decide_false, Nat.reduceAdd, Nat.reduceSub, Nat.reduceLeDiff, reduceIte, d__law_marks_5]))))
  refine run_seq ?_
  ((try simp only [wset, ne_eq, decide_true, decide_false, Nat.reduceAdd, Nat.reduceSub, Nat.reduceLeDiff, reduceIte, d__law_marks_7]); (repeat ((with_reducible refine And.intro ?_ ?_); (focus ((first | omega | decide | rfl | (simp only [lset]; omega) | (simp only [lset, wset]; done)))); (try simp only [wset, ne_eq, decide_true, decide_false, Nat.reduceAdd, Nat.reduceSub, Nat.reduceLeDiff, reduceIte, d__law_marks_7]))))
  refine wp_compF D.bl (fun b => b) D.bl [false, true, false, false, false, false, false, false, false, false, false, false, false, false, false] ?_
  ((try simp only [wset, ne_eq, decide_true, decide_false, Nat.reduceAdd, Nat.reduceSub, Nat.reduceLeDiff, reduceIte]); (repeat ((with_reducible refine And.intro ?_ ?_); (focus ((first | omega | decide | rfl | (simp only [lset]; omega) | (simp only [lset, wset]; done)))); (try simp only [wset, ne_eq, decide_true, decide_false, Nat.reduceAdd, Nat.reduceSub, Nat.reduceLeDiff, reduceIte]))))
  refine ⟨fun b _ => ?_, ?_⟩
  · rw [wp_turn]
    cases b <;> ((try simp only [wset, ne_eq, decide_true, decide_false, Nat.reduceAdd, Nat.reduceSub, Nat.reduceLeDiff, reduceIte, wipeR, d__law_marks_K1, d__law_marks_E1]); (repeat ((with_reducible refine And.intro ?_ ?_); (focus ((first | omega | decide | rfl | (simp only [lset]; omega) | (simp only [lset, wset]; done)))); (try simp only [wset, ne_eq, decide_true, decide_false, Nat.reduceAdd, Nat.reduceSub, Nat.reduceLeDiff, reduceIte, wipeR, d__law_marks_K1, d__law_marks_E1]))))
  refine run_seq ?_
  have hp : place (D.bl true) [D.bl false, D.bl true, D.bl false, D.bl false, D.bl false, D.bl false, D.bl false, D.bl false, D.bl false, D.bl false, D.bl false, D.bl false, D.bl false, D.bl false, D.bl false] = some 1 := by simp [place]
  ((try simp only [wset, ne_eq, decide_true, decide_false, Nat.reduceAdd, Nat.reduceSub, Nat.reduceLeDiff, reduceIte, d__law_marks_9, hp]); (repeat ((with_reducible refine And.intro ?_ ?_); (focus ((first | omega | decide | rfl | (simp only [lset]; omega) | (simp only [lset, wset]; done)))); (try simp only [wset, ne_eq, decide_true, decide_false, Nat.reduceAdd, Nat.reduceSub, Nat.reduceLeDiff, reduceIte, d__law_marks_9, hp]))))
  exact hV

theorem mk_3 (S : List D) : fn__law_marks [.exn 3 []] S = .ok (false, .int 2) [] S := by
  refine fn_run_eq fun q hV _ => ?_
  show Run (d__law_marks [vD (.exn 3 []), none, none] S) q
  unfold d__law_marks
  ((first | (with_reducible refine run_seq ?_) | refine run_next ?_); (try simp only [wset, ne_eq, decide_true, decide_false, Nat.reduceAdd, Nat.reduceSub, Nat.reduceLeDiff, reduceIte, d__law_marks_1]); (repeat ((with_reducible refine And.intro ?_ ?_); (focus ((first | omega | decide | rfl | (simp only [lset]; omega) | (simp only [lset, wset]; done)))); (try simp only [wset, ne_eq, decide_true, decide_false, Nat.reduceAdd, Nat.reduceSub, Nat.reduceLeDiff, reduceIte, d__law_marks_1]))))
  ((first | (with_reducible refine run_seq ?_) | refine run_next ?_); (try simp only [wset, ne_eq, decide_true, decide_false, Nat.reduceAdd, Nat.reduceSub, Nat.reduceLeDiff, reduceIte, d__law_marks_2]); (repeat ((with_reducible refine And.intro ?_ ?_); (focus ((first | omega | decide | rfl | (simp only [lset]; omega) | (simp only [lset, wset]; done)))); (try simp only [wset, ne_eq, decide_true, decide_false, Nat.reduceAdd, Nat.reduceSub, Nat.reduceLeDiff, reduceIte, d__law_marks_2]))))
  ((first | (with_reducible refine run_seq ?_) | refine run_next ?_); (try simp only [wset, ne_eq, decide_true, decide_false, Nat.reduceAdd, Nat.reduceSub, Nat.reduceLeDiff, reduceIte, d__law_marks_3]); (repeat ((with_reducible refine And.intro ?_ ?_); (focus ((first | omega | decide | rfl | (simp only [lset]; omega) | (simp only [lset, wset]; done)))); (try simp only [wset, ne_eq, decide_true, decide_false, Nat.reduceAdd, Nat.reduceSub, Nat.reduceLeDiff, reduceIte, d__law_marks_3]))))
  ((first | (with_reducible refine run_seq ?_) | refine run_next ?_); (try simp only [wset, ne_eq, decide_true, decide_false, Nat.reduceAdd, Nat.reduceSub, Nat.reduceLeDiff, reduceIte, d__law_marks_4]); (repeat ((with_reducible refine And.intro ?_ ?_); (focus ((first | omega | decide | rfl | (simp only [lset]; omega) | (simp only [lset, wset]; done)))); (try simp only [wset, ne_eq, decide_true, decide_false, Nat.reduceAdd, Nat.reduceSub, Nat.reduceLeDiff, reduceIte, d__law_marks_4]))))
  ((first | (with_reducible refine run_seq ?_) | refine run_next ?_); (try simp only [wset, ne_eq, decide_true, decide_false, Nat.reduceAdd, Nat.reduceSub, Nat.reduceLeDiff, reduceIte, d__law_marks_5]); (repeat ((with_reducible refine And.intro ?_ ?_); (focus ((first | omega | decide | rfl | (simp only [lset]; omega) | (simp only [lset, wset]; done)))); (try simp only [wset, ne_eq, decide_true, decide_false, Nat.reduceAdd, Nat.reduceSub, Nat.reduceLeDiff, reduceIte, d__law_marks_5]))))
  refine run_seq ?_
  ((try simp only [wset, ne_eq, decide_true, decide_false, Nat.reduceAdd, Nat.reduceSub, Nat.reduceLeDiff, reduceIte, d__law_marks_7]); (repeat ((with_reducible refine And.intro ?_ ?_); (focus ((first | omega | decide | rfl | (simp only [lset]; omega) | (simp only [lset, wset]; done)))); (try simp only [wset, ne_eq, decide_true, decide_false, Nat.reduceAdd, Nat.reduceSub, Nat.reduceLeDiff, reduceIte, d__law_marks_7]))))
  refine wp_compF D.bl (fun b => b) D.bl [false, false, true, false, false, false, false, false, false, false, false, false, false, false, false] ?_
  ((try simp only [wset, ne_eq, decide_true, decide_false, Nat.reduceAdd, Nat.reduceSub, Nat.reduceLeDiff, reduceIte]); (repeat ((with_reducible refine And.intro ?_ ?_); (focus ((first | omega | decide | rfl | (simp only [lset]; omega) | (simp only [lset, wset]; done)))); (try simp only [wset, ne_eq, decide_true, decide_false, Nat.reduceAdd, Nat.reduceSub, Nat.reduceLeDiff, reduceIte]))))
  refine ⟨fun b _ => ?_, ?_⟩
  · rw [wp_turn]
    cases b <;> ((try simp only [wset, ne_eq, decide_true, decide_false, Nat.reduceAdd, Nat.reduceSub, Nat.reduceLeDiff, reduceIte, wipeR, d__law_marks_K1, d__law_marks_E1]); (repeat ((with_reducible refine And.intro ?_ ?_); (focus ((first | omega | decide | rfl | (simp only [lset]; omega) | (simp only [lset, wset]; done)))); (try simp only [wset, ne_eq, decide_true, decide_false, Nat.reduceAdd, Nat.reduceSub, Nat.reduceLeDiff, reduceIte, wipeR, d__law_marks_K1, d__law_marks_E1]))))
  refine run_seq ?_
  have hp : place (D.bl true) [D.bl false, D.bl false, D.bl true, D.bl false, D.bl false, D.bl false, D.bl false, D.bl false, D.bl false, D.bl false, D.bl false, D.bl false, D.bl false, D.bl false, D.bl false] = some 2 := by simp [place]
  ((try simp only [wset, ne_eq, decide_true, decide_false, Nat.reduceAdd, Nat.reduceSub, Nat.reduceLeDiff, reduceIte, d__law_marks_9, hp]); (repeat ((with_reducible refine And.intro ?_ ?_); (focus ((first | omega | decide | rfl | (simp only [lset]; omega) | (simp only [lset, wset]; done)))); (try simp only [wset, ne_eq, decide_true, decide_false, Nat.reduceAdd, Nat.reduceSub, Nat.reduceLeDiff, reduceIte, d__law_marks_9, hp]))))
  exact hV

theorem mk_4 (S : List D) : fn__law_marks [.exn 4 []] S = .ok (false, .int 3) [] S := by
  refine fn_run_eq fun q hV _ => ?_
  show Run (d__law_marks [vD (.exn 4 []), none, none] S) q
  unfold d__law_marks
  ((first | (with_reducible refine run_seq ?_) | refine run_next ?_); (try simp only [wset, ne_eq, decide_true, decide_false, Nat.reduceAdd, Nat.reduceSub, Nat.reduceLeDiff, reduceIte, d__law_marks_1]); (repeat ((with_reducible refine And.intro ?_ ?_); (focus ((first | omega | decide | rfl | (simp only [lset]; omega) | (simp only [lset, wset]; done)))); (try simp only [wset, ne_eq, decide_true, decide_false, Nat.reduceAdd, Nat.reduceSub, Nat.reduceLeDiff, reduceIte, d__law_marks_1]))))
  ((first | (with_reducible refine run_seq ?_) | refine run_next ?_); (try simp only [wset, ne_eq, decide_true, decide_false, Nat.reduceAdd, Nat.reduceSub, Nat.reduceLeDiff, reduceIte, d__law_marks_2]); (repeat ((with_reducible refine And.intro ?_ ?_); (focus ((first | omega | decide | rfl | (simp only [lset]; omega) | (simp only [lset, wset]; done)))); (try simp only [wset, ne_eq, decide_true, decide_false, Nat.reduceAdd, Nat.reduceSub, Nat.reduceLeDiff, reduceIte, d__law_marks_2]))))
  ((first | (with_reducible refine run_seq ?_) | refine run_next ?_); (try simp only [wset, ne_eq, decide_true, decide_false, Nat.reduceAdd, Nat.reduceSub, Nat.reduceLeDiff, reduceIte, d__law_marks_3]); (repeat ((with_reducible refine And.intro ?_ ?_); (focus ((first | omega | decide | rfl | (simp only [lset]; omega) | (simp only [lset, wset]; done)))); (try simp only [wset, ne_eq, decide_true, decide_false, Nat.reduceAdd, Nat.reduceSub, Nat.reduceLeDiff, reduceIte, d__law_marks_3]))))
  ((first | (with_reducible refine run_seq ?_) | refine run_next ?_); (try simp only [wset, ne_eq, decide_true, decide_false, Nat.reduceAdd, Nat.reduceSub, Nat.reduceLeDiff, reduceIte, d__law_marks_4]); (repeat ((with_reducible refine And.intro ?_ ?_); (focus ((first | omega | decide | rfl | (simp only [lset]; omega) | (simp only [lset, wset]; done)))); (try simp only [wset, ne_eq, decide_true, decide_false, Nat.reduceAdd, Nat.reduceSub, Nat.reduceLeDiff, reduceIte, d__law_marks_4]))))
  ((first | (with_reducible refine run_seq ?_) | refine run_next ?_); (try simp only [wset, ne_eq, decide_true, decide_false, Nat.reduceAdd, Nat.reduceSub, Nat.reduceLeDiff, reduceIte, d__law_marks_5]); (repeat ((with_reducible refine And.intro ?_ ?_); (focus ((first | omega | decide | rfl | (simp only [lset]; omega) | (simp only [lset, wset]; done)))); (try simp only [wset, ne_eq, decide_true, decide_false, Nat.reduceAdd, Nat.reduceSub, Nat.reduceLeDiff, reduceIte, d__law_marks_5]))))
  refine run_seq ?_
  ((try simp only [wset, ne_eq, decide_true, decide_false, Nat.reduceAdd, Nat.reduceSub, Nat.reduceLeDiff, reduceIte, d__law_marks_7]); (repeat ((with_reducible refine And.intro ?_ ?_); (focus ((first | omega | decide | rfl | (simp only [lset]; omega) | (simp only [lset, wset]; done)))); (try simp only [wset, ne_eq, decide_true, decide_false, Nat.reduceAdd, Nat.reduceSub, Nat.reduceLeDiff, reduceIte, d__law_marks_7]))))
  refine wp_compF D.bl (fun b => b) D.bl [false, false, false, true, false, false, false, false, false, false, false, false, false, false, false] ?_
  ((try simp only [wset, ne_eq, decide_true, decide_false, Nat.reduceAdd, Nat.reduceSub, Nat.reduceLeDiff, reduceIte]); (repeat ((with_reducible refine And.intro ?_ ?_); (focus ((first | omega | decide | rfl | (simp only [lset]; omega) | (simp only [lset, wset]; done)))); (try simp only [wset, ne_eq, decide_true, decide_false, Nat.reduceAdd, Nat.reduceSub, Nat.reduceLeDiff, reduceIte]))))
  refine ⟨fun b _ => ?_, ?_⟩
  · rw [wp_turn]
    cases b <;> ((try simp only [wset, ne_eq, decide_true, decide_false, Nat.reduceAdd, Nat.reduceSub, Nat.reduceLeDiff, reduceIte, wipeR, d__law_marks_K1, d__law_marks_E1]); (repeat ((with_reducible refine And.intro ?_ ?_); (focus ((first | omega | decide | rfl | (simp only [lset]; omega) | (simp only [lset, wset]; done)))); (try simp only [wset, ne_eq, decide_true, decide_false, Nat.reduceAdd, Nat.reduceSub, Nat.reduceLeDiff, reduceIte, wipeR, d__law_marks_K1, d__law_marks_E1]))))
  refine run_seq ?_
  have hp : place (D.bl true) [D.bl false, D.bl false, D.bl false, D.bl true, D.bl false, D.bl false, D.bl false, D.bl false, D.bl false, D.bl false, D.bl false, D.bl false, D.bl false, D.bl false, D.bl false] = some 3 := by simp [place]
  ((try simp only [wset, ne_eq, decide_true, decide_false, Nat.reduceAdd, Nat.reduceSub, Nat.reduceLeDiff, reduceIte, d__law_marks_9, hp]); (repeat ((with_reducible refine And.intro ?_ ?_); (focus ((first | omega | decide | rfl | (simp only [lset]; omega) | (simp only [lset, wset]; done)))); (try simp only [wset, ne_eq, decide_true, decide_false, Nat.reduceAdd, Nat.reduceSub, Nat.reduceLeDiff, reduceIte, d__law_marks_9, hp]))))
  exact hV

theorem mk_5 (S : List D) : fn__law_marks [.exn 5 []] S = .ok (false, .int 4) [] S := by
  refine fn_run_eq fun q hV _ => ?_
  show Run (d__law_marks [vD (.exn 5 []), none, none] S) q
  unfold d__law_marks
  ((first | (with_reducible refine run_seq ?_) | refine run_next ?_); (try simp only [wset, ne_eq, decide_true, decide_false, Nat.reduceAdd, Nat.reduceSub, Nat.reduceLeDiff, reduceIte, d__law_marks_1]); (repeat ((with_reducible refine And.intro ?_ ?_); (focus ((first | omega | decide | rfl | (simp only [lset]; omega) | (simp only [lset, wset]; done)))); (try simp only [wset, ne_eq, decide_true, decide_false, Nat.reduceAdd, Nat.reduceSub, Nat.reduceLeDiff, reduceIte, d__law_marks_1]))))
  ((first | (with_reducible refine run_seq ?_) | refine run_next ?_); (try simp only [wset, ne_eq, decide_true, decide_false, Nat.reduceAdd, Nat.reduceSub, Nat.reduceLeDiff, reduceIte, d__law_marks_2]); (repeat ((with_reducible refine And.intro ?_ ?_); (focus ((first | omega | decide | rfl | (simp only [lset]; omega) | (simp only [lset, wset]; done)))); (try simp only [wset, ne_eq, decide_true, decide_false, Nat.reduceAdd, Nat.reduceSub, Nat.reduceLeDiff, reduceIte, d__law_marks_2]))))
  ((first | (with_reducible refine run_seq ?_) | refine run_next ?_); (try simp only [wset, ne_eq, decide_true, decide_false, Nat.reduceAdd, Nat.reduceSub, Nat.reduceLeDiff, reduceIte, d__law_marks_3]); (repeat ((with_reducible refine And.intro ?_ ?_); (focus ((first | omega | decide | rfl | (simp only [lset]; omega) | (simp only [lset, wset]; done)))); (try simp only [wset, ne_eq, decide_true, decide_false, Nat.reduceAdd, Nat.reduceSub, Nat.reduceLeDiff, reduceIte, d__law_marks_3]))))
  ((first | (with_reducible refine run_seq ?_) | refine run_next ?_); (try simp only [wset, ne_eq, decide_true, decide_false, Nat.reduceAdd, Nat.reduceSub, Nat.reduceLeDiff, reduceIte, d__law_marks_4]); (repeat ((with_reducible refine And.intro ?_ ?_); (focus ((first | omega | decide | rfl | (simp only [lset]; omega) | (simp only [lset, wset]; done)))); (try simp only [wset, ne_eq, decide_true, decide_false, Nat.reduceAdd, Nat.reduceSub, Nat.reduceLeDiff, reduceIte, d__law_marks_4]))))
  ((first | (with_reducible refine run_seq ?_) | refine run_next ?_); (try simp only [wset, ne_eq, decide_true, decide_false, Nat.reduceAdd, Nat.reduceSub, Nat.reduceLeDiff, reduceIte, d__law_marks_5]); (repeat ((with_reducible refine And.intro ?_ ?_); (focus ((first | omega | decide | rfl | (simp only [lset]; omega) | (simp only [lset, wset]; done)))); (try simp only [wset, ne_eq, decide_true, decide_false, Nat.reduceAdd, Nat.reduceSub, Nat.reduceLeDiff, reduceIte, d__law_marks_5]))))
  refine run_seq ?_
  ((try simp only [wset, ne_eq, decide_true, decide_false, Nat.reduceAdd, Nat.reduceSub, Nat.reduceLeDiff, reduceIte, d__law_marks_7]); (repeat ((with_reducible refine And.intro ?_ ?_); (focus ((first | omega | decide | rfl | (simp only [lset]; omega) | (simp only [lset, wset]; done)))); (try simp only [wset, ne_eq, decide_true, decide_false, Nat.reduceAdd, Nat.reduceSub, Nat.reduceLeDiff, reduceIte, d__law_marks_7]))))
  refine wp_compF D.bl (fun b => b) D.bl [false, false, false, false, true, false, false, false, false, false, false, false, false, false, false] ?_
  ((try simp only [wset, ne_eq, decide_true, decide_false, Nat.reduceAdd, Nat.reduceSub, Nat.reduceLeDiff, reduceIte]); (repeat ((with_reducible refine And.intro ?_ ?_); (focus ((first | omega | decide | rfl | (simp only [lset]; omega) | (simp only [lset, wset]; done)))); (try simp only [wset, ne_eq, decide_true, decide_false, Nat.reduceAdd, Nat.reduceSub, Nat.reduceLeDiff, reduceIte]))))
  refine ⟨fun b _ => ?_, ?_⟩
  · rw [wp_turn]
    cases b <;> ((try simp only [wset, ne_eq, decide_true, decide_false, Nat.reduceAdd, Nat.reduceSub, Nat.reduceLeDiff, reduceIte, wipeR, d__law_marks_K1, d__law_marks_E1]); (repeat ((with_reducible refine And.intro ?_ ?_); (focus ((first | omega | decide | rfl | (simp only [lset]; omega) | (simp only [lset, wset]; done)))); (try simp only [wset, ne_eq, decide_true, decide_false, Nat.reduceAdd, Nat.reduceSub, Nat.reduceLeDiff, reduceIte, wipeR, d__law_marks_K1, d__law_marks_E1]))))
  refine run_seq ?_
  have hp : place (D.bl true) [D.bl false, D.bl false, D.bl false, D.bl false, D.bl true, D.bl false, D.bl false, D.bl false, D.bl false, D.bl false, D.bl false, D.bl false, D.bl false, D.bl false, D.bl false] = some 4 := by simp [place]
  ((try simp only [wset, ne_eq, decide_true, decide_false, Nat.reduceAdd, Nat.reduceSub, Nat.reduceLeDiff, reduceIte, d__law_marks_9, hp]); (repeat ((with_reducible refine And.intro ?_ ?_); (focus ((first | omega | decide | rfl | (simp only [lset]; omega) | (simp only [lset, wset]; done)))); (try simp only [wset, ne_eq, decide_true, decide_false, Nat.reduceAdd, Nat.reduceSub, Nat.reduceLeDiff, reduceIte, d__law_marks_9, hp]))))
  exact hV

theorem mk_6 (d : D) (S : List D) : fn__law_marks [.exn 6 [d]] S = .ok (false, .int 5) [] S := by
  refine fn_run_eq fun q hV _ => ?_
  show Run (d__law_marks [vD (.exn 6 [d]), none, none] S) q
  unfold d__law_marks
  ((first | (with_reducible refine run_seq ?_) | refine run_next ?_); (try simp only [wset, ne_eq, decide_true, decide_false, Nat.reduceAdd, Nat.reduceSub, Nat.reduceLeDiff, reduceIte, d__law_marks_1]); (repeat ((with_reducible refine And.intro ?_ ?_); (focus ((first | omega | decide | rfl | (simp only [lset]; omega) | (simp only [lset, wset]; done)))); (try simp only [wset, ne_eq, decide_true, decide_false, Nat.reduceAdd, Nat.reduceSub, Nat.reduceLeDiff, reduceIte, d__law_marks_1]))))
  ((first | (with_reducible refine run_seq ?_) | refine run_next ?_); (try simp only [wset, ne_eq, decide_true, decide_false, Nat.reduceAdd, Nat.reduceSub, Nat.reduceLeDiff, reduceIte, d__law_marks_2]); (repeat ((with_reducible refine And.intro ?_ ?_); (focus ((first | omega | decide | rfl | (simp only [lset]; omega) | (simp only [lset, wset]; done)))); (try simp only [wset, ne_eq, decide_true, decide_false, Nat.reduceAdd, Nat.reduceSub, Nat.reduceLeDiff, reduceIte, d__law_marks_2]))))
  ((first | (with_reducible refine run_seq ?_) | refine run_next ?_); (try simp only [wset, ne_eq, decide_true, decide_false, Nat.reduceAdd, Nat.reduceSub, Nat.reduceLeDiff, reduceIte, d__law_marks_3]); (repeat ((with_reducible refine And.intro ?_ ?_); (focus ((first | omega | decide | rfl | (simp only [lset]; omega) | (simp only [lset, wset]; done)))); (try simp only [wset, ne_eq, decide_true, decide_false, Nat.reduceAdd, Nat.reduceSub, Nat.reduceLeDiff, reduceIte, d__law_marks_3]))))
  ((first | (with_reducible refine run_seq ?_) | refine run_next ?_); (try simp only [wset, ne_eq, decide_true, decide_false, Nat.reduceAdd, Nat.reduceSub, Nat.reduceLeDiff, reduceIte, d__law_marks_4]); (repeat ((with_reducible refine And.intro ?_ ?_); (focus ((first | omega | decide | rfl | (simp only [lset]; omega) | (simp only [lset, wset]; done)))); (try simp only [wset, ne_eq, decide_true, decide_false, Nat.reduceAdd, Nat.reduceSub, Nat.reduceLeDiff, reduceIte, d__law_marks_4]))))
  ((first | (with_reducible refine run_seq ?_) | refine run_next ?_); (try simp only [wset, ne_eq, decide_true, decide_false, Nat.reduceAdd, Nat.reduceSub, Nat.reduceLeDiff, reduceIte, d__law_marks_5]); (repeat ((with_reducible refine And.intro ?_ ?_); (focus ((first | omega | decide | rfl | (simp only [lset]; omega) | (simp only [lset, wset]; done)))); (try simp only [wset, ne_eq, decide_true, decide_false, Nat.reduceAdd, Nat.reduceSub, Nat.reduceLeDiff, reduceIte, d__law_marks_5]))))
  refine run_seq ?_
  ((try simp only [wset, ne_eq, decide_true, decide_false, Nat.reduceAdd, Nat.reduceSub, Nat.reduceLeDiff, reduceIte, d__law_marks_7]); (repeat ((with_reducible refine And.intro ?_ ?_); (focus ((first | omega | decide | rfl | (simp only [lset]; omega) | (simp only [lset, wset]; done)))); (try simp only [wset, ne_eq, decide_true, decide_false, Nat.reduceAdd, Nat.reduceSub, Nat.reduceLeDiff, reduceIte, d__law_marks_7]))))
  refine wp_compF D.bl (fun b => b) D.bl [false, false, false, false, false, true, false, false, false, false, false, false, false, false, false] ?_
  ((try simp only [wset, ne_eq, decide_true, decide_false, Nat.reduceAdd, Nat.reduceSub, Nat.reduceLeDiff, reduceIte]); (repeat ((with_reducible refine And.intro ?_ ?_); (focus ((first | omega | decide | rfl | (simp only [lset]; omega) | (simp only [lset, wset]; done)))); (try simp only [wset, ne_eq, decide_true, decide_false, Nat.reduceAdd, Nat.reduceSub, Nat.reduceLeDiff, reduceIte]))))
  refine ⟨fun b _ => ?_, ?_⟩
  · rw [wp_turn]
    cases b <;> ((try simp only [wset, ne_eq, decide_true, decide_false, Nat.reduceAdd, Nat.reduceSub, Nat.reduceLeDiff, reduceIte, wipeR, d__law_marks_K1, d__law_marks_E1]); (repeat ((with_reducible refine And.intro ?_ ?_); (focus ((first | omega | decide | rfl | (simp only [lset]; omega) | (simp only [lset, wset]; done)))); (try simp only [wset, ne_eq, decide_true, decide_false, Nat.reduceAdd, Nat.reduceSub, Nat.reduceLeDiff, reduceIte, wipeR, d__law_marks_K1, d__law_marks_E1]))))
  refine run_seq ?_
  have hp : place (D.bl true) [D.bl false, D.bl false, D.bl false, D.bl false, D.bl false, D.bl true, D.bl false, D.bl false, D.bl false, D.bl false, D.bl false, D.bl false, D.bl false, D.bl false, D.bl false] = some 5 := by simp [place]
  ((try simp only [wset, ne_eq, decide_true, decide_false, Nat.reduceAdd, Nat.reduceSub, Nat.reduceLeDiff, reduceIte, d__law_marks_9, hp]); (repeat ((with_reducible refine And.intro ?_ ?_); (focus ((first | omega | decide | rfl | (simp only [lset]; omega) | (simp only [lset, wset]; done)))); (try simp only [wset, ne_eq, decide_true, decide_false, Nat.reduceAdd, Nat.reduceSub, Nat.reduceLeDiff, reduceIte, d__law_marks_9, hp]))))
  exact hV

theorem mk_7 (d : D) (S : List D) : fn__law_marks [.exn 7 [d]] S = .ok (false, .int 6) [] S := by
  refine fn_run_eq fun q hV _ => ?_
  show Run (d__law_marks [vD (.exn 7 [d]), none, none] S) q
  unfold d__law_marks
  ((first | (with_reducible refine run_seq ?_) | refine run_next ?_); (try simp only [wset, ne_eq, decide_true, decide_false, Nat.reduceAdd, Nat.reduceSub, Nat.reduceLeDiff, reduceIte, d__law_marks_1]); (repeat ((with_reducible refine And.intro ?_ ?_); (focus ((first | omega | decide | rfl | (simp only [lset]; omega) | (simp only [lset, wset]; done)))); (try simp only [wset, ne_eq, decide_true, decide_false, Nat.reduceAdd, Nat.reduceSub, Nat.reduceLeDiff, reduceIte, d__law_marks_1]))))
  ((first | (with_reducible refine run_seq ?_) | refine run_next ?_); (try simp only [wset, ne_eq, decide_true, decide_false, Nat.reduceAdd, Nat.reduceSub, Nat.reduceLeDiff, reduceIte, d__law_marks_2]); (repeat ((with_reducible refine And.intro ?_ ?_); (focus ((first | omega | decide | rfl | (simp only [lset]; omega) | (simp only [lset, wset]; done)))); (try simp only [wset, ne_eq, decide_true, decide_false, Nat.reduceAdd, Nat.reduceSub, Nat.reduceLeDiff, reduceIte, d__law_marks_2]))))
  ((first | (with_reducible refine run_seq ?_) | refine run_next ?_); (try simp only [wset, ne_eq, decide_true, decide_false, Nat.reduceAdd, Nat.reduceSub, Nat.reduceLeDiff, reduceIte, d__law_marks_3]); (repeat ((with_reducible refine And.intro ?_ ?_); (focus ((first | omega | decide | rfl | (simp only [lset]; omega) | (simp only [lset, wset]; done)))); (try simp only [wset, ne_eq, decide_true, decide_false, Nat.reduceAdd, Nat.reduceSub, Nat.reduceLeDiff, reduceIte, d__law_marks_3]))))
  ((first | (with_reducible refine run_seq ?_) | refine run_next ?_); (try simp only [wset, ne_eq, decide_true, decide_false, Nat.reduceAdd, Nat.reduceSub, Nat.reduceLeDiff, reduceIte, d__law_marks_4]); (repeat ((with_reducible refine And.intro ?_ ?_); (focus ((first | omega | decide | rfl | (simp only [lset]; omega) | (simp only [lset, wset]; done)))); (try simp only [wset, ne_eq, decide_true, decide_false, Nat.reduceAdd, Nat.reduceSub, Nat.reduceLeDiff, reduceIte, d__law_marks_4]))))
  ((first | (with_reducible refine run_seq ?_) | refine run_next ?_); (try simp only [wset, ne_eq, decide_true, decide_false, Nat.reduceAdd, Nat.reduceSub, Nat.reduceLeDiff, reduceIte, d__law_marks_5]); (repeat ((with_reducible refine And.intro ?_ ?_); (focus ((first | omega | decide | rfl | (simp only [lset]; omega) | (simp only [lset, wset]; done)))); (try simp only [wset, ne_eq, decide_true, decide_false, Nat.reduceAdd, Nat.reduceSub, Nat.reduceLeDiff, reduceIte, d__law_marks_5]))))
  refine run_seq ?_
  ((try simp only [wset, ne_eq, decide_true, decide_false, Nat.reduceAdd, Nat.reduceSub, Nat.reduceLeDiff, reduceIte, d__law_marks_7]); (repeat ((with_reducible refine And.intro ?_ ?_); (focus ((first | omega | decide | rfl | (simp only [lset]; omega) | (simp only [lset, wset]; done)))); (try simp only [wset, ne_eq, decide_true, decide_false, Nat.reduceAdd, Nat.reduceSub, Nat.reduceLeDiff, reduceIte, d__law_marks_7]))))
  refine wp_compF D.bl (fun b => b) D.bl [false, false, false, false, false, false, true, false, false, false, false, false, false, false, false] ?_
  ((try simp only [wset, ne_eq, decide_true, decide_false, Nat.reduceAdd, Nat.reduceSub, Nat.reduceLeDiff, reduceIte]); (repeat ((with_reducible refine And.intro ?_ ?_); (focus ((first | omega | decide | rfl | (simp only [lset]; omega) | (simp only [lset, wset]; done)))); (try simp only [wset, ne_eq, decide_true, decide_false, Nat.reduceAdd, Nat.reduceSub, Nat.reduceLeDiff, reduceIte]))))
  refine ⟨fun b _ => ?_, ?_⟩
  · rw [wp_turn]
    cases b <;> ((try simp only [wset, ne_eq, decide_true, decide_false, Nat.reduceAdd, Nat.reduceSub, Nat.reduceLeDiff, reduceIte, wipeR, d__law_marks_K1, d__law_marks_E1]); (repeat ((with_reducible refine And.intro ?_ ?_); (focus ((first | omega | decide | rfl | (simp only [lset]; omega) | (simp only [lset, wset]; done)))); (try simp only [wset, ne_eq, decide_true, decide_false, Nat.reduceAdd, Nat.reduceSub, Nat.reduceLeDiff, reduceIte, wipeR, d__law_marks_K1, d__law_marks_E1]))))
  refine run_seq ?_
  have hp : place (D.bl true) [D.bl false, D.bl false, D.bl false, D.bl false, D.bl false, D.bl false, D.bl true, D.bl false, D.bl false, D.bl false, D.bl false, D.bl false, D.bl false, D.bl false, D.bl false] = some 6 := by simp [place]
  ((try simp only [wset, ne_eq, decide_true, decide_false, Nat.reduceAdd, Nat.reduceSub, Nat.reduceLeDiff, reduceIte, d__law_marks_9, hp]); (repeat ((with_reducible refine And.intro ?_ ?_); (focus ((first | omega | decide | rfl | (simp only [lset]; omega) | (simp only [lset, wset]; done)))); (try simp only [wset, ne_eq, decide_true, decide_false, Nat.reduceAdd, Nat.reduceSub, Nat.reduceLeDiff, reduceIte, d__law_marks_9, hp]))))
  exact hV

theorem mk_8 (d : D) (S : List D) : fn__law_marks [.exn 8 [d]] S = .ok (false, .int 7) [] S := by
  refine fn_run_eq fun q hV _ => ?_
  show Run (d__law_marks [vD (.exn 8 [d]), none, none] S) q
  unfold d__law_marks
  ((first | (with_reducible refine run_seq ?_) | refine run_next ?_); (try simp only [wset, ne_eq, decide_true, decide_false, Nat.reduceAdd, Nat.reduceSub, Nat.reduceLeDiff, reduceIte, d__law_marks_1]); (repeat ((with_reducible refine And.intro ?_ ?_); (focus ((first | omega | decide | rfl | (simp only [lset]; omega) | (simp only [lset, wset]; done)))); (try simp only [wset, ne_eq, decide_true, decide_false, Nat.reduceAdd, Nat.reduceSub, Nat.reduceLeDiff, reduceIte, d__law_marks_1]))))
  ((first | (with_reducible refine run_seq ?_) | refine run_next ?_); (try simp only [wset, ne_eq, decide_true, decide_false, Nat.reduceAdd, Nat.reduceSub, Nat.reduceLeDiff, reduceIte, d__law_marks_2]); (repeat ((with_reducible refine And.intro ?_ ?_); (focus ((first | omega | decide | rfl | (simp only [lset]; omega) | (simp only [lset, wset]; done)))); (try simp only [wset, ne_eq, decide_true, decide_false, Nat.reduceAdd, Nat.reduceSub, Nat.reduceLeDiff, reduceIte, d__law_marks_2]))))
  ((first | (with_reducible refine run_seq ?_) | refine run_next ?_); (try simp only [wset, ne_eq, decide_true, decide_false, Nat.reduceAdd, Nat.reduceSub, Nat.reduceLeDiff, reduceIte, d__law_marks_3]); (repeat ((with_reducible refine And.intro ?_ ?_); (focus ((first | omega | decide | rfl | (simp only [lset]; omega) | (simp only [lset, wset]; done)))); (try simp only [wset, ne_eq, decide_true, decide_false, Nat.reduceAdd, Nat.reduceSub, Nat.reduceLeDiff, reduceIte, d__law_marks_3]))))
  ((first | (with_reducible refine run_seq ?_) | refine run_next ?_); (try simp only [wset, ne_eq, decide_true, decide_false, Nat.reduceAdd, Nat.reduceSub, Nat.reduceLeDiff, reduceIte, d__law_marks_4]); (repeat ((with_reducible refine And.intro ?_ ?_); (focus ((first | omega | decide | rfl | (simp only [lset]; omega) | (simp only [lset, wset]; done)))); (try simp only [wset, ne_eq, decide_true, decide_false, Nat.reduceAdd, Nat.reduceSub, Nat.reduceLeDiff, reduceIte, d__law_marks_4]))))
  ((first | (with_reducible refine run_seq ?_) | refine run_next ?_); (try simp only [wset, ne_eq, decide_true, decide_false, Nat.reduceAdd, Nat.reduceSub, Nat.reduceLeDiff, reduceIte, d__law_marks_5]); (repeat ((with_reducible refine And.intro ?_ ?_); (focus ((first | omega | decide | rfl | (simp only [lset]; omega) | (simp only [lset, wset]; done)))); (try simp only [wset, ne_eq, decide_true, decide_false, Nat.reduceAdd, Nat.reduceSub, Nat.reduceLeDiff, reduceIte, d__law_marks_5]))))
  refine run_seq ?_
  ((try simp only [wset, ne_eq, decide_true, decide_false, Nat.reduceAdd, Nat.reduceSub, Nat.reduceLeDiff, reduceIte, d__law_marks_7]); (repeat ((with_reducible refine And.intro ?_ ?_); (focus ((first | omega | decide | rfl | (simp only [lset]; omega) | (simp only [lset, wset]; done)))); (try simp only [wset, ne_eq, decide_true, decide_false, Nat.reduceAdd, Nat.reduceSub, Nat.reduceLeDiff, reduceIte, d__law_marks_7]))))
  refine wp_compF D.bl (fun b => b) D.bl [false, false, false, false, false, false, false, true, false, false, false, false, false, false, false] ?_
  ((try simp only [wset, ne_eq, decide_true, decide_false, Nat.reduceAdd, Nat.reduceSub, Nat.reduceLeDiff, reduceIte]); (repeat ((with_reducible refine And.intro ?_ ?_); (focus ((first | omega | decide | rfl | (simp only [lset]; omega) | (simp only [lset, wset]; done)))); (try simp only [wset, ne_eq, decide_true, decide_false, Nat.reduceAdd, Nat.reduceSub, Nat.reduceLeDiff, reduceIte]))))
  refine ⟨fun b _ => ?_, ?_⟩
  · rw [wp_turn]
    cases b <;> ((try simp only [wset, ne_eq, decide_true, decide_false, Nat.reduceAdd, Nat.reduceSub, Nat.reduceLeDiff, reduceIte, wipeR, d__law_marks_K1, d__law_marks_E1]); (repeat ((with_reducible refine And.intro ?_ ?_); (focus ((first | omega | decide | rfl | (simp only [lset]; omega) | (simp only [lset, wset]; done)))); (try simp only [wset, ne_eq, decide_true, decide_false, Nat.reduceAdd, Nat.reduceSub, Nat.reduceLeDiff, reduceIte, wipeR, d__law_marks_K1, d__law_marks_E1]))))
  refine run_seq ?_
  have hp : place (D.bl true) [D.bl false, D.bl false, D.bl false, D.bl false, D.bl false, D.bl false, D.bl false, D.bl true, D.bl false, D.bl false, D.bl false, D.bl false, D.bl false, D.bl false, D.bl false] = some 7 := by simp [place]
  ((try simp only [wset, ne_eq, decide_true, decide_false, Nat.reduceAdd, Nat.reduceSub, Nat.reduceLeDiff, reduceIte, d__law_marks_9, hp]); (repeat ((with_reducible refine And.intro ?_ ?_); (focus ((first | omega | decide | rfl | (simp only [lset]; omega) | (simp only [lset, wset]; done)))); (try simp only [wset, ne_eq, decide_true, decide_false, Nat.reduceAdd, Nat.reduceSub, Nat.reduceLeDiff, reduceIte, d__law_marks_9, hp]))))
  exact hV

theorem mk_9 (d : D) (S : List D) : fn__law_marks [.exn 9 [d]] S = .ok (false, .int 8) [] S := by
  refine fn_run_eq fun q hV _ => ?_
  show Run (d__law_marks [vD (.exn 9 [d]), none, none] S) q
  unfold d__law_marks
  ((first | (with_reducible refine run_seq ?_) | refine run_next ?_); (try simp only [wset, ne_eq, decide_true, decide_false, Nat.reduceAdd, Nat.reduceSub, Nat.reduceLeDiff, reduceIte, d__law_marks_1]); (repeat ((with_reducible refine And.intro ?_ ?_); (focus ((first | omega | decide | rfl | (simp only [lset]; omega) | (simp only [lset, wset]; done)))); (try simp only [wset, ne_eq, decide_true, decide_false, Nat.reduceAdd, Nat.reduceSub, Nat.reduceLeDiff, reduceIte, d__law_marks_1]))))
  ((first | (with_reducible refine run_seq ?_) | refine run_next ?_); (try simp only [wset, ne_eq, decide_true, decide_false, Nat.reduceAdd, Nat.reduceSub, Nat.reduceLeDiff, reduceIte, d__law_marks_2]); (repeat ((with_reducible refine And.intro ?_ ?_); (focus ((first | omega | decide | rfl | (simp only [lset]; omega) | (simp only [lset, wset]; done)))); (try simp only [wset, ne_eq, decide_true, decide_false, Nat.reduceAdd, Nat.reduceSub, Nat.reduceLeDiff, reduceIte, d__law_marks_2]))))
  ((first | (with_reducible refine run_seq ?_) | refine run_next ?_); (try simp only [wset, ne_eq, decide_true, decide_false, Nat.reduceAdd, Nat.reduceSub, Nat.reduceLeDiff, reduceIte, d__law_marks_3]); (repeat ((with_reducible refine And.intro ?_ ?_); (focus ((first | omega | decide | rfl | (simp only [lset]; omega) | (simp only [lset, wset]; done)))); (try simp only [wset, ne_eq, decide_true, decide_false, Nat.reduceAdd, Nat.reduceSub, Nat.reduceLeDiff, reduceIte, d__law_marks_3]))))
  ((first | (with_reducible refine run_seq ?_) | refine run_next ?_); (try simp only [wset, ne_eq, decide_true, decide_false, Nat.reduceAdd, Nat.reduceSub, Nat.reduceLeDiff, reduceIte, d__law_marks_4]); (repeat ((with_reducible refine And.intro ?_ ?_); (focus ((first | omega | decide | rfl | (simp only [lset]; omega) | (simp only [lset, wset]; done)))); (try simp only [wset, ne_eq, decide_true, decide_false, Nat.reduceAdd, Nat.reduceSub, Nat.reduceLeDiff, reduceIte, d__law_marks_4]))))
  ((first | (with_reducible refine run_seq ?_) | refine run_next ?_); (try simp only [wset, ne_eq, decide_true, decide_false, Nat.reduceAdd, Nat.reduceSub, Nat.reduceLeDiff, reduceIte, d__law_marks_5]); (repeat ((with_reducible refine And.intro ?_ ?_); (focus ((first | omega | decide | rfl | (simp only [lset]; omega) | (simp only [lset, wset]; done)))); (try simp only [wset, ne_eq, decide_true, decide_false, Nat.reduceAdd, Nat.reduceSub, Nat.reduceLeDiff, reduceIte, d__law_marks_5]))))
  refine run_seq ?_
  ((try simp only [wset, ne_eq, decide_true, decide_false, Nat.reduceAdd, Nat.reduceSub, Nat.reduceLeDiff, reduceIte, d__law_marks_7]); (repeat ((with_reducible refine And.intro ?_ ?_); (focus ((first | omega | decide | rfl | (simp only [lset]; omega) | (simp only [lset, wset]; done)))); (try simp only [wset, ne_eq, decide_true, decide_false, Nat.reduceAdd, Nat.reduceSub, Nat.reduceLeDiff, reduceIte, d__law_marks_7]))))
  refine wp_compF D.bl (fun b => b) D.bl [false, false, false, false, false, false, false, false, true, false, false, false, false, false, false] ?_
  ((try simp only [wset, ne_eq, decide_true, decide_false, Nat.reduceAdd, Nat.reduceSub, Nat.reduceLeDiff, reduceIte]); (repeat ((with_reducible refine And.intro ?_ ?_); (focus ((first | omega | decide | rfl | (simp only [lset]; omega) | (simp only [lset, wset]; done)))); (try simp only [wset, ne_eq, decide_true, decide_false, Nat.reduceAdd, Nat.reduceSub, Nat.reduceLeDiff, reduceIte]))))
  refine ⟨fun b _ => ?_, ?_⟩
  · rw [wp_turn]
    cases b <;> ((try simp only [wset, ne_eq, decide_true, decide_false, Nat.reduceAdd, Nat.reduceSub, Nat.reduceLeDiff, reduceIte, wipeR, d__law_marks_K1, d__law_marks_E1]); (repeat ((with_reducible refine And.intro ?_ ?_); (focus ((first | omega | decide | rfl | (simp only [lset]; omega) | (simp only [lset, wset]; done)))); (try simp only [wset, ne_eq, decide_true, decide_false, Nat.reduceAdd, Nat.reduceSub, Nat.reduceLeDiff, reduceIte, wipeR, d__law_marks_K1, d__law_marks_E1]))))
  refine run_seq ?_
  have hp : place (D.bl true) [D.bl false, D.bl false, D.bl false, D.bl false, D.bl false, D.bl false, D.bl false, D.bl false, D.bl true, D.bl false, D.bl false, D.bl false, D.bl false, D.bl false, D.bl false] = some 8 := by simp [place]
  ((try simp only [wset, ne_eq, decide_true, decide_false, Nat.reduceAdd, Nat.reduceSub, Nat.reduceLeDiff, reduceIte, d__law_marks_9, hp]); (repeat ((with_reducible refine And.intro ?_ ?_); (focus ((first | omega | decide | rfl | (simp only [lset]; omega) | (simp only [lset, wset]; done)))); (try simp only [wset, ne_eq, decide_true, decide_false, Nat.reduceAdd, Nat.reduceSub, Nat.reduceLeDiff, reduceIte, d__law_marks_9, hp]))))
  exact hV

theorem mk_10 (S : List D) : fn__law_marks [.exn 10 []] S = .ok (false, .int 9) [] S := by
  refine fn_run_eq fun q hV _ => ?_
  show Run (d__law_marks [vD (.exn 10 []), none, none] S) q
  unfold d__law_marks
  ((first | (with_reducible refine run_seq ?_) | refine run_next ?_); (try simp only [wset, ne_eq, decide_true, decide_false, Nat.reduceAdd, Nat.reduceSub, Nat.reduceLeDiff, reduceIte, d__law_marks_1]); (repeat ((with_reducible refine And.intro ?_ ?_); (focus ((first | omega | decide | rfl | (simp only [lset]; omega) | (simp only [lset, wset]; done)))); (try simp only [wset, ne_eq, decide_true, decide_false, Nat.reduceAdd, Nat.reduceSub, Nat.reduceLeDiff, reduceIte, d__law_marks_1]))))
  ((first | (with_reducible refine run_seq ?_) | refine run_next ?_); (try simp only [wset, ne_eq, decide_true, decide_false, Nat.reduceAdd, Nat.reduceSub, Nat.reduceLeDiff, reduceIte, d__law_marks_2]); (repeat ((with_reducible refine And.intro ?_ ?_); (focus ((first | omega | decide | rfl | (simp only [lset]; omega) | (simp only [lset, wset]; done)))); (try simp only [wset, ne_eq, decide_true, decide_false, Nat.reduceAdd, Nat.reduceSub, Nat.reduceLeDiff, reduceIte, d__law_marks_2]))))
  ((first | (with_reducible refine run_seq ?_) | refine run_next ?_); (try simp only [wset, ne_eq, decide_true, decide_false, Nat.reduceAdd, Nat.reduceSub, Nat.reduceLeDiff, reduceIte, d__law_marks_3]); (repeat ((with_reducible refine And.intro ?_ ?_); (focus ((first | omega | decide | rfl | (simp only [lset]; omega) | (simp only [lset, wset]; done)))); (try simp only [wset, ne_eq, decide_true, decide_false, Nat.reduceAdd, Nat.reduceSub, Nat.reduceLeDiff, reduceIte, d__law_marks_3]))))
  ((first | (with_reducible refine run_seq ?_) | refine run_next ?_); (try simp only [wset, ne_eq, decide_true, decide_false, Nat.reduceAdd, Nat.reduceSub, Nat.reduceLeDiff, reduceIte, d__law_marks_4]); (repeat ((with_reducible refine And.intro ?_ ?_); (focus ((first | omega | decide | rfl | (simp only [lset]; omega) | (simp only [lset, wset]; done)))); (try simp only [wset, ne_eq, decide_true, decide_false, Nat.reduceAdd, Nat.reduceSub, Nat.reduceLeDiff, reduceIte, d__law_marks_4]))))
  ((first | (with_reducible refine run_seq ?_) | refine run_next ?_); (try simp only [wset, ne_eq, decide_true, decide_false, Nat.reduceAdd, Nat.reduceSub, Nat.reduceLeDiff, reduceIte, d__law_marks_5]); (repeat ((with_reducible refine And.intro ?_ ?_); (focus ((first | omega | decide | rfl | (simp only [lset]; omega) | (simp only [lset, wset]; done)))); (try simp only [wset, ne_eq, decide_true, decide_false, Nat.reduceAdd, Nat.reduceSub, Nat.reduceLeDiff, reduceIte, d__law_marks_5]))))
  refine run_seq ?_
  ((try simp only [wset, ne_eq, decide_true, decide_false, Nat.reduceAdd, Nat.reduceSub, Nat.reduceLeDiff, reduceIte, d__law_marks_7]); (repeat ((with_reducible refine And.intro ?_ ?_); (focus ((first | omega | decide | rfl | (simp only [lset]; omega) | (simp only [lset, wset]; done)))); (try simp only [wset, ne_eq, decide_true, decide_false, Nat.reduceAdd, Nat.reduceSub, Nat.reduceLeDiff, reduceIte, d__law_marks_7]))))
  refine wp_compF D.bl (fun b => b) D.bl [false, false, false, false, false, false, false, false, false, true, false, false, false, false, false] ?_
  ((try simp only [wset, ne_eq, decide_true, decide_false, Nat.reduceAdd, Nat.reduceSub, Nat.reduceLeDiff, reduceIte]); (repeat ((with_reducible refine And.intro ?_ ?_); (focus ((first | omega | decide | rfl | (simp only [lset]; omega) | (simp only [lset, wset]; done)))); (try simp only [wset, ne_eq, decide_true, decide_false, Nat.reduceAdd, Nat.reduceSub, Nat.reduceLeDiff, reduceIte]))))
  refine ⟨fun b _ => ?_, ?_⟩
  · rw [wp_turn]
    cases b <;> ((try simp only [wset, ne_eq, decide_true, decide_false, Nat.reduceAdd, Nat.reduceSub, Nat.reduceLeDiff, reduceIte, wipeR, d__law_marks_K1, d__law_marks_E1]); (repeat ((with_reducible refine And.intro ?_ ?_); (focus ((first | omega | decide | rfl | (simp only [lset]; omega) | (simp only [lset, wset]; done)))); (try simp only [wset, ne_eq, decide_true, decide_false, Nat.reduceAdd, Nat.reduceSub, Nat.reduceLeDiff, reduceIte, wipeR, d__law_marks_K1, d__law_marks_E1]))))
  refine run_seq ?_
  have hp : place (D.bl true) [D.bl false, D.bl false, D.bl false, D.bl false, D.bl false, D.bl false, D.bl false, D.bl false, D.bl false, D.bl true, D.bl false, D.bl false, D.bl false, D.bl false, D.bl false] = some 9 := by simp [place]
  ((try simp only [wset, ne_eq, decide_true, decide_false, Nat.reduceAdd, Nat.reduceSub, Nat.reduceLeDiff, reduceIte, d__law_marks_9, hp]); (repeat ((with_reducible refine And.intro ?_ ?_); (focus ((first | omega | decide | rfl | (simp only [lset]; omega) | (simp only [lset, wset]; done)))); (try simp only [wset, ne_eq, decide_true, decide_false, Nat.reduceAdd, Nat.reduceSub, Nat.reduceLeDiff, reduceIte, d__law_marks_9, hp]))))
  exact hV

theorem mk_11 (S : List D) : fn__law_marks [.exn 11 []] S = .ok (false, .int 10) [] S := by
  refine fn_run_eq fun q hV _ => ?_
  show Run (d__law_marks [vD (.exn 11 []), none, none] S) q
  unfold d__law_marks
  ((first | (with_reducible refine run_seq ?_) | refine run_next ?_); (try simp only [wset, ne_eq, decide_true, decide_false, Nat.reduceAdd, Nat.reduceSub, Nat.reduceLeDiff, reduceIte, d__law_marks_1]); (repeat ((with_reducible refine And.intro ?_ ?_); (focus ((first | omega | decide | rfl | (simp only [lset]; omega) | (simp only [lset, wset]; done)))); (try simp only [wset, ne_eq, decide_true, decide_false, Nat.reduceAdd, Nat.reduceSub, Nat.reduceLeDiff, reduceIte, d__law_marks_1]))))
  ((first | (with_reducible refine run_seq ?_) | refine run_next ?_); (try simp only [wset, ne_eq, decide_true, decide_false, Nat.reduceAdd, Nat.reduceSub, Nat.reduceLeDiff, reduceIte, d__law_marks_2]); (repeat ((with_reducible refine And.intro ?_ ?_); (focus ((first | omega | decide | rfl | (simp only [lset]; omega) | (simp only [lset, wset]; done)))); (try simp only [wset, ne_eq, decide_true, decide_false, Nat.reduceAdd, Nat.reduceSub, Nat.reduceLeDiff, reduceIte, d__law_marks_2]))))
  ((first | (with_reducible refine run_seq ?_) | refine run_next ?_); (try simp only [wset, ne_eq, decide_true, decide_false, Nat.reduceAdd, Nat.reduceSub, Nat.reduceLeDiff, reduceIte, d__law_marks_3]); (repeat ((with_reducible refine And.intro ?_ ?_); (focus ((first | omega | decide | rfl | (simp only [lset]; omega) | (simp only [lset, wset]; done)))); (try simp only [wset, ne_eq, decide_true, decide_false, Nat.reduceAdd, Nat.reduceSub, Nat.reduceLeDiff, reduceIte, d__law_marks_3]))))
  ((first | (with_reducible refine run_seq ?_) | refine run_next ?_); (try simp only [wset, ne_eq, decide_true, decide_false, Nat.reduceAdd, Nat.reduceSub, Nat.reduceLeDiff, reduceIte, d__law_marks_4]); (repeat ((with_reducible refine And.intro ?_ ?_); (focus ((first | omega | decide | rfl | (simp only [lset]; omega) | (simp only [lset, wset]; done)))); (try simp only [wset, ne_eq, decide_true, decide_false, Nat.reduceAdd, Nat.reduceSub, Nat.reduceLeDiff, reduceIte, d__law_marks_4]))))
  ((first | (with_reducible refine run_seq ?_) | refine run_next ?_); (try simp only [wset, ne_eq, decide_true, decide_false, Nat.reduceAdd, Nat.reduceSub, Nat.reduceLeDiff, reduceIte, d__law_marks_5]); (repeat ((with_reducible refine And.intro ?_ ?_); (focus ((first | omega | decide | rfl | (simp only [lset]; omega) | (simp only [lset, wset]; done)))); (try simp only [wset, ne_eq, decide_true, decide_false, Nat.reduceAdd, Nat.reduceSub, Nat.reduceLeDiff, reduceIte, d__law_marks_5]))))
  refine run_seq ?_
  ((try simp only [wset, ne_eq, decide_true, decide_false, Nat.reduceAdd, Nat.reduceSub, Nat.reduceLeDiff, reduceIte, d__law_marks_7]); (repeat ((with_reducible refine And.intro ?_ ?_); (focus ((first | omega | decide | rfl | (simp only [lset]; omega) | (simp only [lset, wset]; done)))); (try simp only [wset, ne_eq, decide_true, decide_false, Nat.reduceAdd, Nat.reduceSub, Nat.reduceLeDiff, reduceIte, d__law_marks_7]))))
  refine wp_compF D.bl (fun b => b) D.bl [false, false, false, false, false, false, false, false, false, false, true, false, false, false, false] ?_
  ((try simp only [wset, ne_eq, decide_true, decide_false, Nat.reduceAdd, Nat.reduceSub, Nat.reduceLeDiff, reduceIte]); (repeat ((with_reducible refine And.intro ?_ ?_); (focus ((first | omega | decide | rfl | (simp only [lset]; omega) | (simp only [lset, wset]; done)))); (try simp only [wset, ne_eq, decide_true, decide_false, Nat.reduceAdd, Nat.reduceSub, Nat.reduceLeDiff, reduceIte]))))
  refine ⟨fun b _ => ?_, ?_⟩
  · rw [wp_turn]
    cases b <;> ((try simp only [wset, ne_eq, decide_true, decide_false, Nat.reduceAdd, Nat.reduceSub, Nat.reduceLeDiff, reduceIte, wipeR, d__law_marks_K1, d__law_marks_E1]); (repeat ((with_reducible refine And.intro ?_ ?_); (focus ((first | omega | decide | rfl | (simp only [lset]; omega) | (simp only [lset, wset]; done)))); (try simp only [wset, ne_eq, decide_true, decide_false, Nat.reduceAdd, Nat.reduceSub, Nat.reduceLeDiff, reduceIte, wipeR, d__law_marks_K1, d__law_marks_E1]))))
  refine run_seq ?_
  have hp : place (D.bl true) [D.bl false, D.bl false, D.bl false, D.bl false, D.bl false, D.bl false, D.bl false, D.bl false, D.bl false, D.bl false, D.bl true, D.bl false, D.bl false, D.bl false, D.bl false] = some 10 := by simp [place]
  ((try simp only [wset, ne_eq, decide_true, decide_false, Nat.reduceAdd, Nat.reduceSub, Nat.reduceLeDiff, reduceIte, d__law_marks_9, hp]); (repeat ((with_reducible refine And.intro ?_ ?_); (focus ((first | omega | decide | rfl | (simp only [lset]; omega) | (simp only [lset, wset]; done)))); (try simp only [wset, ne_eq, decide_true, decide_false, Nat.reduceAdd, Nat.reduceSub, Nat.reduceLeDiff, reduceIte, d__law_marks_9, hp]))))
  exact hV

theorem mk_12 (d : D) (S : List D) : fn__law_marks [.exn 12 [d]] S = .ok (false, .int 11) [] S := by
  refine fn_run_eq fun q hV _ => ?_
  show Run (d__law_marks [vD (.exn 12 [d]), none, none] S) q
  unfold d__law_marks
  ((first | (with_reducible refine run_seq ?_) | refine run_next ?_); (try simp only [wset, ne_eq, decide_true, decide_false, Nat.reduceAdd, Nat.reduceSub, Nat.reduceLeDiff, reduceIte, d__law_marks_1]); (repeat ((with_reducible refine And.intro ?_ ?_); (focus ((first | omega | decide | rfl | (simp only [lset]; omega) | (simp only [lset, wset]; done)))); (try simp only [wset, ne_eq, decide_true, decide_false, Nat.reduceAdd, Nat.reduceSub, Nat.reduceLeDiff, reduceIte, d__law_marks_1]))))
  ((first | (with_reducible refine run_seq ?_) | refine run_next ?_); (try simp only [wset, ne_eq, decide_true, decide_false, Nat.reduceAdd, Nat.reduceSub, Nat.reduceLeDiff, reduceIte, d__law_marks_2]); (repeat ((with_reducible refine And.intro ?_ ?_); (focus ((first | omega | decide | rfl | (simp only [lset]; omega) | (simp only [lset, wset]; done)))); (try simp only [wset, ne_eq, decide_true, decide_false, Nat.reduceAdd, Nat.reduceSub, Nat.reduceLeDiff, reduceIte, d__law_marks_2]))))
  ((first | (with_reducible refine run_seq ?_) | refine run_next ?_); (try simp only [wset, ne_eq, decide_true, decide_false, Nat.reduceAdd, Nat.reduceSub, Nat.reduceLeDiff, reduceIte, d__law_marks_3]); (repeat ((with_reducible refine And.intro ?_ ?_); (focus ((first | omega | decide | rfl | (simp only [lset]; omega) | (simp only [lset, wset]; done)))); (try simp only [wset, ne_eq, decide_true, decide_false, Nat.reduceAdd, Nat.reduceSub, Nat.reduceLeDiff, reduceIte, d__law_marks_3]))))
  ((first | (with_reducible refine run_seq ?_) | refine run_next ?_); (try simp only [wset, ne_eq, decide_true, decide_false, Nat.reduceAdd, Nat.reduceSub, Nat.reduceLeDiff, reduceIte, d__law_marks_4]); (repeat ((with_reducible refine And.intro ?_ ?_); (focus ((first | omega | decide | rfl | (simp only [lset]; omega) | (simp only [lset, wset]; done)))); (try simp only [wset, ne_eq, decide_true, decide_false, Nat.reduceAdd, Nat.reduceSub, Nat.reduceLeDiff, reduceIte, d__law_marks_4]))))
  ((first | (with_reducible refine run_seq ?_) | refine run_next ?_); (try simp only [wset, ne_eq, decide_true, decide_false, Nat.reduceAdd, Nat.reduceSub, Nat.reduceLeDiff, reduceIte, d__law_marks_5]); (repeat ((with_reducible refine And.intro ?_ ?_); (focus ((first | omega | decide | rfl | (simp only [lset]; omega) | (simp only [lset, wset]; done)))); (try simp only [wset, ne_eq, decide_true, decide_false, Nat.reduceAdd, Nat.reduceSub, Nat.reduceLeDiff, reduceIte, d__law_marks_5]))))
  refine run_seq ?_
  ((try simp only [wset, ne_eq, decide_true, decide_false, Nat.reduceAdd, Nat.reduceSub, Nat.reduceLeDiff, reduceIte, d__law_marks_7]); (repeat ((with_reducible refine And.intro ?_ ?_); (focus ((first | omega | decide | rfl | (simp only [lset]; omega) | (simp only [lset, wset]; done)))); (try simp only [wset, ne_eq, decide_true, decide_false, Nat.reduceAdd, Nat.reduceSub, Nat.reduceLeDiff, reduceIte, d__law_marks_7]))))
  refine wp_compF D.bl (fun b => b) D.bl [false, false, false, false, false, false, false, false, false, false, false, true, false, false, false] ?_
  ((try simp only [wset, ne_eq, decide_true, decide_false, Nat.reduceAdd, Nat.reduceSub, Nat.reduceLeDiff, reduceIte]); (repeat ((with_reducible refine And.intro ?_ ?_); (focus ((first | omega | decide | rfl | (simp only [lset]; omega) | (simp only [lset, wset]; done)))); (try simp only [wset, ne_eq, decide_true, decide_false, Nat.reduceAdd, Nat.reduceSub, Nat.reduceLeDiff, reduceIte]))))
  refine ⟨fun b _ => ?_, ?_⟩
  · rw [wp_turn]
    cases b <;> ((try simp only [wset, ne_eq, decide_true, decide_false, Nat.reduceAdd, Nat.reduceSub, Nat.reduceLeDiff, reduceIte, wipeR, d__law_marks_K1, d__law_marks_E1]); (repeat ((with_reducible refine And.intro ?_ ?_); (focus ((first | omega | decide | rfl | (simp only [lset]; omega) | (simp only [lset, wset]; done)))); (try simp only [wset, ne_eq, decide_true, decide_false, Nat.reduceAdd, Nat.reduceSub, Nat.reduceLeDiff, reduceIte, wipeR, d__law_marks_K1, d__law_marks_E1]))))
  refine run_seq ?_
  have hp : place (D.bl true) [D.bl false, D.bl false, D.bl false, D.bl false, D.bl false, D.bl false, D.bl false, D.bl false, D.bl false, D.bl false, D.bl false, D.bl true, D.bl false, D.bl false, D.bl false] = some 11 := by simp [place]
  ((try simp only [wset, ne_eq, decide_true, decide_false, Nat.reduceAdd, Nat.reduceSub, Nat.reduceLeDiff, reduceIte, d__law_marks_9, hp]); (repeat ((with_reducible refine And.intro ?_ ?_); (focus ((first | omega | decide | rfl | (simp only [lset]; omega) | (simp only [lset, wset]; done)))); (try simp only [wset, ne_eq, decide_true, decide_false, Nat.reduceAdd, Nat.reduceSub, Nat.reduceLeDiff, reduceIte, d__law_marks_9, hp]))))
  exact hV

theorem mk_13 (S : List D) : fn__law_marks [.exn 13 []] S = .ok (false, .int 12) [] S := by
  refine fn_run_eq fun q hV _ => ?_
  show Run (d__law_marks [vD (.exn 13 []), none, none] S) q
  unfold d__law_marks
  ((first | (with_reducible refine run_seq ?_) | refine run_next ?_); (try simp only [wset, ne_eq, decide_true, decide_false, Nat.reduceAdd, Nat.reduceSub, Nat.reduceLeDiff, reduceIte, d__law_marks_1]); (repeat ((with_reducible refine And.intro ?_ ?_); (focus ((first | omega | decide | rfl | (simp only [lset]; omega) | (simp only [lset, wset]; done)))); (try simp only [wset, ne_eq, decide_true, decide_false, Nat.reduceAdd, Nat.reduceSub, Nat.reduceLeDiff, reduceIte, d__law_marks_1]))))
  ((first | (with_reducible refine run_seq ?_) | refine run_next ?_); (try simp only [wset, ne_eq, decide_true, decide_false, Nat.reduceAdd, Nat.reduceSub, Nat.reduceLeDiff, reduceIte, d__law_marks_2]); (repeat ((with_reducible refine And.intro ?_ ?_); (focus ((first | omega | decide | rfl | (simp only [lset]; omega) | (simp only [lset, wset]; done)))); (try simp only [wset, ne_eq, decide_true, decide_false, Nat.reduceAdd, Nat.reduceSub, Nat.reduceLeDiff, reduceIte, d__law_marks_2]))))
  ((first | (with_reducible refine run_seq ?_) | refine run_next ?_); (try simp only [wset, ne_eq, decide_true, decide_false, Nat.reduceAdd, Nat.reduceSub, Nat.reduceLeDiff, reduceIte, d__law_marks_3]); (repeat ((with_reducible refine And.intro ?_ ?_); (focus ((first | omega | decide | rfl | (simp only [lset]; omega) | (simp only [lset, wset]; done)))); (try simp only [wset, ne_eq, decide_true, decide_false, Nat.reduceAdd, Nat.reduceSub, Nat.reduceLeDiff, reduceIte, d__law_marks_3]))))
  ((first | (with_reducible refine run_seq ?_) | refine run_next ?_); (try simp only [wset, ne_eq, decide_true, decide_false, Nat.reduceAdd, Nat.reduceSub, Nat.reduceLeDiff, reduceIte, d__law_marks_4]); (repeat ((with_reducible refine And.intro ?_ ?_); (focus ((first | omega | decide | rfl | (simp only [lset]; omega) | (simp only [lset, wset]; done)))); (try simp only [wset, ne_eq, decide_true, decide_false, Nat.reduceAdd, Nat.reduceSub, Nat.reduceLeDiff, reduceIte, d__law_marks_4]))))
  ((first | (with_reducible refine run_seq ?_) | refine run_next ?_); (try simp only [wset, ne_eq, decide_true, decide_false, Nat.reduceAdd, Nat.reduceSub, Nat.reduceLeDiff, reduceIte, d__law_marks_5]); (repeat ((with_reducible refine And.intro ?_ ?_); (focus ((first | omega | decide | rfl | (simp only [lset]; omega) | (simp only [lset, wset]; done)))); (try simp only [wset, ne_eq, decide_true, decide_false, Nat.reduceAdd, Nat.reduceSub, Nat.reduceLeDiff, reduceIte, d__law_marks_5]))))
  refine run_seq ?_
  ((try simp only [wset, ne_eq, decide_true, decide_false, Nat.reduceAdd, Nat.reduceSub, Nat.reduceLeDiff, reduceIte, d__law_marks_7]); (repeat ((with_reducible refine And.intro ?_ ?_); (focus ((first | omega | decide | rfl | (simp only [lset]; omega) | (simp only [lset, wset]; done)))); (try simp only [wset, ne_eq, decide_true, decide_false, Nat.reduceAdd, Nat.reduceSub, Nat.reduceLeDiff, reduceIte, d__law_marks_7]))))
  refine wp_compF D.bl (fun b => b) D.bl [false, false, false, false, false, false, false, false, false, false, false, false, true, false, false] ?_
  ((try simp only [wset, ne_eq, decide_true, decide_false, Nat.reduceAdd, Nat.reduceSub, Nat.reduceLeDiff, reduceIte]); (repeat ((with_reducible refine And.intro ?_ ?_); (focus ((first | omega | decide | rfl | (simp only [lset]; omega) | (simp only [lset, wset]; done)))); (try simp only [wset, ne_eq, decide_true, decide_false, Nat.reduceAdd, Nat.reduceSub, Nat.reduceLeDiff, reduceIte]))))
  refine ⟨fun b _ => ?_, ?_⟩
  · rw [wp_turn]
    cases b <;> ((try simp only [wset, ne_eq, decide_true, decide_false, Nat.reduceAdd, Nat.reduceSub, Nat.reduceLeDiff, reduceIte, wipeR, d__law_marks_K1, d__law_marks_E1]); (repeat ((with_reducible refine And.intro ?_ ?_); (focus ((first | omega | decide | rfl | (simp only [lset]; omega) | (simp only [lset, wset]; done)))); (try simp only [wset, ne_eq, decide_true, decide_false, Nat.reduceAdd, Nat.reduceSub, Nat.reduceLeDiff, reduceIte, wipeR, d__law_marks_K1, d__law_marks_E1]))))
  refine run_seq ?_
  have hp : place (D.bl true) [D.bl false, D.bl false, D.bl false, D.bl false, D.bl false, D.bl false, D.bl false, D.bl false, D.bl false, D.bl false, D.bl false, D.bl false, D.bl true, D.bl false, D.bl false] = some 12 := by simp [place]
  ((try simp only [wset, ne_eq, decide_true, decide_false, Nat.reduceAdd, Nat.reduceSub, Nat.reduceLeDiff, reduceIte, d__law_marks_9, hp]); (repeat ((with_reducible refine And.intro ?_ ?_); (focus ((first | omega | decide | rfl | (simp only [lset]; omega) | (simp only [lset, wset]; done)))); (try simp only [wset, ne_eq, decide_true, decide_false, Nat.reduceAdd, Nat.reduceSub, Nat.reduceLeDiff, reduceIte, d__law_marks_9, hp]))))
  exact hV

theorem mk_14 (S : List D) : fn__law_marks [.exn 14 []] S = .ok (false, .int 13) [] S := by
  refine fn_run_eq fun q hV _ => ?_
  show Run (d__law_marks [vD (.exn 14 []), none, none] S) q
  unfold d__law_marks
  ((first | (with_reducible refine run_seq ?_) | refine run_next ?_); (try simp only [wset, ne_eq, decide_true, decide_false, Nat.reduceAdd, Nat.reduceSub, Nat.reduceLeDiff, reduceIte, d__law_marks_1]); (repeat ((with_reducible refine And.intro ?_ ?_); (focus ((first | omega | decide | rfl | (simp only [lset]; omega) | (simp only [lset, wset]; done)))); (try simp only [wset, ne_eq, decide_true, decide_false, Nat.reduceAdd, Nat.reduceSub, Nat.reduceLeDiff, reduceIte, d__law_marks_1]))))
  ((first | (with_reducible refine run_seq ?_) | refine run_next ?_); (try simp only [wset, ne_eq, decide_true, decide_false, Nat.reduceAdd, Nat.reduceSub, Nat.reduceLeDiff, reduceIte, d__law_marks_2]); (repeat ((with_reducible refine And.intro ?_ ?_); (focus ((first | omega | decide | rfl | (simp only [lset]; omega) | (simp only [lset, wset]; done)))); (try simp only [wset, ne_eq, decide_true, decide_false, Nat.reduceAdd, Nat.reduceSub, Nat.reduceLeDiff, reduceIte, d__law_marks_2]))))
  ((first | (with_reducible refine run_seq ?_) | refine run_next ?_); (try simp only [wset, ne_eq, decide_true, decide_false, Nat.reduceAdd, Nat.reduceSub, Nat.reduceLeDiff, reduceIte, d__law_marks_3]); (repeat ((with_reducible refine And.intro ?_ ?_); (focus ((first | omega | decide | rfl | (simp only [lset]; omega) | (simp only [lset, wset]; done)))); (try simp only [wset, ne_eq, decide_true, decide_false, Nat.reduceAdd, Nat.reduceSub, Nat.reduceLeDiff, reduceIte, d__law_marks_3]))))
  ((first | (with_reducible refine run_seq ?_) | refine run_next ?_); (try simp only [wset, ne_eq, decide_true, decide_false, Nat.reduceAdd, Nat.reduceSub, Nat.reduceLeDiff, reduceIte, d__law_marks_4]); (repeat ((with_reducible refine And.intro ?_ ?_); (focus ((first | omega | decide | rfl | (simp only [lset]; omega) | (simp only [lset, wset]; done)))); (try simp only [wset, ne_eq, decide_true, decide_false, Nat.reduceAdd, Nat.reduceSub, Nat.reduceLeDiff, reduceIte, d__law_marks_4]))))
  ((first | (with_reducible refine run_seq ?_) | refine run_next ?_); (try simp only [wset, ne_eq, decide_true, decide_false, Nat.reduceAdd, Nat.reduceSub, Nat.reduceLeDiff, reduceIte, d__law_marks_5]); (repeat ((with_reducible refine And.intro ?_ ?_); (focus ((first | omega | decide | rfl | (simp only [lset]; omega) | (simp only [lset, wset]; done)))); (try simp only [wset, ne_eq, decide_true, decide_false, Nat.reduceAdd, Nat.reduceSub, Nat.reduceLeDiff, reduceIte, d__law_marks_5]))))
  refine run_seq ?_
  ((try simp only [wset, ne_eq, decide_true, decide_false, Nat.reduceAdd, Nat.reduceSub, Nat.reduceLeDiff, reduceIte, d__law_marks_7]); (repeat ((with_reducible refine And.intro ?_ ?_); (focus ((first | omega | decide | rfl | (simp only [lset]; omega) | (simp only [lset, wset]; done)))); (try simp only [wset, ne_eq, decide_true, decide_false, Nat.reduceAdd, Nat.reduceSub, Nat.reduceLeDiff, reduceIte, d__law_marks_7]))))
  refine wp_compF D.bl (fun b => b) D.bl [false, false, false, false, false, false, false, false, false, false, false, false, false, true, false] ?_
  ((try simp only [wset, ne_eq, decide_true, decide_false, Nat.reduceAdd, Nat.reduceSub, Nat.reduceLeDiff, reduceIte]); (repeat ((with_reducible refine And.intro ?_ ?_); (focus ((first | omega | decide | rfl | (simp only [lset]; omega) | (simp only [lset, wset]; done)))); (try simp only [wset, ne_eq, decide_true, decide_false, Nat.reduceAdd, Nat.reduceSub, Nat.reduceLeDiff, reduceIte]))))
  refine ⟨fun b _ => ?_, ?_⟩
  · rw [wp_turn]
    cases b <;> ((try simp only [wset, ne_eq, decide_true, decide_false, Nat.reduceAdd, Nat.reduceSub, Nat.reduceLeDiff, reduceIte, wipeR, d__law_marks_K1, d__law_marks_E1]); (repeat ((with_reducible refine And.intro ?_ ?_); (focus ((first | omega | decide | rfl | (simp only [lset]; omega) | (simp only [lset, wset]; done)))); (try simp only [wset, ne_eq, decide_true, decide_false, Nat.reduceAdd, Nat.reduceSub, Nat.reduceLeDiff, reduceIte, wipeR, d__law_marks_K1, d__law_marks_E1]))))
  refine run_seq ?_
  have hp : place (D.bl true) [D.bl false, D.bl false, D.bl false, D.bl false, D.bl false, D.bl false, D.bl false, D.bl false, D.bl false, D.bl false, D.bl false, D.bl false, D.bl false, D.bl true, D.bl false] = some 13 := by simp [place]
  ((try simp only [wset, ne_eq, decide_true, decide_false, Nat.reduceAdd, Nat.reduceSub, Nat.reduceLeDiff, reduceIte, d__law_marks_9, hp]); (repeat ((with_reducible refine And.intro ?_ ?_); (focus ((first | omega | decide | rfl | (simp only [lset]; omega) | (simp only [lset, wset]; done)))); (try simp only [wset, ne_eq, decide_true, decide_false, Nat.reduceAdd, Nat.reduceSub, Nat.reduceLeDiff, reduceIte, d__law_marks_9, hp]))))
  exact hV

theorem mk_15 (S : List D) : fn__law_marks [.exn 15 []] S = .ok (false, .int 14) [] S := by
  refine fn_run_eq fun q hV _ => ?_
  show Run (d__law_marks [vD (.exn 15 []), none, none] S) q
  unfold d__law_marks
  ((first | (with_reducible refine run_seq ?_) | refine run_next ?_); (try simp only [wset, ne_eq, decide_true, decide_false, Nat.reduceAdd, Nat.reduceSub, Nat.reduceLeDiff, reduceIte, d__law_marks_1]); (repeat ((with_reducible refine And.intro ?_ ?_); (focus ((first | omega | decide | rfl | (simp only [lset]; omega) | (simp only [lset, wset]; done)))); (try simp only [wset, ne_eq, decide_true, decide_false, Nat.reduceAdd, Nat.reduceSub, Nat.reduceLeDiff, reduceIte, d__law_marks_1]))))
  ((first | (with_reducible refine run_seq ?_) | refine run_next ?_); (try simp only [wset, ne_eq, decide_true, decide_false, Nat.reduceAdd, Nat.reduceSub, Nat.reduceLeDiff, reduceIte, d__law_marks_2]); (repeat ((with_reducible refine And.intro ?_ ?_); (focus ((first | omega | decide | rfl | (simp only [lset]; omega) | (simp only [lset, wset]; done)))); (try simp only [wset, ne_eq, decide_true, decide_false, Nat.reduceAdd, Nat.reduceSub, Nat.reduceLeDiff, reduceIte, d__law_marks_2]))))
  ((first | (with_reducible refine run_seq ?_) | refine run_next ?_); (try simp only [wset, ne_eq, decide_true, decide_false, Nat.reduceAdd, Nat.reduceSub, Nat.reduceLeDiff, reduceIte, d__law_marks_3]); (repeat ((with_reducible refine And.intro ?_ ?_); (focus ((first | omega | decide | rfl | (simp only [lset]; omega) | (simp only [lset, wset]; done)))); (try simp only [wset, ne_eq, decide_true, decide_false, Nat.reduceAdd, Nat.reduceSub, Nat.reduceLeDiff, reduceIte, d__law_marks_3]))))
  ((first | (with_reducible refine run_seq ?_) | refine run_next ?_); (try simp only [wset, ne_eq, decide_true, decide_false, Nat.reduceAdd, Nat.reduceSub, Nat.reduceLeDiff, reduceIte, d__law_marks_4]); (repeat ((with_reducible refine And.intro ?_ ?_); (focus ((first | omega | decide | rfl | (simp only [lset]; omega) | (simp only [lset, wset]; done)))); (try simp only [wset, ne_eq, decide_true, decide_false, Nat.reduceAdd, Nat.reduceSub, Nat.reduceLeDiff, reduceIte, d__law_marks_4]))))
  ((first | (with_reducible refine run_seq ?_) | refine run_next ?_); (try simp only [wset, ne_eq, decide_true, decide_false, Nat.reduceAdd, Nat.reduceSub, Nat.reduceLeDiff, reduceIte, d__law_marks_5]); (repeat ((with_reducible refine And.intro ?_ ?_); (focus ((first | omega | decide | rfl | (simp only [lset]; omega) | (simp only [lset, wset]; done)))); (try simp only [wset, ne_eq, decide_true, decide_false, Nat.reduceAdd, Nat.reduceSub, Nat.reduceLeDiff, reduceIte, d__law_marks_5]))))
  refine run_seq ?_
  ((try simp only [wset, ne_eq, decide_true, decide_false, Nat.reduceAdd, Nat.reduceSub, Nat.reduceLeDiff, reduceIte, d__law_marks_7]); (repeat ((with_reducible refine And.intro ?_ ?_); (focus ((first | omega | decide | rfl | (simp only [lset]; omega) | (simp only [lset, wset]; done)))); (try simp only [wset, ne_eq, decide_true, decide_false, Nat.reduceAdd, Nat.reduceSub, Nat.reduceLeDiff, reduceIte, d__law_marks_7]))))
  refine wp_compF D.bl (fun b => b) D.bl [false, false, false, false, false, false, false, false, false, false, false, false, false, false, true] ?_
  ((try simp only [wset, ne_eq, decide_true, decide_false, Nat.reduceAdd, Nat.reduceSub, Nat.reduceLeDiff, reduceIte]); (repeat ((with_reducible refine And.intro ?_ ?_); (focus ((first | omega | decide | rfl | (simp only [lset]; omega) | (simp only [lset, wset]; done)))); (try simp only [wset, ne_eq, decide_true, decide_false, Nat.reduceAdd, Nat.reduceSub, Nat.reduceLeDiff, reduceIte]))))
  refine ⟨fun b _ => ?_, ?_⟩
  · rw [wp_turn]
    cases b <;> ((try simp only [wset, ne_eq, decide_true, decide_false, Nat.reduceAdd, Nat.reduceSub, Nat.reduceLeDiff, reduceIte, wipeR, d__law_marks_K1, d__law_marks_E1]); (repeat ((with_reducible refine And.intro ?_ ?_); (focus ((first | omega | decide | rfl | (simp only [lset]; omega) | (simp only [lset, wset]; done)))); (try simp only [wset, ne_eq, decide_true, decide_false, Nat.reduceAdd, Nat.reduceSub, Nat.reduceLeDiff, reduceIte, wipeR, d__law_marks_K1, d__law_marks_E1]))))
  refine run_seq ?_
  have hp : place (D.bl true) [D.bl false, D.bl false, D.bl false, D.bl false, D.bl false, D.bl false, D.bl false, D.bl false, D.bl false, D.bl false, D.bl false, D.bl false, D.bl false, D.bl false, D.bl true] = some 14 := by simp [place]
  ((try simp only [wset, ne_eq, decide_true, decide_false, Nat.reduceAdd, Nat.reduceSub, Nat.reduceLeDiff, reduceIte, d__law_marks_9, hp]); (repeat ((with_reducible refine And.intro ?_ ?_); (focus ((first | omega | decide | rfl | (simp only [lset]; omega) | (simp only [lset, wset]; done)))); (try simp only [wset, ne_eq, decide_true, decide_false, Nat.reduceAdd, Nat.reduceSub, Nat.reduceLeDiff, reduceIte, d__law_marks_9, hp]))))
  exact hV

def mdX (far : Int) (nm : List Nat) (w : D) : List (Nat × List D) := [(1, [.int far]), (2, []), (3, []), (4, []), (5, []), (6, [.str nm]), (7, [.str nm]), (8, [.str nm]), (9, [.str nm]), (10, []), (11, []), (12, [w]), (13, []), (14, []), (15, [])]
theorem marks_all (far : Int) (nm : List Nat) (w : D) (S : List D) : ∀ p ∈ mdX far nm w, fn__law_marks [.exn p.1 p.2] S = .ok (false, .int ((p.1 : Int) - 1)) [] S := by
  intro p hp
  simp only [mdX, List.mem_cons, List.not_mem_nil, or_false] at hp
  rcases hp with rfl | rfl | rfl | rfl | rfl | rfl | rfl | rfl | rfl | rfl | rfl | rfl | rfl | rfl | rfl
  · exact mk_1 _ S
  · exact mk_2 S
  · exact mk_3 S
  · exact mk_4 S
  · exact mk_5 S
  · exact mk_6 _ S
  · exact mk_7 _ S
  · exact mk_8 _ S
  · exact mk_9 _ S
  · exact mk_10 S
  · exact mk_11 S
  · exact mk_12 _ S
  · exact mk_13 S
  · exact mk_14 S
  · exact mk_15 S
theorem nameB_len {t : List Nat} (h : nameB t = true) : 0 < t.length ∧ t.length ≤ 8 := by
  cases t with
  | nil => cases h
  | cons c r =>
    unfold nameB at h
    rw [Bool.and_eq_true, decide_eq_true_eq] at h
    rw [List.length_cons]
    omega
theorem law_true : ∀ ns : List Int, ns.length ≤ 63 → ∃ ρ S, fn_law [.scr ns] [] = .ok (false, .bl true) ρ S := by
  intro ns hns
  have key : ∃ x S', fn_law [.scr ns] [] = .ok x [] S' ∧ x = (false, .bl true) := fn_run (m := d_law) (S := []) (k := 10) (ds := [.scr ns]) (fun x _ => x = (false, .bl true)) fun q hV _ => by
    show Run (d_law [vZ ns, none, none, none, none, none, none, none, none, none] []) q
    unfold d_law
    refine run_seq ?_
    ((try simp only [wset, ne_eq, decide_true, decide_false, Nat.reduceAdd, Nat.reduceSub, Nat.reduceLeDiff, reduceIte, d_law_1]); (repeat ((with_reducible refine And.intro ?_ ?_); (focus ((first | omega | decide | rfl | (simp only [lset]; omega) | (simp only [lset, wset]; done)))); (try simp only [wset, ne_eq, decide_true, decide_false, Nat.reduceAdd, Nat.reduceSub, Nat.reduceLeDiff, reduceIte, d_law_1]))))
    refine run_for (fun i ρ S' => ∃ (x1 x2 x3 x4 x5 x6 x7 x8 x9 : Sl), ρ = [vZ ns, x1, x2, x3, x4, x5, x6, none, none, none]) ⟨none, none, none, none, none, none, none, none, none, rfl⟩ ?_ ?_
    · rintro i d hd ρ S' ⟨x1, x2, x3, x4, x5, x6, x7, x8, x9, rfl⟩
      obtain ⟨rfl, hi⟩ := rng_at hd
      refine ⟨_, rfl, fun p hN _ hVp _ _ => ?_⟩
      obtain ⟨x, ex⟩ := fn_digits ns i S'
      unfold d_law_L1
      refine run_seq ?_
      ((try simp only [wset, ne_eq, decide_true, decide_false, Nat.reduceAdd, Nat.reduceSub, Nat.reduceLeDiff, reduceIte, d_law_2, ex]); (repeat ((with_reducible refine And.intro ?_ ?_); (focus ((first | omega | decide | rfl | (simp only [lset]; omega) | (simp only [lset, wset]; done)))); (try simp only [wset, ne_eq, decide_true, decide_false, Nat.reduceAdd, Nat.reduceSub, Nat.reduceLeDiff, reduceIte, d_law_2, ex]))))
      rw [ct_new]
      have hn : S'.length < (S' ++ [D.lst [D.int x]]).length := by simp
      generalize S' ++ [D.lst [D.int x]] = U at *
      generalize S'.length = n at *
      refine run_seq ?_
      ((try simp only [wset, ne_eq, decide_true, decide_false, Nat.reduceAdd, Nat.reduceSub, Nat.reduceLeDiff, reduceIte, d_law_3]); (repeat ((with_reducible refine And.intro ?_ ?_); (focus ((first | omega | decide | rfl | (simp only [lset]; omega) | (simp only [lset, wset]; done)))); (try simp only [wset, ne_eq, decide_true, decide_false, Nat.reduceAdd, Nat.reduceSub, Nat.reduceLeDiff, reduceIte, d_law_3]))))
      refine wpF_take hn (by decide) (by decide) fun far y f0 f1 => ?_
      ((try simp only [wset, ne_eq, decide_true, decide_false, Nat.reduceAdd, Nat.reduceSub, Nat.reduceLeDiff, reduceIte]); (repeat ((with_reducible refine And.intro ?_ ?_); (focus ((first | omega | decide | rfl | (simp only [lset]; omega) | (simp only [lset, wset]; done)))); (try simp only [wset, ne_eq, decide_true, decide_false, Nat.reduceAdd, Nat.reduceSub, Nat.reduceLeDiff, reduceIte]))))
      refine run_seq ?_
      ((try simp only [wset, ne_eq, decide_true, decide_false, Nat.reduceAdd, Nat.reduceSub, Nat.reduceLeDiff, reduceIte, d_law_4]); (repeat ((with_reducible refine And.intro ?_ ?_); (focus ((first | omega | decide | rfl | (simp only [lset]; omega) | (simp only [lset, wset]; done)))); (try simp only [wset, ne_eq, decide_true, decide_false, Nat.reduceAdd, Nat.reduceSub, Nat.reduceLeDiff, reduceIte, d_law_4]))))
      refine fn_names13 1 (by omega) y hn fun ts y htl htn => ?_
      obtain ⟨nm, rfl⟩ : ∃ nm, ts = [nm] := by
        match ts, htl with
        | [nm], _ => exact ⟨nm, rfl⟩
      have hnm := htn nm List.mem_cons_self
      obtain ⟨hnm1, hnm2⟩ : 0 < nm.length ∧ nm.length ≤ 8 := nameB_len hnm
      ((try simp only [wset, ne_eq, decide_true, decide_false, Nat.reduceAdd, Nat.reduceSub, Nat.reduceLeDiff, reduceIte]); (repeat ((with_reducible refine And.intro ?_ ?_); (focus ((first | omega | decide | rfl | (simp only [lset]; omega) | (simp only [lset, wset]; done)))); (try simp only [wset, ne_eq, decide_true, decide_false, Nat.reduceAdd, Nat.reduceSub, Nat.reduceLeDiff, reduceIte]))))
      refine run_seq ?_
      ((try simp only [wset, ne_eq, decide_true, decide_false, Nat.reduceAdd, Nat.reduceSub, Nat.reduceLeDiff, reduceIte, d_law_5]); (repeat ((with_reducible refine And.intro ?_ ?_); (focus ((first | omega | decide | rfl | (simp only [lset]; omega) | (simp only [lset, wset]; done)))); (try simp only [wset, ne_eq, decide_true, decide_false, Nat.reduceAdd, Nat.reduceSub, Nat.reduceLeDiff, reduceIte, d_law_5]))))
      refine wpF_take hn (by omega) (by omega) fun a y a0 a1 => ?_
      ((try simp only [wset, ne_eq, decide_true, decide_false, Nat.reduceAdd, Nat.reduceSub, Nat.reduceLeDiff, reduceIte]); (repeat ((with_reducible refine And.intro ?_ ?_); (focus ((first | omega | decide | rfl | (simp only [lset]; omega) | (simp only [lset, wset]; done)))); (try simp only [wset, ne_eq, decide_true, decide_false, Nat.reduceAdd, Nat.reduceSub, Nat.reduceLeDiff, reduceIte]))))
      refine wp_ixP (fun d => ∃ t, d = .str t) a0 (by simp; omega) (allP_mem.mpr fun d hd => by
        simp only [List.mem_cons, List.not_mem_nil, or_false] at hd
        rcases hd with rfl | rfl | rfl <;> exact ⟨_, rfl⟩) fun d hd => ?_
      obtain ⟨t, rfl⟩ := hd
      refine run_seq ?_
      ((try simp only [wset, ne_eq, decide_true, decide_false, Nat.reduceAdd, Nat.reduceSub, Nat.reduceLeDiff, reduceIte, d_law_6, wp_newX0, wp_newX1]); (repeat ((with_reducible refine And.intro ?_ ?_); (focus ((first | omega | decide | rfl | (simp only [lset]; omega) | (simp only [lset, wset]; done)))); (try simp only [wset, ne_eq, decide_true, decide_false, Nat.reduceAdd, Nat.reduceSub, Nat.reduceLeDiff, reduceIte, d_law_6, wp_newX0, wp_newX1]))))
      refine run_seq ?_
      ((try simp only [wset, ne_eq, decide_true, decide_false, Nat.reduceAdd, Nat.reduceSub, Nat.reduceLeDiff, reduceIte, d_law_7, wp_newX0, wp_newX1]); (repeat ((with_reducible refine And.intro ?_ ?_); (focus ((first | omega | decide | rfl | (simp only [lset]; omega) | (simp only [lset, wset]; done)))); (try simp only [wset, ne_eq, decide_true, decide_false, Nat.reduceAdd, Nat.reduceSub, Nat.reduceLeDiff, reduceIte, d_law_7, wp_newX0, wp_newX1]))))
      refine wp_ixS (by omega) (by omega) (by omega) fun ch _ hch => ?_
      ((try simp only [wset, ne_eq, decide_true, decide_false, Nat.reduceAdd, Nat.reduceSub, Nat.reduceLeDiff, reduceIte]); (repeat ((with_reducible refine And.intro ?_ ?_); (focus ((first | omega | decide | rfl | (simp only [lset]; omega) | (simp only [lset, wset]; done)))); (try simp only [wset, ne_eq, decide_true, decide_false, Nat.reduceAdd, Nat.reduceSub, Nat.reduceLeDiff, reduceIte]))))
      generalize hw : D.tup [D.str [ch], _] = w
      refine run_seq ?_
      ((try simp only [wset, ne_eq, decide_true, decide_false, Nat.reduceAdd, Nat.reduceSub, Nat.reduceLeDiff, reduceIte, d_law_8, wp_newX0, wp_newX1]); (repeat ((with_reducible refine And.intro ?_ ?_); (focus ((first | omega | decide | rfl | (simp only [lset]; omega) | (simp only [lset, wset]; done)))); (try simp only [wset, ne_eq, decide_true, decide_false, Nat.reduceAdd, Nat.reduceSub, Nat.reduceLeDiff, reduceIte, d_law_8, wp_newX0, wp_newX1]))))
      have hm : D.lst [D.exn c_NoText [D.int far], D.exn c_NoStep [], D.exn c_NoBox [], D.exn c_NoDay [], D.exn c_NoName [], D.exn c_Twice [D.str nm], D.exn c_NoCard [D.str nm], D.exn c_NotAsked [D.str nm], D.exn c_NotDue [D.str nm], D.exn c_NoAnswer [], D.exn c_NoDeed [], D.exn c_Clash [w], D.exn c_TooMany [], D.exn c_NoMatch [], D.exn c_NoRow []] = .lst ((mdX far nm w).map fun p => .exn p.1 p.2) := rfl
      rw [hm]
      refine run_seq ?_
      ((try simp only [wset, ne_eq, decide_true, decide_false, Nat.reduceAdd, Nat.reduceSub, Nat.reduceLeDiff, reduceIte, d_law_9]); (repeat ((with_reducible refine And.intro ?_ ?_); (focus ((first | omega | decide | rfl | (simp only [lset]; omega) | (simp only [lset, wset]; done)))); (try simp only [wset, ne_eq, decide_true, decide_false, Nat.reduceAdd, Nat.reduceSub, Nat.reduceLeDiff, reduceIte, d_law_9]))))
      refine wp_compM (fun p : Nat × List D => D.exn p.1 p.2) (fun p => D.int ((p.1 : Int) - 1)) (mdX far nm w) ?_
      ((try simp only [wset, ne_eq, decide_true, decide_false, Nat.reduceAdd, Nat.reduceSub, Nat.reduceLeDiff, reduceIte]); (repeat ((with_reducible refine And.intro ?_ ?_); (focus ((first | omega | decide | rfl | (simp only [lset]; omega) | (simp only [lset, wset]; done)))); (try simp only [wset, ne_eq, decide_true, decide_false, Nat.reduceAdd, Nat.reduceSub, Nat.reduceLeDiff, reduceIte]))))
      refine ⟨by unfold mdX; simp, fun x hx => ?_, ?_⟩
      · have em := marks_all far nm w (Ct U n y) x hx
        rw [wp_turn]
        ((try simp only [wset, ne_eq, decide_true, decide_false, Nat.reduceAdd, Nat.reduceSub, Nat.reduceLeDiff, reduceIte, wipeR, d_law_E1, em]); (repeat ((with_reducible refine And.intro ?_ ?_); (focus ((first | omega | decide | rfl | (simp only [lset]; omega) | (simp only [lset, wset]; done)))); (try simp only [wset, ne_eq, decide_true, decide_false, Nat.reduceAdd, Nat.reduceSub, Nat.reduceLeDiff, reduceIte, wipeR, d_law_E1, em]))))
      refine wp_compM (fun k : Nat => D.int k) (fun k => D.int k) (List.range 15) ?_
      ((try simp only [wset, ne_eq, decide_true, decide_false, Nat.reduceAdd, Nat.reduceSub, Nat.reduceLeDiff, reduceIte]); (repeat ((with_reducible refine And.intro ?_ ?_); (focus ((first | omega | decide | rfl | (simp only [lset]; omega) | (simp only [lset, wset]; done)))); (try simp only [wset, ne_eq, decide_true, decide_false, Nat.reduceAdd, Nat.reduceSub, Nat.reduceLeDiff, reduceIte]))))
      refine ⟨fun k hk => ?_, ?_⟩
      · rw [wp_turn]
        ((try simp only [wset, ne_eq, decide_true, decide_false, Nat.reduceAdd, Nat.reduceSub, Nat.reduceLeDiff, reduceIte, wipeR, d_law_E2]); (repeat ((with_reducible refine And.intro ?_ ?_); (focus ((first | omega | decide | rfl | (simp only [lset]; omega) | (simp only [lset, wset]; done)))); (try simp only [wset, ne_eq, decide_true, decide_false, Nat.reduceAdd, Nat.reduceSub, Nat.reduceLeDiff, reduceIte, wipeR, d_law_E2]))))
      have e1 : (mdX far nm w).map (fun p => D.int ((p.1 : Int) - 1)) = [.int 0, .int 1, .int 2, .int 3, .int 4, .int 5, .int 6, .int 7, .int 8, .int 9, .int 10, .int 11, .int 12, .int 13, .int 14] := rfl
      have e2 : (List.range 15).map (fun k : Nat => D.int (k : Int)) = [.int 0, .int 1, .int 2, .int 3, .int 4, .int 5, .int 6, .int 7, .int 8, .int 9, .int 10, .int 11, .int 12, .int 13, .int 14] := rfl
      rw [e1, e2]
      refine ⟨by simp [D.dleL, D.dle], ?_⟩
      rw [if_neg (by simp)]
      refine run_seq ?_
      have g0 : ∀ (ρ : Rho) (S : List D), ixD (.lst ((mdX far nm w).map fun p => .exn p.1 p.2)) (.int 0) ρ S = .ok (false, .exn 1 [.int far]) ρ S := fun _ _ => rfl
      have g11 : ∀ (ρ : Rho) (S : List D), ixD (.lst ((mdX far nm w).map fun p => .exn p.1 p.2)) (.int 11) ρ S = .ok (false, .exn 12 [w]) ρ S := fun _ _ => rfl
      have g5 : ∀ (k : Int), k ∈ ([5, 6, 7, 8] : List Int) → ∀ (ρ : Rho) (S : List D), ixD (.lst ((mdX far nm w).map fun p => .exn p.1 p.2)) (.int k) ρ S = .ok (false, .exn (k + 1).toNat [.str nm]) ρ S := fun k hk ρ S => by
        simp only [List.mem_cons, List.not_mem_nil, or_false] at hk
        rcases hk with rfl | rfl | rfl | rfl <;> rfl
      ((try simp only [wset, ne_eq, decide_true, decide_false, Nat.reduceAdd, Nat.reduceSub, Nat.reduceLeDiff, reduceIte, d_law_11, g0]); (repeat ((with_reducible refine And.intro ?_ ?_); (focus ((first | omega | decide | rfl | (simp only [lset]; omega) | (simp only [lset, wset]; done)))); (try simp only [wset, ne_eq, decide_true, decide_false, Nat.reduceAdd, Nat.reduceSub, Nat.reduceLeDiff, reduceIte, d_law_11, g0]))))
      refine wp_compM (fun k : Int => D.int k) (fun _ => D.str nm) [5, 6, 7, 8] ?_
      ((try simp only [wset, ne_eq, decide_true, decide_false, Nat.reduceAdd, Nat.reduceSub, Nat.reduceLeDiff, reduceIte]); (repeat ((with_reducible refine And.intro ?_ ?_); (focus ((first | omega | decide | rfl | (simp only [lset]; omega) | (simp only [lset, wset]; done)))); (try simp only [wset, ne_eq, decide_true, decide_false, Nat.reduceAdd, Nat.reduceSub, Nat.reduceLeDiff, reduceIte]))))
      refine ⟨fun k hk => ?_, ?_⟩
      · rw [wp_turn]
        ((try simp only [wset, ne_eq, decide_true, decide_false, Nat.reduceAdd, Nat.reduceSub, Nat.reduceLeDiff, reduceIte, wipeR, d_law_E3, g5 k hk]); (repeat ((with_reducible refine And.intro ?_ ?_); (focus ((first | omega | decide | rfl | (simp only [lset]; omega) | (simp only [lset, wset]; done)))); (try simp only [wset, ne_eq, decide_true, decide_false, Nat.reduceAdd, Nat.reduceSub, Nat.reduceLeDiff, reduceIte, wipeR, d_law_E3, g5 k hk]))))
        simp only [List.mem_cons, List.not_mem_nil, or_false] at hk
        rcases hk with rfl | rfl | rfl | rfl
        all_goals
          rw [if_pos (by decide)]
          ((try simp only [wset, ne_eq, decide_true, decide_false, Nat.reduceAdd, Nat.reduceSub, Nat.reduceLeDiff, reduceIte]); (repeat ((with_reducible refine And.intro ?_ ?_); (focus ((first | omega | decide | rfl | (simp only [lset]; omega) | (simp only [lset, wset]; done)))); (try simp only [wset, ne_eq, decide_true, decide_false, Nat.reduceAdd, Nat.reduceSub, Nat.reduceLeDiff, reduceIte]))))
      have e3 : (List.replicate (Int.toNat 4) [D.str nm]).flatten = [.str nm, .str nm, .str nm, .str nm] := rfl
      rw [e3]
      refine ⟨by decide, by simp [D.dleL, D.dle], ?_⟩
      rw [if_neg (by simp)]
      refine run_seq ?_
      ((try simp only [wset, ne_eq, decide_true, decide_false, Nat.reduceAdd, Nat.reduceSub, Nat.reduceLeDiff, reduceIte, d_law_13, g11]); (repeat ((with_reducible refine And.intro ?_ ?_); (focus ((first | omega | decide | rfl | (simp only [lset]; omega) | (simp only [lset, wset]; done)))); (try simp only [wset, ne_eq, decide_true, decide_false, Nat.reduceAdd, Nat.reduceSub, Nat.reduceLeDiff, reduceIte, d_law_13, g11]))))
      refine wp_ixS (by omega) (by omega) (by omega) fun ch2 _ hch2 => ?_
      rw [hch] at hch2
      obtain rfl := Option.some.inj hch2
      rw [← hw]
      ((try simp only [wset, ne_eq, decide_true, decide_false, Nat.reduceAdd, Nat.reduceSub, Nat.reduceLeDiff, reduceIte]); (repeat ((with_reducible refine And.intro ?_ ?_); (focus ((first | omega | decide | rfl | (simp only [lset]; omega) | (simp only [lset, wset]; done)))); (try simp only [wset, ne_eq, decide_true, decide_false, Nat.reduceAdd, Nat.reduceSub, Nat.reduceLeDiff, reduceIte]))))
      exact hN _ _ ⟨_, _, _, _, _, _, none, none, none, rfl⟩
    · rintro ρ S' ⟨x1, x2, x3, x4, x5, x6, x7, x8, x9, rfl⟩
      refine run_seq ?_
      ((try simp only [wset, ne_eq, decide_true, decide_false, Nat.reduceAdd, Nat.reduceSub, Nat.reduceLeDiff, reduceIte, d_law_15]); (repeat ((with_reducible refine And.intro ?_ ?_); (focus ((first | omega | decide | rfl | (simp only [lset]; omega) | (simp only [lset, wset]; done)))); (try simp only [wset, ne_eq, decide_true, decide_false, Nat.reduceAdd, Nat.reduceSub, Nat.reduceLeDiff, reduceIte, d_law_15]))))
      exact hV _ _ rfl
  obtain ⟨x, S', e, rfl⟩ := key
  exact ⟨_, _, e⟩
end Mi

namespace Mi
open PySem PySem.Spec PyProof.Rows L2
def N__law_cell : List Str := ["_law_script", "_law_k"]
theorem sc__law_cell : FnScope N__law_cell ["_law_script", "_law_k"] (defScope (top 18)) := ⟨rfl, rfl, rfl, by decide +kernel, rfl, by decide +kernel, by decide +kernel⟩
theorem b__law_cell {P : Program} {K : KW} {mg : Str → Option Value} {base : Heap} {cv : Nat → Value × Str} {f : Addr} {fd : FuncData} (m_len : mg "len" = none)
    (F : FunD K "_law_cell" "_law_cell" (defArgs (top 18)) (defBody (top 18)) (defScope (top 18)) [] [] f fd) (hg : mg "_law_cell" = some (.ref f)) : CallAt P K.w K mg base cv 1 "_law_cell" 2 fn__law_cell := by
  refine mkCall F hg rfl rfl sc__law_cell (F.bindsN fun _ _ _ _ _ _ us hl => match us, hl with | [_, _], _ => rfl) fun X0 P0 s0 o0 z0 hp0 T0 C0 => ?_
  · skip
    have a0_1 := z0.at_ 1 "_law_k" rfl (by kernel_rfl)
    have a0_0 := z0.at_ 0 "_law_script" rfl (by kernel_rfl)
    have g0_len := z0.gn "len" (by kernel_rfl)
    have m0_len := s0.no m_len
    have b0_len := (⟨g0_len, m0_len⟩ : Bn _ _)
    exact (s_cons (s_if (t_cmpT o0 .lt (t_opd a0_1) (PE.opd (t_bi o0 .len b0_len (t_paP (t_opd a0_0) pa0P rfl) rfl)) rfl)
    (s_cons (s_ret (t_ix o0 (t_opd a0_0) (t_opd a0_1) rfl)) s_nil)
    s_nil)
  (s_cons (s_ret s_int) s_nil))
def N__law_digits : List Str := ["_law_script", "_law_k", "_law_cell_here", "_law_number", "_law_total", "_law_turn"]
theorem sc__law_digits : FnScope N__law_digits ["_law_script", "_law_k"] (defScope (top 19)) := ⟨rfl, rfl, rfl, by decide +kernel, rfl, by decide +kernel, by decide +kernel⟩
theorem b__law_digits {P : Program} {K : KW} {mg : Str → Option Value} {base : Heap} {cv : Nat → Value × Str} {f : Addr} {fd : FuncData} (c__law_cell : CallAt P K.w K mg base cv 1 "_law_cell" 2 fn__law_cell) (m_range : mg "range" = none)
    (F : FunD K "_law_digits" "_law_digits" (defArgs (top 19)) (defBody (top 19)) (defScope (top 19)) [] [] f fd) (hg : mg "_law_digits" = some (.ref f)) : CallAt P K.w K mg base cv 2 "_law_digits" 2 fn__law_digits := by
  refine mkCall F hg rfl rfl sc__law_digits (F.bindsN fun _ _ _ _ _ _ us hl => match us, hl with | [_, _], _ => rfl) fun X0 P0 s0 o0 z0 hp0 T0 C0 => ?_
  · skip
    have a0_0 := z0.at_ 0 "_law_script" rfl (by kernel_rfl)
    have a0_1 := z0.at_ 1 "_law_k" rfl (by kernel_rfl)
    have c0__law_cell := s0.call c__law_cell
    have g0__law_cell := z0.gn "_law_cell" (by kernel_rfl)
    have t0_2 := z0.to 2 "_law_cell_here" rfl (by kernel_rfl)
    have a0_2 := z0.at_ 2 "_law_cell_here" rfl (by kernel_rfl)
    have t0_3 := z0.to 3 "_law_number" rfl (by kernel_rfl)
    have t0_4 := z0.to 4 "_law_total" rfl (by kernel_rfl)
    have g0_range := z0.gn "range" (by kernel_rfl)
    have m0_range := s0.no m_range
    have b0_range := (⟨g0_range, m0_range⟩ : Bn _ _)
    have t0_5 := z0.to 5 "_law_turn" rfl (by kernel_rfl)
    have a0_3 := z0.at_ 3 "_law_number" rfl (by kernel_rfl)
    have a0_5 := z0.at_ 5 "_law_turn" rfl (by kernel_rfl)
    have a0_4 := z0.at_ 4 "_law_total" rfl (by kernel_rfl)
    exact (s_cons (t_set o0 t0_2 (t_call o0 c0__law_cell (by decide) g0__law_cell (t_paV (t_var a0_0) (t_paV (t_var a0_1) pa0V rfl) rfl) rfl) rfl)
  (s_cons (s_if (t_cmpT o0 .ge (t_opd a0_2) (PE.opd (t_bin o0 .pow (PE.opd s_int) (PE.opd s_int))) rfl)
    (s_cons (s_ret (s_lst (t_paV (t_bin o0 .sub (t_opd a0_2) (PE.opd (t_bin o0 .pow (PE.opd s_int) (PE.opd s_int)))) pa0V rfl))) s_nil)
    s_nil)
  (s_cons (t_set o0 t0_3 (t_bin o0 .mod (PE.opd (t_bin o0 .add (PE.opd (t_bin o0 .add (PE.opd (t_bin o0 .mul (t_opd a0_2) (PE.opd s_int))) (PE.opd (t_bin o0 .mul (PE.opd s_int) (t_opd a0_1))))) (PE.opd s_int))) (PE.opd s_int)) rfl)
  (s_cons (t_set o0 t0_4 s_int rfl)
  (s_cons (t_for o0 hp0 (t_rng1 b0_range (t_paP (PE.opd s_int) pa0P rfl) rfl) (t_tg1 o0 t0_5)
    (s_cons (t_set o0 t0_3 (t_bin o0 .mod (PE.opd (t_bin o0 .add (PE.opd (t_bin o0 .add (PE.opd (t_bin o0 .mul (t_opd a0_3) (t_opd a0_3))) (PE.opd (t_bin o0 .mul (PE.opd s_int) (t_opd a0_3))))) (t_opd a0_5))) (PE.opd s_int)) rfl)
    (s_cons (t_set o0 t0_4 (t_bin o0 .add (PE.opd (t_bin o0 .mul (t_opd a0_4) (PE.opd s_int))) (PE.opd (t_bin o0 .mod (PE.opd (t_bin o0 .mul (t_opd a0_3) (PE.opd s_int))) (PE.opd s_int)))) rfl) s_nil)) rfl)
  (s_cons (s_ret (s_lst (t_paV (t_var a0_4) pa0V rfl))) s_nil))))))
def N__law_take : List Str := ["_law_held", "_law_many", "_law_found"]
theorem sc__law_take : FnScope N__law_take ["_law_held", "_law_many"] (defScope (top 20)) := ⟨rfl, rfl, rfl, by decide +kernel, rfl, by decide +kernel, by decide +kernel⟩
theorem b__law_take {P : Program} {K : KW} {mg : Str → Option Value} {base : Heap} {cv : Nat → Value × Str} {f : Addr} {fd : FuncData}
    (F : FunD K "_law_take" "_law_take" (defArgs (top 20)) (defBody (top 20)) (defScope (top 20)) [] [] f fd) (hg : mg "_law_take" = some (.ref f)) : CallAt P K.w K mg base cv 1 "_law_take" 2 fn__law_take := by
  refine mkCall F hg rfl rfl sc__law_take (F.bindsN fun _ _ _ _ _ _ us hl => match us, hl with | [_, _], _ => rfl) fun X0 P0 s0 o0 z0 hp0 T0 C0 => ?_
  · skip
    have a0_0 := z0.at_ 0 "_law_held" rfl (by kernel_rfl)
    have a0_1 := z0.at_ 1 "_law_many" rfl (by kernel_rfl)
    have t0_2 := z0.to 2 "_law_found" rfl (by kernel_rfl)
    have a0_2 := z0.at_ 2 "_law_found" rfl (by kernel_rfl)
    exact (s_cons (t_set o0 t0_2 (t_bin o0 .mod (PE.opd (t_ix o0 (t_opd a0_0) (PE.opd s_int) rfl)) (t_opd a0_1)) rfl)
  (s_cons (t_six o0 a0_0 (t_bin o0 .div (PE.opd (t_ix o0 (t_opd a0_0) (PE.opd s_int) rfl)) (t_opd a0_1)) s_int rfl (fun _ => rfl))
  (s_cons (s_ret (t_mov a0_2)) s_nil)))
def N__law_names : List Str := ["_law_held", "_law_many", "_law_letters", "_law_signs", "_law_word", "_law_at", "_law_first", "_law_more", "_law_ends", "_law_some", "_law_k"]
theorem sc__law_names : FnScope N__law_names ["_law_held", "_law_many"] (defScope (top 21)) := ⟨rfl, rfl, rfl, by decide +kernel, rfl, by decide +kernel, by decide +kernel⟩
theorem b__law_names {P : Program} {K : KW} {mg : Str → Option Value} {base : Heap} {cv : Nat → Value × Str} {f : Addr} {fd : FuncData} (c__law_take : CallAt P K.w K mg base cv 1 "_law_take" 2 fn__law_take) (m_int : mg "int" = none) (m_len : mg "len" = none) (m_range : mg "range" = none)
    (F : FunD K "_law_names" "_law_names" (defArgs (top 21)) (defBody (top 21)) (defScope (top 21)) [] [] f fd) (hg : mg "_law_names" = some (.ref f)) : CallAt P K.w K mg base cv 2 "_law_names" 2 fn__law_names := by
  refine mkCall F hg rfl rfl sc__law_names (F.bindsN fun _ _ _ _ _ _ us hl => match us, hl with | [_, _], _ => rfl) fun X0 P0 s0 o0 z0 hp0 T0 C0 => ?_
  · skip
    have t0_2 := z0.to 2 "_law_letters" rfl (by kernel_rfl)
    have a0_2 := z0.at_ 2 "_law_letters" rfl (by kernel_rfl)
    have t0_3 := z0.to 3 "_law_signs" rfl (by kernel_rfl)
    have a0_0 := z0.at_ 0 "_law_held" rfl (by kernel_rfl)
    have c0__law_take := s0.call c__law_take
    have g0__law_take := z0.gn "_law_take" (by kernel_rfl)
    have t0_4 := z0.to 4 "_law_word" rfl (by kernel_rfl)
    have a0_4 := z0.at_ 4 "_law_word" rfl (by kernel_rfl)
    have g0_range := z0.gn "range" (by kernel_rfl)
    have m0_range := s0.no m_range
    have b0_range := (⟨g0_range, m0_range⟩ : Bn _ _)
    have a0_1 := z0.at_ 1 "_law_many" rfl (by kernel_rfl)
    have g0_len := z0.gn "len" (by kernel_rfl)
    have m0_len := s0.no m_len
    have b0_len := (⟨g0_len, m0_len⟩ : Bn _ _)
    have t0_5 := z0.to 5 "_law_at" rfl (by kernel_rfl)
    have t0_6 := z0.to 6 "_law_first" rfl (by kernel_rfl)
    have g0_int := z0.gn "int" (by kernel_rfl)
    have m0_int := s0.no m_int
    have b0_int := (⟨g0_int, m0_int⟩ : Bn _ _)
    have t0_7 := z0.to 7 "_law_more" rfl (by kernel_rfl)
    have a0_5 := z0.at_ 5 "_law_at" rfl (by kernel_rfl)
    have a0_7 := z0.at_ 7 "_law_more" rfl (by kernel_rfl)
    have t0_8 := z0.to 8 "_law_ends" rfl (by kernel_rfl)
    have t0_9 := z0.to 9 "_law_some" rfl (by kernel_rfl)
    exact (s_cons (t_set o0 t0_2 (s_str (by kernel_rfl) (by kernel_rfl)) rfl)
  (s_cons (t_set o0 t0_3 (t_bin o0 .add (t_opd a0_2) (PE.opd (s_str (by kernel_rfl) (by kernel_rfl)))) rfl)
  (s_cons (t_set o0 t0_4 (t_ix o0 (t_opd a0_2) (PE.opd (t_call o0 c0__law_take (by decide) g0__law_take (t_paV (t_var a0_0) (t_paV s_int pa0V rfl) rfl) rfl)) rfl) rfl)
  (s_cons (t_set o0 t0_4 (t_bin o0 .add (t_opd a0_4) (PE.opd (t_mt o0 .join (PE.opd (s_str (by kernel_rfl) (by kernel_rfl))) (t_paP (PE.opd (t_comp (own := [("_law_k", 10)]) o0 z0 (t_rng1 b0_range (t_paP (PE.opd s_int) pa0P rfl) rfl) (by kernel_rfl) rfl rfl (fun X1 P1 o1 z1 s1 => by have t1_10 := z1.to 10 "_law_k" rfl (by kernel_rfl); have a1_3 := z1.at_ 3 "_law_signs" rfl (by kernel_rfl); have a1_0 := z1.at_ 0 "_law_held" rfl (by kernel_rfl); have c1__law_take := s1.call c0__law_take; have g1__law_take := z1.gn "_law_take" (by kernel_rfl); exact ⟨(t_tg1 o1 t1_10), t_if0, (t_ix o1 (t_opd a1_3) (PE.opd (t_call o1 c1__law_take (by decide) g1__law_take (t_paV (t_var a1_0) (t_paV s_int pa0V rfl) rfl) rfl)) rfl)⟩))) pa0P rfl) rfl rfl (by decide) rfl))) rfl)
  (s_cons (s_if (PW.pt (s_and (t_cmpT o0 .lt (t_opd a0_1) (PE.opd s_int) rfl) (s_and1 (t_cmpT o0 .eq (PE.opd (t_call o0 c0__law_take (by decide) g0__law_take (t_paV (t_var a0_0) (t_paV s_int pa0V rfl) rfl) rfl)) (PE.opd s_int) rfl))))
    (s_cons (s_ret (t_comp (own := [("_law_k", 10)]) o0 z0 (t_rng1 b0_range (t_paP (t_opd a0_1) pa0P rfl) rfl) (by kernel_rfl) rfl rfl (fun X1 P1 o1 z1 s1 => by have t1_10 := z1.to 10 "_law_k" rfl (by kernel_rfl); have a1_4 := z1.at_ 4 "_law_word" rfl (by kernel_rfl); have a1_10 := z1.at_ 10 "_law_k" rfl (by kernel_rfl); exact ⟨(t_tg1 o1 t1_10), t_if0, (t_sl o1 (t_opd a1_4) po0 (po1 (t_bin o1 .add (t_opd a1_10) (PE.opd s_int))))⟩))) s_nil)
    s_nil)
  (s_cons (t_set o0 t0_4 (t_sl o0 (t_opd a0_4) po0 (po1 (t_bin o0 .add (PE.opd s_int) (PE.opd (t_call o0 c0__law_take (by decide) g0__law_take (t_paV (t_var a0_0) (t_paV s_int pa0V rfl) rfl) rfl))))) rfl)
  (s_cons (t_set o0 t0_5 (t_call o0 c0__law_take (by decide) g0__law_take (t_paV (t_var a0_0) (t_paV (t_bi o0 .len b0_len (t_paP (t_opd a0_4) pa0P rfl) rfl) pa0V rfl) rfl) rfl) rfl)
  (s_cons (t_set o0 t0_6 (t_call o0 c0__law_take (by decide) g0__law_take (t_paV (t_var a0_0) (t_paV s_int pa0V rfl) rfl) rfl) rfl)
  (s_cons (t_set o0 t0_7 (t_bin o0 .mul (PE.opd (t_call o0 c0__law_take (by decide) g0__law_take (t_paV (t_var a0_0) (t_paV s_int pa0V rfl) rfl) rfl)) (PE.opd (t_bi o0 .int b0_int (t_paP (PE.opd (t_cmp o0 .lt (PE.opd (t_bi o0 .len b0_len (t_paP (t_opd a0_4) pa0P rfl) rfl)) (PE.opd s_int) rfl)) pa0P rfl) rfl))) rfl)
  (s_cons (t_set o0 t0_8 (s_lst (t_paV (t_sl o0 (t_opd a0_4) (po1 (t_bin o0 .add (t_opd a0_5) (PE.opd s_int))) po0) (t_paV (t_bin o0 .add (PE.opd (t_sl o0 (t_opd a0_4) (po1 (t_bin o0 .add (t_opd a0_5) (PE.opd s_int))) po0)) (PE.opd (t_bin o0 .mul (PE.opd (s_str (by kernel_rfl) (by kernel_rfl))) (t_opd a0_7)))) pa0V rfl) rfl)) rfl)
  (s_cons (t_setL o0 z0 t0_9 (t_comp (own := [("_law_k", 10)]) o0 z0 (t_rng1 b0_range (t_paP (t_opd a0_1) pa0P rfl) rfl) (by kernel_rfl) rfl rfl (fun X1 P1 o1 z1 s1 => by have t1_10 := z1.to 10 "_law_k" rfl (by kernel_rfl); have a1_2 := z1.at_ 2 "_law_letters" rfl (by kernel_rfl); have a1_6 := z1.at_ 6 "_law_first" rfl (by kernel_rfl); have a1_10 := z1.at_ 10 "_law_k" rfl (by kernel_rfl); exact ⟨(t_tg1 o1 t1_10), t_if0, (t_ix o1 (t_opd a1_2) (PE.opd (t_bin o1 .mod (PE.opd (t_bin o1 .add (t_opd a1_6) (PE.opd (t_bin o1 .mul (PE.opd s_int) (t_opd a1_10))))) (PE.opd s_int))) rfl)⟩)) (by kernel_rfl))
  (s_cons (s_ret (t_comp (own := [("_law_k", 10)]) o0 z0 (t_rng1 b0_range (t_paP (t_opd a0_1) pa0P rfl) rfl) (by kernel_rfl) rfl rfl (fun X1 P1 o1 z1 s1 => by have t1_10 := z1.to 10 "_law_k" rfl (by kernel_rfl); have a1_4 := z1.at_ 4 "_law_word" rfl (by kernel_rfl); have a1_5 := z1.at_ 5 "_law_at" rfl (by kernel_rfl); have a1_9 := z1.at_ 9 "_law_some" rfl (by kernel_rfl); have a1_10 := z1.at_ 10 "_law_k" rfl (by kernel_rfl); have a1_8 := z1.at_ 8 "_law_ends" rfl (by kernel_rfl); exact ⟨(t_tg1 o1 t1_10), t_if0, (t_bin o1 .add (PE.opd (t_bin o1 .add (PE.opd (t_sl o1 (t_opd a1_4) po0 (po1 (t_var a1_5)))) (PE.opd (t_ix o1 (t_opd a1_9) (t_opd a1_10) rfl)))) (PE.opd (t_ix o1 (t_opd a1_8) (PE.opd (t_bin o1 .mod (t_opd a1_10) (PE.opd s_int))) rfl)))⟩))) s_nil))))))))))))
def N__law_marks : List Str := ["_law_e", "_law_some", "_law_one"]
theorem sc__law_marks : FnScope N__law_marks ["_law_e"] (defScope (top 22)) := ⟨rfl, rfl, rfl, by decide +kernel, rfl, by decide +kernel, by decide +kernel⟩
theorem b__law_marks {P : Program} {K : KW} {mg : Str → Option Value} {base : Heap} {cv : Nat → Value × Str} {f : Addr} {fd : FuncData} (m_isinstance : mg "isinstance" = none) (m_len : mg "len" = none) (isx_BoxError : IsxAt K mg ["BoxError"] [true, true, true, true, true, true, true, true, true, true, true, true, true, true, true, true] []) (isx_Clash : IsxAt K mg ["Clash"] [false, false, false, false, false, false, false, false, false, false, false, false, true, false, false, false] []) (isx_NoAnswer : IsxAt K mg ["NoAnswer"] [false, false, false, false, false, false, false, false, false, false, true, false, false, false, false, false] []) (isx_NoBox : IsxAt K mg ["NoBox"] [false, false, false, true, false, false, false, false, false, false, false, false, false, false, false, false] []) (isx_NoCard : IsxAt K mg ["NoCard"] [false, false, false, false, false, false, false, true, false, false, false, false, false, false, false, false] []) (isx_NoDay : IsxAt K mg ["NoDay"] [false, false, false, false, true, false, false, false, false, false, false, false, false, false, false, false] []) (isx_NoDeed : IsxAt K mg ["NoDeed"] [false, false, false, false, false, false, false, false, false, false, false, true, false, false, false, false] []) (isx_NoMatch : IsxAt K mg ["NoMatch"] [false, false, false, false, false, false, false, false, false, false, false, false, false, false, true, false] []) (isx_NoName : IsxAt K mg ["NoName"] [false, false, false, false, false, true, false, false, false, false, false, false, false, false, false, false] []) (isx_NoRow : IsxAt K mg ["NoRow"] [false, false, false, false, false, false, false, false, false, false, false, false, false, false, false, true] []) (isx_NoStep : IsxAt K mg ["NoStep"] [false, false, true, false, false, false, false, false, false, false, false, false, false, false, false, false] []) (isx_NoText : IsxAt K mg ["NoText"] [false, true, false, false, false, false, false, false, false, false, false, false, false, false, false, false] []) (isx_NotAsked : IsxAt K mg ["NotAsked"] [false, false, false, false, false, false, false, false, true, false, false, false, false, false, false, false] []) (isx_NotDue : IsxAt K mg ["NotDue"] [false, false, false, false, false, false, false, false, false, true, false, false, false, false, false, false] []) (isx_TooMany : IsxAt K mg ["TooMany"] [false, false, false, false, false, false, false, false, false, false, false, false, false, true, false, false] []) (isx_Twice : IsxAt K mg ["Twice"] [false, false, false, false, false, false, true, false, false, false, false, false, false, false, false, false] []) (isx_ValueError : IsxAt K mg ["ValueError"] [true, true, true, true, true, true, true, true, true, true, true, true, true, true, true, true] [])
    (F : FunD K "_law_marks" "_law_marks" (defArgs (top 22)) (defBody (top 22)) (defScope (top 22)) [] [] f fd) (hg : mg "_law_marks" = some (.ref f)) : CallAt P K.w K mg base cv 1 "_law_marks" 1 fn__law_marks := by
  refine mkCall F hg rfl rfl sc__law_marks (F.bindsN fun _ _ _ _ _ _ us hl => match us, hl with | [_], _ => rfl) fun X0 P0 s0 o0 z0 hp0 T0 C0 => ?_
  · skip
    have a0_0 := z0.at_ 0 "_law_e" rfl (by kernel_rfl)
    have k0_isx_NoText := s0.isx isx_NoText
    have g0_isinstance := z0.gn "isinstance" (by kernel_rfl)
    have m0_isinstance := s0.no m_isinstance
    have b0_isinstance := (⟨g0_isinstance, m0_isinstance⟩ : Bn _ _)
    have g0_NoText := z0.gn "NoText" (by kernel_rfl)
    have k0_isx_NoStep := s0.isx isx_NoStep
    have g0_NoStep := z0.gn "NoStep" (by kernel_rfl)
    have k0_isx_NoBox := s0.isx isx_NoBox
    have g0_NoBox := z0.gn "NoBox" (by kernel_rfl)
    have k0_isx_NoDay := s0.isx isx_NoDay
    have g0_NoDay := z0.gn "NoDay" (by kernel_rfl)
    have t0_1 := z0.to 1 "_law_some" rfl (by kernel_rfl)
    have a0_1 := z0.at_ 1 "_law_some" rfl (by kernel_rfl)
    have k0_isx_NoName := s0.isx isx_NoName
    have g0_NoName := z0.gn "NoName" (by kernel_rfl)
    have k0_isx_Twice := s0.isx isx_Twice
    have g0_Twice := z0.gn "Twice" (by kernel_rfl)
    have k0_isx_NoCard := s0.isx isx_NoCard
    have g0_NoCard := z0.gn "NoCard" (by kernel_rfl)
    have k0_isx_NotAsked := s0.isx isx_NotAsked
    have g0_NotAsked := z0.gn "NotAsked" (by kernel_rfl)
    have k0_isx_NotDue := s0.isx isx_NotDue
    have g0_NotDue := z0.gn "NotDue" (by kernel_rfl)
    have k0_isx_NoAnswer := s0.isx isx_NoAnswer
    have g0_NoAnswer := z0.gn "NoAnswer" (by kernel_rfl)
    have k0_isx_NoDeed := s0.isx isx_NoDeed
    have g0_NoDeed := z0.gn "NoDeed" (by kernel_rfl)
    have k0_isx_Clash := s0.isx isx_Clash
    have g0_Clash := z0.gn "Clash" (by kernel_rfl)
    have k0_isx_TooMany := s0.isx isx_TooMany
    have g0_TooMany := z0.gn "TooMany" (by kernel_rfl)
    have k0_isx_NoMatch := s0.isx isx_NoMatch
    have g0_NoMatch := z0.gn "NoMatch" (by kernel_rfl)
    have k0_isx_NoRow := s0.isx isx_NoRow
    have g0_NoRow := z0.gn "NoRow" (by kernel_rfl)
    have k0_isx_BoxError := s0.isx isx_BoxError
    have g0_BoxError := z0.gn "BoxError" (by kernel_rfl)
    have k0_isx_ValueError := s0.isx isx_ValueError
    have g0_ValueError := z0.gn "ValueError" (by kernel_rfl)
    have g0_len := z0.gn "len" (by kernel_rfl)
    have m0_len := s0.no m_len
    have b0_len := (⟨g0_len, m0_len⟩ : Bn _ _)
    exact (s_cons (t_set o0 t0_1 (s_lst (t_paV (t_isx o0 b0_isinstance g0_NoText k0_isx_NoText (t_opd a0_0) rfl) (t_paV (t_isx o0 b0_isinstance g0_NoStep k0_isx_NoStep (t_opd a0_0) rfl) (t_paV (t_isx o0 b0_isinstance g0_NoBox k0_isx_NoBox (t_opd a0_0) rfl) (t_paV (t_isx o0 b0_isinstance g0_NoDay k0_isx_NoDay (t_opd a0_0) rfl) pa0V rfl) rfl) rfl) rfl)) rfl)
  (s_cons (t_set o0 t0_1 (t_bin o0 .add (t_opd a0_1) (PE.opd (s_lst (t_paV (t_isx o0 b0_isinstance g0_NoName k0_isx_NoName (t_opd a0_0) rfl) (t_paV (t_isx o0 b0_isinstance g0_Twice k0_isx_Twice (t_opd a0_0) rfl) (t_paV (t_isx o0 b0_isinstance g0_NoCard k0_isx_NoCard (t_opd a0_0) rfl) (t_paV (t_isx o0 b0_isinstance g0_NotAsked k0_isx_NotAsked (t_opd a0_0) rfl) pa0V rfl) rfl) rfl) rfl)))) rfl)
  (s_cons (t_set o0 t0_1 (t_bin o0 .add (t_opd a0_1) (PE.opd (s_lst (t_paV (t_isx o0 b0_isinstance g0_NotDue k0_isx_NotDue (t_opd a0_0) rfl) (t_paV (t_isx o0 b0_isinstance g0_NoAnswer k0_isx_NoAnswer (t_opd a0_0) rfl) (t_paV (t_isx o0 b0_isinstance g0_NoDeed k0_isx_NoDeed (t_opd a0_0) rfl) (t_paV (t_isx o0 b0_isinstance g0_Clash k0_isx_Clash (t_opd a0_0) rfl) pa0V rfl) rfl) rfl) rfl)))) rfl)
  (s_cons (t_set o0 t0_1 (t_bin o0 .add (t_opd a0_1) (PE.opd (s_lst (t_paV (t_isx o0 b0_isinstance g0_TooMany k0_isx_TooMany (t_opd a0_0) rfl) (t_paV (t_isx o0 b0_isinstance g0_NoMatch k0_isx_NoMatch (t_opd a0_0) rfl) (t_paV (t_isx o0 b0_isinstance g0_NoRow k0_isx_NoRow (t_opd a0_0) rfl) pa0V rfl) rfl) rfl)))) rfl)
  (s_cons (s_if (PW.pt (s_or (s_not (t_pt (t_isx o0 b0_isinstance g0_BoxError k0_isx_BoxError (t_opd a0_0) rfl) rfl)) (s_or1 (s_not (t_pt (t_isx o0 b0_isinstance g0_ValueError k0_isx_ValueError (t_opd a0_0) rfl) rfl)))))
    (s_cons (s_ret (t_neg (PE.opd s_int))) s_nil)
    s_nil)
  (s_cons (s_if (t_cmpT o0 .ne (PE.opd (t_bi o0 .len b0_len (t_paP (PE.opd (t_comp (own := [("_law_one", 2)]) o0 z0 (t_ival o0 (t_var a0_1)) (by kernel_rfl) rfl rfl (fun X1 P1 o1 z1 s1 => by have t1_2 := z1.to 2 "_law_one" rfl (by kernel_rfl); have a1_2 := z1.at_ 2 "_law_one" rfl (by kernel_rfl); exact ⟨(t_tg1 o1 t1_2), (t_if1 (t_pt (t_var a1_2) rfl)), (t_var a1_2)⟩))) pa0P rfl) rfl)) (PE.opd s_int) rfl)
    (s_cons (s_ret (t_neg (PE.opd s_int))) s_nil)
    s_nil)
  (s_cons (s_ret (t_mt o0 .lindex (t_opd a0_1) (t_paP (PE.opd s_bl) pa0P rfl) rfl rfl (by decide) rfl)) s_nil)))))))
def N_law : List Str := ["_law_script", "_law_k", "_law_held", "_law_far", "_law_name", "_law_text", "_law_made", "_law_e", "_law_number", "_law_at"]
theorem sc_law : FnScope N_law ["_law_script"] (defScope (top 23)) := ⟨rfl, rfl, rfl, by decide +kernel, rfl, by decide +kernel, by decide +kernel⟩
theorem b_law {P : Program} {K : KW} {mg : Str → Option Value} {base : Heap} {cv : Nat → Value × Str} {f : Addr} {fd : FuncData} (c__law_digits : CallAt P K.w K mg base cv 2 "_law_digits" 2 fn__law_digits) (c__law_marks : CallAt P K.w K mg base cv 1 "_law_marks" 1 fn__law_marks) (c__law_names : CallAt P K.w K mg base cv 2 "_law_names" 2 fn__law_names) (c__law_take : CallAt P K.w K mg base cv 1 "_law_take" 2 fn__law_take) (m_len : mg "len" = none) (m_min : mg "min" = none) (m_range : mg "range" = none) (fld_at : FldAt K "at" [false, true, false, false, false, false, false, false, false, false, false, false, false, false, false, false] []) (fld_name : FldAt K "name" [false, false, false, false, false, false, true, true, true, true, false, false, false, false, false, false] []) (fld_which : FldAt K "which" [false, false, false, false, false, false, false, false, false, false, false, false, true, false, false, false] []) (rz0_NoAnswer : Rz0 K mg "NoAnswer" c_NoAnswer) (rz0_NoBox : Rz0 K mg "NoBox" c_NoBox) (rz0_NoDay : Rz0 K mg "NoDay" c_NoDay) (rz0_NoDeed : Rz0 K mg "NoDeed" c_NoDeed) (rz0_NoMatch : Rz0 K mg "NoMatch" c_NoMatch) (rz0_NoName : Rz0 K mg "NoName" c_NoName) (rz0_NoRow : Rz0 K mg "NoRow" c_NoRow) (rz0_NoStep : Rz0 K mg "NoStep" c_NoStep) (rz0_TooMany : Rz0 K mg "TooMany" c_TooMany) (rz1_Clash : Rz1 P K.w K mg base 1 "Clash" c_Clash) (rz1_NoCard : Rz1 P K.w K mg base 1 "NoCard" c_NoCard) (rz1_NoText : Rz1 P K.w K mg base 1 "NoText" c_NoText) (rz1_NotAsked : Rz1 P K.w K mg base 1 "NotAsked" c_NotAsked) (rz1_NotDue : Rz1 P K.w K mg base 1 "NotDue" c_NotDue) (rz1_Twice : Rz1 P K.w K mg base 1 "Twice" c_Twice)
    (F : FunD K "law" "law" (defArgs (top 23)) (defBody (top 23)) (defScope (top 23)) [] [] f fd) : FnG P K.w K mg base (L2.CX P K.w) 3 f fd ["_law_script"] (spF K cv fn_law 1) := by
  refine law_fn F rfl rfl sc_law fun X0 P0 s0 o0 z0 hp0 T0 C0 => ?_
  · skip
    have a0_0 := z0.at_ 0 "_law_script" rfl (by kernel_rfl)
    have g0_len := z0.gn "len" (by kernel_rfl)
    have m0_len := s0.no m_len
    have b0_len := (⟨g0_len, m0_len⟩ : Bn _ _)
    have g0_min := z0.gn "min" (by kernel_rfl)
    have m0_min := s0.no m_min
    have b0_min := (⟨g0_min, m0_min⟩ : Bn _ _)
    have g0_range := z0.gn "range" (by kernel_rfl)
    have m0_range := s0.no m_range
    have b0_range := (⟨g0_range, m0_range⟩ : Bn _ _)
    have t0_1 := z0.to 1 "_law_k" rfl (by kernel_rfl)
    have a0_1 := z0.at_ 1 "_law_k" rfl (by kernel_rfl)
    have c0__law_digits := s0.call c__law_digits
    have g0__law_digits := z0.gn "_law_digits" (by kernel_rfl)
    have t0_2 := z0.to 2 "_law_held" rfl (by kernel_rfl)
    have a0_2 := z0.at_ 2 "_law_held" rfl (by kernel_rfl)
    have c0__law_take := s0.call c__law_take
    have g0__law_take := z0.gn "_law_take" (by kernel_rfl)
    have t0_3 := z0.to 3 "_law_far" rfl (by kernel_rfl)
    have c0__law_names := s0.call c__law_names
    have g0__law_names := z0.gn "_law_names" (by kernel_rfl)
    have t0_4 := z0.to 4 "_law_name" rfl (by kernel_rfl)
    have a0_4 := z0.at_ 4 "_law_name" rfl (by kernel_rfl)
    have t0_5 := z0.to 5 "_law_text" rfl (by kernel_rfl)
    have a0_3 := z0.at_ 3 "_law_far" rfl (by kernel_rfl)
    have g0_NoText := z0.gn "NoText" (by kernel_rfl)
    have k0_rz1_NoText := s0.rz1 rz1_NoText
    have a0_5 := z0.at_ 5 "_law_text" rfl (by kernel_rfl)
    have g0_NoStep := z0.gn "NoStep" (by kernel_rfl)
    have k0_rz0_NoStep := s0.rz0 rz0_NoStep
    have g0_NoBox := z0.gn "NoBox" (by kernel_rfl)
    have k0_rz0_NoBox := s0.rz0 rz0_NoBox
    have g0_NoDay := z0.gn "NoDay" (by kernel_rfl)
    have k0_rz0_NoDay := s0.rz0 rz0_NoDay
    have g0_NoName := z0.gn "NoName" (by kernel_rfl)
    have k0_rz0_NoName := s0.rz0 rz0_NoName
    have g0_Twice := z0.gn "Twice" (by kernel_rfl)
    have k0_rz1_Twice := s0.rz1 rz1_Twice
    have g0_NoCard := z0.gn "NoCard" (by kernel_rfl)
    have k0_rz1_NoCard := s0.rz1 rz1_NoCard
    have t0_6 := z0.to 6 "_law_made" rfl (by kernel_rfl)
    have a0_6 := z0.at_ 6 "_law_made" rfl (by kernel_rfl)
    have g0_NotAsked := z0.gn "NotAsked" (by kernel_rfl)
    have k0_rz1_NotAsked := s0.rz1 rz1_NotAsked
    have g0_NotDue := z0.gn "NotDue" (by kernel_rfl)
    have k0_rz1_NotDue := s0.rz1 rz1_NotDue
    have g0_NoAnswer := z0.gn "NoAnswer" (by kernel_rfl)
    have k0_rz0_NoAnswer := s0.rz0 rz0_NoAnswer
    have g0_NoDeed := z0.gn "NoDeed" (by kernel_rfl)
    have k0_rz0_NoDeed := s0.rz0 rz0_NoDeed
    have g0_Clash := z0.gn "Clash" (by kernel_rfl)
    have k0_rz1_Clash := s0.rz1 rz1_Clash
    have g0_TooMany := z0.gn "TooMany" (by kernel_rfl)
    have k0_rz0_TooMany := s0.rz0 rz0_TooMany
    have g0_NoMatch := z0.gn "NoMatch" (by kernel_rfl)
    have k0_rz0_NoMatch := s0.rz0 rz0_NoMatch
    have g0_NoRow := z0.gn "NoRow" (by kernel_rfl)
    have k0_rz0_NoRow := s0.rz0 rz0_NoRow
    have c0__law_marks := s0.call c__law_marks
    have k0_fld_at := s0.fld fld_at
    have k0_fld_name := s0.fld fld_name
    have k0_fld_which := s0.fld fld_which
    exact (s_cons (t_for o0 hp0 (t_rng1 b0_range (t_paP (PE.opd (t_bin o0 .add (PE.opd s_int) (PE.opd (t_bi o0 .min b0_min (t_paP (PE.opd s_int) (t_paP (PE.opd (t_bi o0 .len b0_len (t_paP (t_opd a0_0) pa0P rfl) rfl)) pa0P rfl) rfl) rfl)))) pa0P rfl) rfl) (t_tg1 o0 t0_1)
    (s_cons (t_setC o0 t0_2 (t_call o0 c0__law_digits (by decide) g0__law_digits (t_paV (t_var a0_0) (t_paV (t_var a0_1) pa0V rfl) rfl) rfl) rfl)
    (s_cons (t_set o0 t0_3 (t_call o0 c0__law_take (by decide) g0__law_take (t_paV (t_var a0_2) (t_paV (t_bin o0 .pow (PE.opd s_int) (PE.opd s_int)) pa0V rfl) rfl) rfl) rfl)
    (s_cons (t_set o0 t0_4 (t_ix o0 (PE.opd (t_call o0 c0__law_names (by decide) g0__law_names (t_paV (t_var a0_2) (t_paV s_int pa0V rfl) rfl) rfl)) (PE.opd s_int) rfl) rfl)
    (s_cons (t_set o0 t0_5 (t_ix o0 (PE.opd (s_lst (t_paV (s_str (by kernel_rfl) (by kernel_rfl)) (t_paV (t_var a0_4) (t_paV (s_str (by kernel_rfl) (by kernel_rfl)) pa0V rfl) rfl) rfl))) (PE.opd (t_call o0 c0__law_take (by decide) g0__law_take (t_paV (t_var a0_2) (t_paV s_int pa0V rfl) rfl) rfl)) rfl) rfl)
    (s_cons (t_set o0 t0_6 (s_lst (t_paV (t_newX1 o0 g0_NoText k0_rz1_NoText (by decide) (t_var a0_3) rfl) (t_paV (t_newX0 o0 g0_NoStep k0_rz0_NoStep (t_var a0_5) rfl) (t_paV (t_newX0 o0 g0_NoBox k0_rz0_NoBox (t_var a0_5) rfl) (t_paV (t_newX0 o0 g0_NoDay k0_rz0_NoDay (t_var a0_5) rfl) (t_paV (t_newX0 o0 g0_NoName k0_rz0_NoName (t_var a0_5) rfl) (t_paV (t_newX1 o0 g0_Twice k0_rz1_Twice (by decide) (t_var a0_4) rfl) (t_paV (t_newX1 o0 g0_NoCard k0_rz1_NoCard (by decide) (t_var a0_4) rfl) pa0V rfl) rfl) rfl) rfl) rfl) rfl) rfl)) rfl)
    (s_cons (t_set o0 t0_6 (t_bin o0 .add (t_opd a0_6) (PE.opd (s_lst (t_paV (t_newX1 o0 g0_NotAsked k0_rz1_NotAsked (by decide) (t_var a0_4) rfl) (t_paV (t_newX1 o0 g0_NotDue k0_rz1_NotDue (by decide) (t_var a0_4) rfl) (t_paV (t_newX0 o0 g0_NoAnswer k0_rz0_NoAnswer (t_var a0_5) rfl) (t_paV (t_newX0 o0 g0_NoDeed k0_rz0_NoDeed (t_var a0_5) rfl) (t_paV (t_newX1 o0 g0_Clash k0_rz1_Clash (by decide) (s_tup (t_paV (t_ix o0 (t_opd a0_4) (PE.opd s_int) rfl) (t_paV (t_bin o0 .add (PE.opd s_int) (PE.opd (t_bin o0 .mod (t_opd a0_3) (PE.opd s_int)))) pa0V rfl) rfl)) rfl) pa0V rfl) rfl) rfl) rfl) rfl)))) rfl)
    (s_cons (t_set o0 t0_6 (t_bin o0 .add (t_opd a0_6) (PE.opd (s_lst (t_paV (t_newX0 o0 g0_TooMany k0_rz0_TooMany (t_var a0_5) rfl) (t_paV (t_newX0 o0 g0_NoMatch k0_rz0_NoMatch (t_var a0_5) rfl) (t_paV (t_newX0 o0 g0_NoRow k0_rz0_NoRow (t_var a0_5) rfl) pa0V rfl) rfl) rfl)))) rfl)
    (s_cons (s_if (t_cmpT o0 .ne (PE.opd (t_comp (own := [("_law_e", 7)]) o0 z0 (t_ival o0 (t_var a0_6)) (by kernel_rfl) rfl rfl (fun X1 P1 o1 z1 s1 => by have t1_7 := z1.to 7 "_law_e" rfl (by kernel_rfl); have a1_7 := z1.at_ 7 "_law_e" rfl (by kernel_rfl); have c1__law_marks := s1.call c0__law_marks; have g1__law_marks := z1.gn "_law_marks" (by kernel_rfl); exact ⟨(t_tg1 o1 t1_7), t_if0, (t_call o1 c1__law_marks (by decide) g1__law_marks (t_paV (t_var a1_7) pa0V rfl) rfl)⟩))) (PE.opd (t_comp (own := [("_law_number", 8)]) o0 z0 (t_rng1 b0_range (t_paP (PE.opd s_int) pa0P rfl) rfl) (by kernel_rfl) rfl rfl (fun X1 P1 o1 z1 s1 => by have t1_8 := z1.to 8 "_law_number" rfl (by kernel_rfl); have a1_8 := z1.at_ 8 "_law_number" rfl (by kernel_rfl); exact ⟨(t_tg1 o1 t1_8), t_if0, (t_var a1_8)⟩))) rfl)
      (s_cons (s_ret s_bl) s_nil)
      s_nil)
    (s_cons (s_if (PW.pt (s_or (t_cmpT o0 .ne (PE.opd (t_fld o0 k0_fld_at (PE.opd (t_ix o0 (t_opd a0_6) (PE.opd s_int) rfl)) rfl)) (t_opd a0_3) rfl) (s_or1 (t_cmpT o0 .ne (PE.opd (t_comp (own := [("_law_at", 9)]) o0 z0 (t_ival o0 (s_tup (t_paV s_int (t_paV s_int (t_paV s_int (t_paV s_int pa0V rfl) rfl) rfl) rfl))) (by kernel_rfl) rfl rfl (fun X1 P1 o1 z1 s1 => by have t1_9 := z1.to 9 "_law_at" rfl (by kernel_rfl); have a1_6 := z1.at_ 6 "_law_made" rfl (by kernel_rfl); have a1_9 := z1.at_ 9 "_law_at" rfl (by kernel_rfl); have k1_fld_name := s1.fld k0_fld_name; exact ⟨(t_tg1 o1 t1_9), t_if0, (t_fld o1 k1_fld_name (PE.opd (t_ix o1 (t_opd a1_6) (t_opd a1_9) rfl)) rfl)⟩))) (PE.opd (t_bin o0 .mul (PE.opd (s_lst (t_paV (t_var a0_4) pa0V rfl))) (PE.opd s_int))) rfl))))
      (s_cons (s_ret s_bl) s_nil)
      s_nil)
    (s_cons (s_if (t_cmpT o0 .ne (PE.opd (t_fld o0 k0_fld_which (PE.opd (t_ix o0 (t_opd a0_6) (PE.opd s_int) rfl)) rfl)) (PE.opd (s_tup (t_paV (t_ix o0 (t_opd a0_4) (PE.opd s_int) rfl) (t_paV (t_bin o0 .add (PE.opd s_int) (PE.opd (t_bin o0 .mod (t_opd a0_3) (PE.opd s_int)))) pa0V rfl) rfl))) rfl)
      (s_cons (s_ret s_bl) s_nil)
      s_nil) s_nil)))))))))) rfl)
  (s_cons (s_ret s_bl) s_nil))
abbrev mkK (K : PySem.W.Frag) (w : World) : KW := mkT xlL olL K w
theorem si_NoText : FnScope ["self", "at"] ["self", "at"] (defScope (cb 2 0)) := ⟨rfl, rfl, rfl, by decide +kernel, rfl, by decide +kernel, by decide +kernel⟩
theorem rz_NoText {P : Program} {w : World} {K : PySem.W.Frag} {mg : Str → Option Value} {base : Heap} (z : Rzz K xlL "NoText" "BoxError" "at" 1 mg) {fd : FuncData} (F : FunD K "__init__" "NoText.__init__" (defArgs (cb 2 0)) (defBody (cb 2 0)) (defScope (cb 2 0)) [] [] (He.fAd K ("NoText", some "__init__")) fd) : Rz1 P w (mkK K w) mg base 1 "NoText" 1 :=
  z.mk1 (init_ok F si_NoText (by kernel_rfl) (by kernel_rfl) (by kernel_rfl) z.gB z.bi (fun _ => rfl)) (F.bindsN fun _ _ _ _ _ _ us hl => match us, hl with | [_, _], _ => rfl)
theorem si_Twice : FnScope ["self", "name"] ["self", "name"] (defScope (cb 7 0)) := ⟨rfl, rfl, rfl, by decide +kernel, rfl, by decide +kernel, by decide +kernel⟩
theorem rz_Twice {P : Program} {w : World} {K : PySem.W.Frag} {mg : Str → Option Value} {base : Heap} (z : Rzz K xlL "Twice" "BoxError" "name" 6 mg) {fd : FuncData} (F : FunD K "__init__" "Twice.__init__" (defArgs (cb 7 0)) (defBody (cb 7 0)) (defScope (cb 7 0)) [] [] (He.fAd K ("Twice", some "__init__")) fd) : Rz1 P w (mkK K w) mg base 1 "Twice" 6 :=
  z.mk1 (init_ok F si_Twice (by kernel_rfl) (by kernel_rfl) (by kernel_rfl) z.gB z.bi (fun _ => rfl)) (F.bindsN fun _ _ _ _ _ _ us hl => match us, hl with | [_, _], _ => rfl)
theorem si_NoCard : FnScope ["self", "name"] ["self", "name"] (defScope (cb 8 0)) := ⟨rfl, rfl, rfl, by decide +kernel, rfl, by decide +kernel, by decide +kernel⟩
theorem rz_NoCard {P : Program} {w : World} {K : PySem.W.Frag} {mg : Str → Option Value} {base : Heap} (z : Rzz K xlL "NoCard" "BoxError" "name" 7 mg) {fd : FuncData} (F : FunD K "__init__" "NoCard.__init__" (defArgs (cb 8 0)) (defBody (cb 8 0)) (defScope (cb 8 0)) [] [] (He.fAd K ("NoCard", some "__init__")) fd) : Rz1 P w (mkK K w) mg base 1 "NoCard" 7 :=
  z.mk1 (init_ok F si_NoCard (by kernel_rfl) (by kernel_rfl) (by kernel_rfl) z.gB z.bi (fun _ => rfl)) (F.bindsN fun _ _ _ _ _ _ us hl => match us, hl with | [_, _], _ => rfl)
theorem si_NotAsked : FnScope ["self", "name"] ["self", "name"] (defScope (cb 9 0)) := ⟨rfl, rfl, rfl, by decide +kernel, rfl, by decide +kernel, by decide +kernel⟩
theorem rz_NotAsked {P : Program} {w : World} {K : PySem.W.Frag} {mg : Str → Option Value} {base : Heap} (z : Rzz K xlL "NotAsked" "BoxError" "name" 8 mg) {fd : FuncData} (F : FunD K "__init__" "NotAsked.__init__" (defArgs (cb 9 0)) (defBody (cb 9 0)) (defScope (cb 9 0)) [] [] (He.fAd K ("NotAsked", some "__init__")) fd) : Rz1 P w (mkK K w) mg base 1 "NotAsked" 8 :=
  z.mk1 (init_ok F si_NotAsked (by kernel_rfl) (by kernel_rfl) (by kernel_rfl) z.gB z.bi (fun _ => rfl)) (F.bindsN fun _ _ _ _ _ _ us hl => match us, hl with | [_, _], _ => rfl)
theorem si_NotDue : FnScope ["self", "name"] ["self", "name"] (defScope (cb 10 0)) := ⟨rfl, rfl, rfl, by decide +kernel, rfl, by decide +kernel, by decide +kernel⟩
theorem rz_NotDue {P : Program} {w : World} {K : PySem.W.Frag} {mg : Str → Option Value} {base : Heap} (z : Rzz K xlL "NotDue" "BoxError" "name" 9 mg) {fd : FuncData} (F : FunD K "__init__" "NotDue.__init__" (defArgs (cb 10 0)) (defBody (cb 10 0)) (defScope (cb 10 0)) [] [] (He.fAd K ("NotDue", some "__init__")) fd) : Rz1 P w (mkK K w) mg base 1 "NotDue" 9 :=
  z.mk1 (init_ok F si_NotDue (by kernel_rfl) (by kernel_rfl) (by kernel_rfl) z.gB z.bi (fun _ => rfl)) (F.bindsN fun _ _ _ _ _ _ us hl => match us, hl with | [_, _], _ => rfl)
theorem si_Clash : FnScope ["self", "which"] ["self", "which"] (defScope (cb 13 0)) := ⟨rfl, rfl, rfl, by decide +kernel, rfl, by decide +kernel, by decide +kernel⟩
theorem rz_Clash {P : Program} {w : World} {K : PySem.W.Frag} {mg : Str → Option Value} {base : Heap} (z : Rzz K xlL "Clash" "BoxError" "which" 12 mg) {fd : FuncData} (F : FunD K "__init__" "Clash.__init__" (defArgs (cb 13 0)) (defBody (cb 13 0)) (defScope (cb 13 0)) [] [] (He.fAd K ("Clash", some "__init__")) fd) : Rz1 P w (mkK K w) mg base 1 "Clash" 12 :=
  z.mk1 (init_ok F si_Clash (by kernel_rfl) (by kernel_rfl) (by kernel_rfl) z.gB z.bi (fun _ => rfl)) (F.bindsN fun _ _ _ _ _ _ us hl => match us, hl with | [_, _], _ => rfl)
def cv0 : Nat → Value × Str := fun _ => (.none, "")
theorem facts {P : Program} {w : World} {K : PySem.W.Frag} {h : Heap} {mg : Str → Option Value} {f : Addr} (X : K.In h) (G : h.Ns mainGlobals mg) (hfa : mg ("law" : Str) = some (.ref f)) (c : SaysM faL ksL fnL exL K) :
    ∃ fd : FuncData, (∀ (s : Shared) (v : Value), BindsTo s fd ⟨[v], []⟩ [("_law_script", v)]) ∧ ∀ base : Heap, FnG P w (mkK K w) mg base (L2.CX P w) 3 f fd ["_law_script"] (spF (mkK K w) cv0 fn_law 1) := by
  have m_int : mg "int" = none := He.free_ok X G (c.fact 6 (f := .free "int") rfl)
  have m_isinstance : mg "isinstance" = none := He.free_ok X G (c.fact 7 (f := .free "isinstance") rfl)
  have m_len : mg "len" = none := He.free_ok X G (c.fact 8 (f := .free "len") rfl)
  have m_min : mg "min" = none := He.free_ok X G (c.fact 9 (f := .free "min") rfl)
  have m_range : mg "range" = none := He.free_ok X G (c.fact 10 (f := .free "range") rfl)
  have isx_BoxError : IsxAt (mkK K w) mg ["BoxError"] [true, true, true, true, true, true, true, true, true, true, true, true, true, true, true, true] [] := isxB_ok X G (c.chk 0 rfl)
  have isx_Clash : IsxAt (mkK K w) mg ["Clash"] [false, false, false, false, false, false, false, false, false, false, false, false, true, false, false, false] [] := isxB_ok X G (c.chk 1 rfl)
  have isx_NoAnswer : IsxAt (mkK K w) mg ["NoAnswer"] [false, false, false, false, false, false, false, false, false, false, true, false, false, false, false, false] [] := isxB_ok X G (c.chk 2 rfl)
  have isx_NoBox : IsxAt (mkK K w) mg ["NoBox"] [false, false, false, true, false, false, false, false, false, false, false, false, false, false, false, false] [] := isxB_ok X G (c.chk 3 rfl)
  have isx_NoCard : IsxAt (mkK K w) mg ["NoCard"] [false, false, false, false, false, false, false, true, false, false, false, false, false, false, false, false] [] := isxB_ok X G (c.chk 4 rfl)
  have isx_NoDay : IsxAt (mkK K w) mg ["NoDay"] [false, false, false, false, true, false, false, false, false, false, false, false, false, false, false, false] [] := isxB_ok X G (c.chk 5 rfl)
  have isx_NoDeed : IsxAt (mkK K w) mg ["NoDeed"] [false, false, false, false, false, false, false, false, false, false, false, true, false, false, false, false] [] := isxB_ok X G (c.chk 6 rfl)
  have isx_NoMatch : IsxAt (mkK K w) mg ["NoMatch"] [false, false, false, false, false, false, false, false, false, false, false, false, false, false, true, false] [] := isxB_ok X G (c.chk 7 rfl)
  have isx_NoName : IsxAt (mkK K w) mg ["NoName"] [false, false, false, false, false, true, false, false, false, false, false, false, false, false, false, false] [] := isxB_ok X G (c.chk 8 rfl)
  have isx_NoRow : IsxAt (mkK K w) mg ["NoRow"] [false, false, false, false, false, false, false, false, false, false, false, false, false, false, false, true] [] := isxB_ok X G (c.chk 9 rfl)
  have isx_NoStep : IsxAt (mkK K w) mg ["NoStep"] [false, false, true, false, false, false, false, false, false, false, false, false, false, false, false, false] [] := isxB_ok X G (c.chk 10 rfl)
  have isx_NoText : IsxAt (mkK K w) mg ["NoText"] [false, true, false, false, false, false, false, false, false, false, false, false, false, false, false, false] [] := isxB_ok X G (c.chk 11 rfl)
  have isx_NotAsked : IsxAt (mkK K w) mg ["NotAsked"] [false, false, false, false, false, false, false, false, true, false, false, false, false, false, false, false] [] := isxB_ok X G (c.chk 12 rfl)
  have isx_NotDue : IsxAt (mkK K w) mg ["NotDue"] [false, false, false, false, false, false, false, false, false, true, false, false, false, false, false, false] [] := isxB_ok X G (c.chk 13 rfl)
  have isx_TooMany : IsxAt (mkK K w) mg ["TooMany"] [false, false, false, false, false, false, false, false, false, false, false, false, false, true, false, false] [] := isxB_ok X G (c.chk 14 rfl)
  have isx_Twice : IsxAt (mkK K w) mg ["Twice"] [false, false, false, false, false, false, true, false, false, false, false, false, false, false, false, false] [] := isxB_ok X G (c.chk 15 rfl)
  have isx_ValueError : IsxAt (mkK K w) mg ["ValueError"] [true, true, true, true, true, true, true, true, true, true, true, true, true, true, true, true] [] := isxB_ok X G (c.chk 16 rfl)
  have fld_at : FldAt (mkK K w) "at" [false, true, false, false, false, false, false, false, false, false, false, false, false, false, false, false] [] := fldB_ok (c.chk 17 rfl)
  have fld_name : FldAt (mkK K w) "name" [false, false, false, false, false, false, true, true, true, true, false, false, false, false, false, false] [] := fldB_ok (c.chk 18 rfl)
  have fld_which : FldAt (mkK K w) "which" [false, false, false, false, false, false, false, false, false, false, false, false, true, false, false, false] [] := fldB_ok (c.chk 19 rfl)
  obtain ⟨fi_NoText, FI_NoText⟩ := c.def_ 6 (d := di 2 0 "NoText" "__init__" "NoText.__init__") rfl
  have rz1_NoText : ∀ base : Heap, Rz1 P w (mkK K w) mg base 1 "NoText" c_NoText := fun base => rz_NoText (rz1B_ok X G (c.chk 20 rfl)) FI_NoText
  have rz0_NoStep : Rz0 (mkK K w) mg "NoStep" c_NoStep := rz0B_ok X G (c.chk 21 rfl)
  have rz0_NoBox : Rz0 (mkK K w) mg "NoBox" c_NoBox := rz0B_ok X G (c.chk 22 rfl)
  have rz0_NoDay : Rz0 (mkK K w) mg "NoDay" c_NoDay := rz0B_ok X G (c.chk 23 rfl)
  have rz0_NoName : Rz0 (mkK K w) mg "NoName" c_NoName := rz0B_ok X G (c.chk 24 rfl)
  obtain ⟨fi_Twice, FI_Twice⟩ := c.def_ 7 (d := di 7 0 "Twice" "__init__" "Twice.__init__") rfl
  have rz1_Twice : ∀ base : Heap, Rz1 P w (mkK K w) mg base 1 "Twice" c_Twice := fun base => rz_Twice (rz1B_ok X G (c.chk 25 rfl)) FI_Twice
  obtain ⟨fi_NoCard, FI_NoCard⟩ := c.def_ 8 (d := di 8 0 "NoCard" "__init__" "NoCard.__init__") rfl
  have rz1_NoCard : ∀ base : Heap, Rz1 P w (mkK K w) mg base 1 "NoCard" c_NoCard := fun base => rz_NoCard (rz1B_ok X G (c.chk 26 rfl)) FI_NoCard
  obtain ⟨fi_NotAsked, FI_NotAsked⟩ := c.def_ 9 (d := di 9 0 "NotAsked" "__init__" "NotAsked.__init__") rfl
  have rz1_NotAsked : ∀ base : Heap, Rz1 P w (mkK K w) mg base 1 "NotAsked" c_NotAsked := fun base => rz_NotAsked (rz1B_ok X G (c.chk 27 rfl)) FI_NotAsked
  obtain ⟨fi_NotDue, FI_NotDue⟩ := c.def_ 10 (d := di 10 0 "NotDue" "__init__" "NotDue.__init__") rfl
  have rz1_NotDue : ∀ base : Heap, Rz1 P w (mkK K w) mg base 1 "NotDue" c_NotDue := fun base => rz_NotDue (rz1B_ok X G (c.chk 28 rfl)) FI_NotDue
  have rz0_NoAnswer : Rz0 (mkK K w) mg "NoAnswer" c_NoAnswer := rz0B_ok X G (c.chk 29 rfl)
  have rz0_NoDeed : Rz0 (mkK K w) mg "NoDeed" c_NoDeed := rz0B_ok X G (c.chk 30 rfl)
  obtain ⟨fi_Clash, FI_Clash⟩ := c.def_ 11 (d := di 13 0 "Clash" "__init__" "Clash.__init__") rfl
  have rz1_Clash : ∀ base : Heap, Rz1 P w (mkK K w) mg base 1 "Clash" c_Clash := fun base => rz_Clash (rz1B_ok X G (c.chk 31 rfl)) FI_Clash
  have rz0_TooMany : Rz0 (mkK K w) mg "TooMany" c_TooMany := rz0B_ok X G (c.chk 32 rfl)
  have rz0_NoMatch : Rz0 (mkK K w) mg "NoMatch" c_NoMatch := rz0B_ok X G (c.chk 33 rfl)
  have rz0_NoRow : Rz0 (mkK K w) mg "NoRow" c_NoRow := rz0B_ok X G (c.chk 34 rfl)
  obtain ⟨fd0, F0⟩ := c.def_ 0 (d := dd 18 "_law_cell") rfl
  have c__law_cell : ∀ base : Heap, CallAt P w (mkK K w) mg base cv0 1 "_law_cell" 2 fn__law_cell := fun base => b__law_cell (K := mkK K w) m_len F0 (He.glo_ok X G (c.fact 0 (f := .glo "_law_cell") rfl))
  obtain ⟨fd1, F1⟩ := c.def_ 1 (d := dd 19 "_law_digits") rfl
  have c__law_digits : ∀ base : Heap, CallAt P w (mkK K w) mg base cv0 2 "_law_digits" 2 fn__law_digits := fun base => b__law_digits (K := mkK K w) (c__law_cell base) m_range F1 (He.glo_ok X G (c.fact 1 (f := .glo "_law_digits") rfl))
  obtain ⟨fd2, F2⟩ := c.def_ 2 (d := dd 20 "_law_take") rfl
  have c__law_take : ∀ base : Heap, CallAt P w (mkK K w) mg base cv0 1 "_law_take" 2 fn__law_take := fun base => b__law_take (K := mkK K w) F2 (He.glo_ok X G (c.fact 2 (f := .glo "_law_take") rfl))
  obtain ⟨fd3, F3⟩ := c.def_ 3 (d := dd 21 "_law_names") rfl
  have c__law_names : ∀ base : Heap, CallAt P w (mkK K w) mg base cv0 2 "_law_names" 2 fn__law_names := fun base => b__law_names (K := mkK K w) (c__law_take base) m_int m_len m_range F3 (He.glo_ok X G (c.fact 3 (f := .glo "_law_names") rfl))
  obtain ⟨fd4, F4⟩ := c.def_ 4 (d := dd 22 "_law_marks") rfl
  have c__law_marks : ∀ base : Heap, CallAt P w (mkK K w) mg base cv0 1 "_law_marks" 1 fn__law_marks := fun base => b__law_marks (K := mkK K w) m_isinstance m_len isx_BoxError isx_Clash isx_NoAnswer isx_NoBox isx_NoCard isx_NoDay isx_NoDeed isx_NoMatch isx_NoName isx_NoRow isx_NoStep isx_NoText isx_NotAsked isx_NotDue isx_TooMany isx_Twice isx_ValueError F4 (He.glo_ok X G (c.fact 4 (f := .glo "_law_marks") rfl))
  obtain ⟨fd5, F5⟩ := c.def_ 5 (d := dd 23 "law") rfl
  have e := hfa.symm.trans (He.glo_ok X G (c.fact 5 (f := .glo "law") rfl))
  cases e
  have b := FunD.bindsA (ps := ["_law_script"]) F5 fun _ _ _ _ _ _ us hl => match us, hl with | [_], _ => rfl
  exact ⟨fd5, fun s v => b s [v] rfl, fun base => b_law (K := mkK K w) (c__law_digits base) (c__law_marks base) (c__law_names base) (c__law_take base) m_len m_min m_range fld_at fld_name fld_which rz0_NoAnswer rz0_NoBox rz0_NoDay rz0_NoDeed rz0_NoMatch rz0_NoName rz0_NoRow rz0_NoStep rz0_TooMany (rz1_Clash base) (rz1_NoCard base) (rz1_NoText base) (rz1_NotAsked base) (rz1_NotDue base) (rz1_Twice base) F5⟩
end Mi

open PySem PySem.W PySem.Calls PyProof.Rows
theorem PySem.Challenge.cw_recall_k10_refusals_made_holds : PySem.Challenge.rw_recall_k10_refusals_made.Holds := by
  w_on; o_law
  refine HandSHeadRun.head_any (r := OpenLaw.row PySem.Challenge.rw_recall_k10_refusals_made) (q := view (OpenLaw.row PySem.Challenge.rw_recall_k10_refusals_made).prog [23]) (H := Mi.hkL) (ob := Mi.obL) (M := 20000) (loose := Mi.looseL) (d := HandSHeadRun.topDef (OpenLaw.row PySem.Challenge.rw_recall_k10_refusals_made).prog 23) (kwd := []) Mi.obL_eq
    (by kernel_rfl) (fun s => by kernel_rfl) Mi.runL (by kernel_rfl) (by kernel_rfl) (by kernel_rfl) (by rfl) (by first | assumption | decide +kernel) (by decide +kernel) ⟨rfl, rfl, rfl, rfl, rfl, by decide +kernel⟩ ?hw ?hc
  case hw => w_witness2
  case hc =>
    refine Mi.walk_ofC (l := PySem.Challenge.rw_recall_k10_refusals_made) (n := 63) (k := 3) (x := "_law_script") (g := Mi.fn_law) (cv := Mi.cv0) rfl (by decide) (by kernel_rfl) ⟨rfl, by decide, by decide⟩ ?F Mi.law_true
    intro w mg fa h Y G hmg0
    obtain ⟨K, KX, c⟩ := Y
    have hmg : mg ("law" : PySem.Str) = some (.ref fa) := by
      have e : (HandSHeadRun.topDef (OpenLaw.row PySem.Challenge.rw_recall_k10_refusals_made).prog 23).name = ("law" : PySem.Str) := by kernel_rfl
      rw [← e]
      exact hmg0
    obtain ⟨fd, hb, hF⟩ := Mi.facts (P := (PySem.Challenge.rw_recall_k10_refusals_made).prog) (w := w) KX G hmg c
    exact ⟨Mi.mkK K w, fd, KX, hb, fun base _ _ => hF base⟩

