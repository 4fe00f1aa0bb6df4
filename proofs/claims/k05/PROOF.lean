import PyProof.Rows.All
import Wide.All
import OpenK.AllK
import Wide.FinOn
import HandS.ForMost
import HandS.Exc
import HandS.Deep
import KE.KDictKeyed
import HandS.TupAny
import HandS.Wide
import HandS.CallSlots
import HandS.ExcOwn
import HandS.ExcCtx
import HandS.WordsExc
import HandS.Zip
import HandS.IsInst
import HandS.Text
import KE.KExcIs
import HandS.RaiseMore
import KE.KDictCopyH
import PyProof.ReprRoads
import PyProof.DictMoreH
import HandS.More
import PyProof.Rows.TupDisplay
import HandS.EndBits
import HandS.Style
import HandS.StrMore
import KE.KDictList
import PyProof.ListStr
import KE.SortKeyHeap
import HandS.SortKw
import HandS.ExcValue
import HandS.Replace
import PyProof.StrLawsOcc
import PyProof.Rows.StrLawsPart
import HandS.TupMul
import PyProof.MaxThree
import PyProof.StrOps2
import HandS.TryOnly
import HandS.SuiteRaise
import HandS.HeadHook3
import KE.IntTextLaws
import KE.IntTextText
import PySem.Challenge.RW_webshapes_k05_facts_as_texts
set_option Elab.async false
set_option linter.all false
set_option maxRecDepth 100000
set_option maxHeartbeats 4000000
/-! Wa: data trees, what stands for them, slots, outcomes. -/
namespace WS
open PySem L2

/-- a thing as data -/
inductive D where
  | non | bl (b : Bool) | int (i : Int) | str (s : List Nat) | tup (xs : List D) | lst (xs : List D) | dct (kvs : List (D × D)) | scr (ns : List Int) | err (n : String) (fs : List (String × D))
  deriving Inhabited

abbrev mkS (s : List Nat) : Str := ⟨s.toArray⟩
/-- a text as its signs -/
def sg (s : String) : List Nat := s.toList.map Char.toNat
theorem sg_str (s : String) : mkS (sg s) = Str.ofString s := by rw [Str.ofString_eq_toList]; rfl
def okS (s : List Nat) : Bool := s.all fun c => decide (c < 0x110000)
theorem okS_ok {s : List Nat} (h : okS s = true) : PyData.strOk (mkS s) = true := by
  unfold PyData.strOk okS at *
  rw [← Array.all_toList]
  exact h

mutual
/-- a key as the library's own keys -/
def nk : D → NestedKey
  | .non => .none
  | .bl b => .num (if b = true then 1 else 0)
  | .int i => .num i
  | .str s => .text (mkS s)
  | .tup xs => .tup (nks xs)
  | .lst _ => .none
  | .dct _ => .none
  | .scr _ => .none
  | .err _ _ => .none
def nks : List D → List NestedKey
  | [] => []
  | x :: xs => nk x :: nks xs
end
mutual
/-- may stand as a key -/
def isKey : D → Bool
  | .non => true
  | .bl _ => true
  | .int _ => true
  | .str _ => true
  | .tup xs => areKeys xs
  | .lst _ => false
  | .dct _ => false
  | .scr _ => false
  | .err _ _ => false
def areKeys : List D → Bool
  | [] => true
  | x :: xs => isKey x && areKeys xs
end

/-- .. and is no deeper than the library's rules go -/
def isK (d : D) : Bool := isKey d && decide ((nk d).depth ≤ 8)

/-- the object of a dict with these entries -/
def dO (a : Addr) (ep : Nat) (es : List DictEntry) : HO := .ext fun h => (a == sysModules) = false ∧ es.length ≤ sizeLine ∧ ∃ o, h.get? a = some o ∧ o.ExactDict ∧ o.data = .dict es.toArray ep

/-- an exception object of a class, with its own dict or none, at a -/
def exT (cls : Value) (d : Option Addr) (a : Addr) : HO := .ext fun h => ∃ (oe : Obj) (vs : Array Value), h.get? a = some oe ∧ Zc cls d oe ∧ oe.data = .fields vs
/-- the names of the plain types -/
def names7 : List String := ["NoneType", "bool", "int", "str", "tuple", "list", "dict"]
/-- an own exception class, as the module knows it -/
structure ExCls (K : PySem.W.Frag) (C : Addr) : Prop where
  cl : (PySem.W.clsIn K C).isSome = true
  ga : PySem.W.findIn K (.ref C) "__getattribute__" = some (some (.builtin "BaseException.__getattribute__"))
  gt : ∃ g, PySem.W.findIn K (.ref C) "__getattr__" = some g
  sb : PySem.W.subIn K (.ref C) (.type "BaseException") = some true
  ca : PySem.W.findIn K (.ref C) "__class__" = some (some (.builtin "object.__class__"))
  sp : PySem.W.specialIn K (.builtin "object.__class__") "__get__" = some (some (.builtin "getset_descriptor.__get__"))
  tk : PySem.W.takesIn K (.builtin "object.__class__") = some true
  mo : PySem.W.mroIn K C (.type "object") = some true
  ty : PySem.W.typeIn K (.ref C) = some (.type "type")
  k7 : ∀ T ∈ names7, PySem.W.kitOne K (.ref C) (.type T) = some false
/-- the own class of that name -/
def clsIs (K : PySem.W.Frag) (n : String) (C : Addr) : Prop := PySem.W.nsIn K mainGlobals (Str.ofString n) = some (some (.ref C)) ∧ ExCls K C
mutual
/-- v stands for d, all that it leans on is kept in F -/
inductive Rep (w : World) (K : PySem.W.Frag) (F : Hp) : V → D → Prop
  | non : Rep w K F .non .non
  | bl (b : Bool) : Rep w K F (.bl b) (.bl b)
  | int (i : Int) : Rep w K F (.int i) (.int i)
  | str (s : List Nat) : okS s = true → s.length ≤ sizeLine → Rep w K F (.str (mkS s)) (.str s)
  | tup {a : Addr} {vs : List V} {ds : List D} : SqT K F a vs → RepL w K F vs ds → Rep w K F (.ref a) (.tup ds)
  | lst {a : Addr} {vs : List V} {ds : List D} : F a = some (.lst vs) → RepL w K F vs ds → Rep w K F (.ref a) (.lst ds)
  | scr {a : Addr} {ns : List Int} : SqL K F a (ns.map V.int) → Rep w K F (.ref a) (.scr ns)
  | dct {a : Addr} {ep : Nat} {es : List DictEntry} {kvs : List (D × D)} : F a = some (dO a ep es) → RepE w K F es kvs → (kvs.map fun p => nk p.1).Nodup → Rep w K F (.ref a) (.dct kvs)
  | err {a C : Addr} {n : String} {dx : Option Addr} {fs : List (String × D)} : clsIs K n C → F a = some (exT (.ref C) dx a) → RepX w K F dx fs → Rep w K F (.ref a) (.err n fs)
inductive RepX (w : World) (K : PySem.W.Frag) (F : Hp) : Option Addr → List (String × D) → Prop
  | nil : RepX w K F none []
  | one {dx : Addr} {f : String} {v : V} {d : D} : F dx = some (.xd [(Str.ofString f, v)]) → Rep w K F v d → RepX w K F (some dx) [(f, d)]
inductive RepL (w : World) (K : PySem.W.Frag) (F : Hp) : List V → List D → Prop
  | nil : RepL w K F [] []
  | cons {v : V} {d : D} {vs : List V} {ds : List D} : Rep w K F v d → RepL w K F vs ds → RepL w K F (v :: vs) (d :: ds)
inductive RepE (w : World) (K : PySem.W.Frag) (F : Hp) : List DictEntry → List (D × D) → Prop
  | nil : RepE w K F [] []
  | cons {e : DictEntry} {es : List DictEntry} {k v : D} {kvs : List (D × D)} {kv vv : V} : RelV kv e.key → Rep w K F kv k → isK k = true → e.hash = (nk k).hash w → RelV vv e.val → Rep w K F vv v →
      RepE w K F es kvs → RepE w K F (e :: es) ((k, v) :: kvs)
end

/-- all of F stands in H -/
def Sub (F H : Hp) : Prop := ∀ a o, F a = some o → H a = some o
theorem Sub.refl (F : Hp) : Sub F F := fun _ _ h => h
theorem Sub.trans {F G H : Hp} (a : Sub F G) (b : Sub G H) : Sub F H := fun c o h => b c o (a c o h)
section
variable {w : World} {K : PySem.W.Frag} {F G H : Hp}
theorem SqL_sub {a : Addr} {xs : List V} (s : Sub F H) (h : SqL K F a xs) : SqL K H a xs := by
  rcases h with (h | ⟨o, h⟩) | h
  · exact .inl (.inl (s _ _ h))
  · exact .inl (.inr ⟨o, s _ _ h⟩)
  · exact .inr h
theorem SqT_sub {a : Addr} {xs : List V} (s : Sub F H) (h : SqT K F a xs) : SqT K H a xs := by
  rcases h with (h | ⟨o, h⟩) | h
  · exact .inl (.inl (s _ _ h))
  · exact .inl (.inr ⟨o, s _ _ h⟩)
  · exact .inr h
mutual
theorem Rep.mono (s : Sub F H) : ∀ {d : D} {v : V}, Rep w K F v d → Rep w K H v d
  | .non, _, h => by cases h; exact .non
  | .bl _, _, h => by cases h; exact .bl _
  | .int _, _, h => by cases h; exact .int _
  | .str _, _, h => by cases h with | str _ a b => exact .str _ a b
  | .tup _, _, h => by cases h with | tup a b => exact .tup (SqT_sub s a) (RepL.mono s b)
  | .lst _, _, h => by cases h with | lst a b => exact .lst (s _ _ a) (RepL.mono s b)
  | .scr _, _, h => by cases h with | scr a => exact .scr (SqL_sub s a)
  | .dct _, _, h => by cases h with | dct a b c => exact .dct (s _ _ a) (RepE.mono s b) c
  | .err _ _, _, h => by cases h with | err a b c => exact .err a (s _ _ b) (RepX.mono s c)
theorem RepX.mono (s : Sub F H) : ∀ {fs : List (String × D)} {dx : Option Addr}, RepX w K F dx fs → RepX w K H dx fs
  | [], _, h => by cases h; exact .nil
  | [(_, _)], _, h => by cases h with | one a b => exact .one (s _ _ a) (Rep.mono s b)
  | _ :: _ :: _, _, h => by cases h
theorem RepL.mono (s : Sub F H) : ∀ {ds : List D} {vs : List V}, RepL w K F vs ds → RepL w K H vs ds
  | [], _, h => by cases h; exact .nil
  | _ :: _, _, h => by cases h with | cons a b => exact .cons (Rep.mono s a) (RepL.mono s b)
theorem RepE.mono (s : Sub F H) : ∀ {kvs : List (D × D)} {es : List DictEntry}, RepE w K F es kvs → RepE w K H es kvs
  | [], _, h => by cases h; exact .nil
  | (_, _) :: _, _, h => by cases h with | cons a b c d e f g => exact .cons a (Rep.mono s b) c d e (Rep.mono s f) (RepE.mono s g)
end
theorem RepL.length : ∀ {vs : List V} {ds : List D}, RepL w K F vs ds → vs.length = ds.length
  | _, _, .nil => rfl
  | _, _, .cons _ t => congrArg (· + 1) (RepL.length t)
theorem RepL.get {vs : List V} {ds : List D} {i : Nat} {d : D} (h : RepL w K F vs ds) (e : ds[i]? = some d) : ∃ v, vs[i]? = some v ∧ Rep w K F v d := by
  induction i generalizing vs ds with
  | zero => cases h with
    | nil => cases e
    | cons r _ => cases e; exact ⟨_, rfl, r⟩
  | succ i ih => cases h with
    | nil => cases e
    | cons _ t => exact ih t e
theorem RepL.append : ∀ {vs us : List V} {ds es : List D}, RepL w K F vs ds → RepL w K F us es → RepL w K F (vs ++ us) (ds ++ es)
  | _, _, _, _, .nil, s => s
  | _, _, _, _, .cons r t, s => .cons r (RepL.append t s)
theorem RepL.take : ∀ {vs : List V} {ds : List D} (n : Nat), RepL w K F vs ds → RepL w K F (vs.take n) (ds.take n)
  | _, _, 0, _ => .nil
  | _, _, _ + 1, .nil => .nil
  | _, _, n + 1, .cons r t => .cons r (RepL.take n t)
theorem RepL.drop : ∀ {vs : List V} {ds : List D} (n : Nat), RepL w K F vs ds → RepL w K F (vs.drop n) (ds.drop n)
  | _, _, 0, h => h
  | _, _, _ + 1, .nil => .nil
  | _, _, n + 1, .cons _ t => RepL.drop n t
theorem RepL.set {v : V} {d : D} (r : Rep w K F v d) : ∀ {vs : List V} {ds : List D} (i : Nat), RepL w K F vs ds → RepL w K F (vs.set i v) (ds.set i d)
  | _, _, _, .nil => .nil
  | _, _, 0, .cons _ t => .cons r t
  | _, _, i + 1, .cons q t => .cons q (RepL.set r i t)

/-- what an owned object at a holds -/
def Own (w : World) (K : PySem.W.Frag) (F H : Hp) (a : Addr) : D → Prop
  | .lst ds => ∃ vs, H a = some (.lst vs) ∧ RepL w K F vs ds
  | .dct kvs => ∃ ep es, H a = some (dO a ep es) ∧ RepE w K F es kvs ∧ (kvs.map fun p => nk p.1).Nodup
  | _ => False
theorem Own.mono {F' H' : Hp} {a : Addr} {d : D} (s : Sub F F') (k : ∀ o, H a = some o → H' a = some o) (h : Own w K F H a d) : Own w K F' H' a d := by
  cases d with
  | lst ds => obtain ⟨vs, x, y⟩ := h; exact ⟨vs, k _ x, y.mono s⟩
  | dct kvs => obtain ⟨ep, es, x, y, z⟩ := h; exact ⟨ep, es, k _ x, y.mono s, z⟩
  | _ => exact False.elim h
theorem Own.there {a : Addr} {d : D} (h : Own w K F H a d) : ∃ o, H a = some o := by
  cases d with
  | lst ds => obtain ⟨vs, x, y⟩ := h; exact ⟨_, x⟩
  | dct kvs => obtain ⟨ep, es, x, y, z⟩ := h; exact ⟨_, x⟩
  | _ => exact False.elim h
/-- frozen: it joins F -/
theorem Own.freeze {a : Addr} {d : D} (h : Own w K F H a d) {o : HO} (e : H a = some o) (n : F a = none) : Rep w K (upd F a o) (.ref a) d := by
  have s : Sub F (upd F a o) := fun b u q => by rw [upd_ne (ne_of_none q n)]; exact q
  cases d with
  | lst ds =>
    obtain ⟨vs, x, y⟩ := h
    rw [x] at e; cases e
    exact .lst upd_same (y.mono s)
  | dct kvs =>
    obtain ⟨ep, es, x, y, z⟩ := h
    rw [x] at e; cases e
    exact .dct upd_same (y.mono s) z
  | _ => exact False.elim h

/-- v stands for d: frozen in F, or the owned object at v -/
def Top (w : World) (K : PySem.W.Frag) (F H : Hp) (v : V) (d : D) : Prop := Rep w K F v d ∨ ∃ a, v = .ref a ∧ Own w K F H a d
theorem Top.lst {v : V} {ds : List D} (s : Sub F H) (h : Top w K F H v (.lst ds)) : ∃ a vs, v = .ref a ∧ H a = some (.lst vs) ∧ RepL w K F vs ds := by
  rcases h with h | ⟨a, rfl, vs, x, y⟩
  · cases h with | lst a b => exact ⟨_, _, rfl, s _ _ a, b⟩
  · exact ⟨a, vs, rfl, x, y⟩
theorem Top.scr {v : V} {ns : List Int} (s : Sub F H) (h : Top w K F H v (.scr ns)) : ∃ a, v = .ref a ∧ SqL K H a (ns.map V.int) := by
  rcases h with h | ⟨a, rfl, h⟩
  · cases h with | scr a => exact ⟨_, rfl, SqL_sub s a⟩
  · exact False.elim h
theorem Top.tup {v : V} {ds : List D} (s : Sub F H) (h : Top w K F H v (.tup ds)) : ∃ a vs, v = .ref a ∧ SqT K H a vs ∧ RepL w K F vs ds := by
  rcases h with h | ⟨a, rfl, h⟩
  · cases h with | tup a b => exact ⟨_, _, rfl, SqT_sub s a, b⟩
  · exact False.elim h
theorem Top.dct {v : V} {kvs : List (D × D)} (s : Sub F H) (h : Top w K F H v (.dct kvs)) : ∃ a ep es, v = .ref a ∧ H a = some (dO a ep es) ∧ RepE w K F es kvs ∧ (kvs.map fun p => nk p.1).Nodup := by
  rcases h with h | ⟨a, rfl, ep, es, x, y, z⟩
  · cases h with | dct a b c => exact ⟨_, _, _, rfl, s _ _ a, b, c⟩
  · exact ⟨a, ep, es, rfl, x, y, z⟩
theorem Top.err {v : V} {n : String} {fs : List (String × D)} (s : Sub F H) (h : Top w K F H v (.err n fs)) : ∃ a C dx, v = .ref a ∧ clsIs K n C ∧ H a = some (exT (.ref C) dx a) ∧ RepX w K F dx fs := by
  rcases h with h | ⟨a, rfl, h⟩
  · cases h with | err a b c => exact ⟨_, _, _, rfl, a, s _ _ b, c⟩
  · exact False.elim h
theorem Top.int {v : V} {i : Int} (h : Top w K F H v (.int i)) : v = .int i := by
  rcases h with h | ⟨a, rfl, h⟩
  · cases h; rfl
  · exact False.elim h
theorem Top.bl {v : V} {b : Bool} (h : Top w K F H v (.bl b)) : v = .bl b := by
  rcases h with h | ⟨a, rfl, h⟩
  · cases h; rfl
  · exact False.elim h
theorem Top.non {v : V} (h : Top w K F H v .non) : v = .non := by
  rcases h with h | ⟨a, rfl, h⟩
  · cases h; rfl
  · exact False.elim h
theorem Top.str {v : V} {s : List Nat} (h : Top w K F H v (.str s)) : v = .str (mkS s) ∧ okS s = true ∧ s.length ≤ sizeLine := by
  rcases h with h | ⟨a, rfl, h⟩
  · cases h with | str _ a b => exact ⟨rfl, a, b⟩
  · exact False.elim h
theorem Top.rep {v : V} {d : D} (s : Sub F H) (h : Top w K F H v d) : Rep w K H v d := by
  rcases h with h | ⟨a, rfl, h⟩
  · exact h.mono s
  · cases d with
    | lst ds => obtain ⟨vs, x, y⟩ := h; exact .lst x (y.mono s)
    | dct kvs => obtain ⟨ep, es, x, y, z⟩ := h; exact .dct x (y.mono s) z
    | _ => exact False.elim h
end

/-! ### slots, outcomes -/
/-- a name's slot: none yet; frozen; owned; lent by a caller: owned, frozen; locked while it is walked -/
inductive Sl where
  | un | fz (d : D) | ow (d : D) | le (d : D) | lf (d : D) | lk (d : D)
  deriving Inhabited
namespace Sl
def get : Sl → D
  | .un => .non
  | .fz d => d
  | .ow d => d
  | .le d => d
  | .lf d => d
  | .lk d => d
def own : Sl → Bool
  | .ow _ => true
  | .le _ => true
  | .lk _ => true
  | _ => false
def lent : Sl → Bool
  | .le _ => true
  | .lf _ => true
  | .lk _ => true
  | _ => false
def there : Sl → Bool
  | .un => false
  | _ => true
end Sl
/-- what an expression gives: frozen, new and not shared, or what slot i holds -/
inductive R where
  | fro (d : D) | tmp (d : D) | at (i : Nat)
  deriving Inhabited
/-- an exception: the class by its number, its field -/
structure Ex where
  cls : String
  fs : List (String × D)
abbrev Env := List Sl
inductive Out (α : Type) where
  | ok (a : α) (ρ : Env) | exn (x : Ex) (ρ : Env) | bad
inductive SOut where
  | nx (ρ : Env) | rt (r : R) (ρ : Env) | bk (ρ : Env) | ct (ρ : Env) | exn (x : Ex) (ρ : Env) | bad
abbrev SemE := Env → Out R
abbrev SemT := Env → Out Bool
abbrev SemL := Env → Out (List R)
abbrev SemS := Env → SOut
def Out.bind {α β : Type} (o : Out α) (k : α → Env → Out β) : Out β :=
  match o with
  | .ok a ρ => k a ρ
  | .exn x ρ => .exn x ρ
  | .bad => .bad
def Out.sbind {α : Type} (o : Out α) (k : α → Env → SOut) : SOut :=
  match o with
  | .ok a ρ => k a ρ
  | .exn x ρ => .exn x ρ
  | .bad => .bad
/-- what a result holds -/
def val (ρ : Env) : R → D
  | .fro d => d
  | .tmp d => d
  | .at i => (ρ.getD i .un).get
/-- frozen: the slot, if it is an owned one's -/
def frz (ρ : Env) : R → Out D
  | .fro d => .ok d ρ
  | .tmp d => .ok d ρ
  | .at i =>
    match ρ.getD i .un with
    | .ow d => .ok d (ρ.set i (.fz d))
    | .le d => .ok d (ρ.set i (.lf d))
    | .fz d => .ok d ρ
    | .lf d => .ok d ρ
    | _ => .bad
end WS
/-! Wb: states, what an expression's meaning promises, the judgements. -/
namespace WS
open PySem L2

section
variable (w : World) (K : PySem.W.Frag)
def slR (F H : Hp) (v : V) : Sl → Prop
  | .un => True
  | .fz d => Rep w K F v d
  | .lf d => Rep w K F v d
  | .ow d => ∃ a, v = .ref a ∧ F a = none ∧ Own w K F H a d
  | .le d => ∃ a, v = .ref a ∧ F a = none ∧ Own w K F H a d
  | .lk d => ∃ a, v = .ref a ∧ F a = none ∧ Own w K F H a d
structure StR (F H : Hp) (σ : St) (ρ : Env) : Prop where
  sub : Sub F H
  len : σ.length = ρ.length
  slot : ∀ (i : Nat) sl, ρ[i]? = some sl → sl.there = true → ∃ v, σ[i]? = some (some v) ∧ slR w K F H v sl
  inj : ∀ (i j : Nat) si sj a, ρ[i]? = some si → ρ[j]? = some sj → si.own = true → sj.own = true → σ[i]? = some (some (.ref a)) → σ[j]? = some (some (.ref a)) → i = j
end
/-- b is owned by a slot -/
def ownS (σ : St) (ρ : Env) (b : Addr) : Prop := ∃ (i : Nat) (sl : Sl), ρ[i]? = some sl ∧ sl.own = true ∧ σ[i]? = some (some (.ref b))
/-- .. or is the new thing itself -/
def ownR (σ : St) (ρ : Env) (v : V) (r : R) (b : Addr) : Prop := ownS σ ρ b ∨ ∃ d, r = .tmp d ∧ v = .ref b
/-- what is kept on the way -/
structure Fr (F H : Hp) (o : Addr → Prop) (F' H' : Hp) (o' : Addr → Prop) : Prop where
  keep : ∀ b u, H b = some u → ¬ o b → H' b = some u
  new : ∀ b, o' b → o b ∨ H b = none
  frz : ∀ b u, F' b = some u → F b = some u ∨ o b ∨ H b = none
  mono : Sub F F'
theorem Fr.trans {F H F1 H1 F2 H2 : Hp} {o o1 p1 o2 : Addr → Prop} (x : Fr F H o F1 H1 o1) (y : Fr F1 H1 p1 F2 H2 o2) (i : ∀ b, p1 b → o1 b) : Fr F H o F2 H2 o2 where
  keep := fun b u e n => y.keep b u (x.keep b u e n) fun z => by
    rcases x.new b (i b z) with q | q
    · exact n q
    · rw [e] at q; cases q
  new := fun b z => by
    rcases y.new b z with q | q
    · exact x.new b (i b q)
    · cases e : H b with
      | none => exact .inr rfl
      | some u =>
        refine .inl (Classical.byContradiction fun n => ?_)
        rw [x.keep b u e n] at q; cases q
  frz := fun b u z => by
    rcases y.frz b u z with q | q | q
    · exact x.frz b u q
    · rcases x.new b (i b q) with q | q
      · exact .inr (.inl q)
      · exact .inr (.inr q)
    · cases e : H b with
      | none => exact .inr (.inr rfl)
      | some u =>
        refine .inr (.inl (Classical.byContradiction fun n => ?_))
        rw [x.keep b u e n] at q; cases q
  mono := x.mono.trans y.mono
theorem Fr.refl {F H : Hp} {o : Addr → Prop} : Fr F H o F H o := ⟨fun _ _ h _ => h, fun _ h => .inl h, fun _ _ h => .inl h, Sub.refl _⟩
theorem Fr.imp {F H F1 H1 : Hp} {o o1 o2 : Addr → Prop} (x : Fr F H o F1 H1 o1) (i : ∀ b, o2 b → o1 b) : Fr F H o F1 H1 o2 := ⟨x.keep, fun b z => x.new b (i b z), x.frz, x.mono⟩

/-- the exceptions: each class's address, its field's name -/
structure XC where
  adr : Nat → Addr
  fld : Nat → Str

section
variable (w : World) (K : PySem.W.Frag)
def XR (c : XC) (x : Ex) (cls : Value) (d : Option Addr) (F H : Hp) : Prop := ∃ C, clsIs K x.cls C ∧ cls = .ref C ∧ RepX w K F d x.fs
def ER (F H : Hp) (σ : St) (ρ : Env) (v : V) : R → Prop
  | .fro d => Rep w K F v d
  | .tmp d => ∃ a, v = .ref a ∧ F a = none ∧ Own w K F H a d ∧ ¬ ownS σ ρ a
  | .at i => σ[i]? = some (some v) ∧ ∃ sl, ρ[i]? = some sl ∧ sl.there = true
variable (c : XC) (W : WX)
/-- what is wanted behind an expression -/
def Post (σ : St) (F H : Hp) (ρ : Env) (out : Out R) (Q : VK) : Prop :=
  match out with
  | .ok r ρ' => ∀ v F' H', StR w K F' H' σ ρ' → ER w K F' H' σ ρ' v r → Fr F H (ownS σ ρ) F' H' (ownR σ ρ' v r) → Q v H'
  | .exn x ρ' => ∀ cls d F' H', StR w K F' H' σ ρ' → XR w K c x cls d F' H' → Fr F H (ownS σ ρ) F' H' (ownS σ ρ') → W cls d σ H'
  | .bad => False
def TD (f : SemE) : TE := fun σ H Q => ∃ F ρ, StR w K F H σ ρ ∧ Post w K c W σ F H ρ (f ρ) Q
def PostT (σ : St) (F H : Hp) (ρ : Env) (out : Out Bool) (Q : Bool → Hp → Prop) : Prop :=
  match out with
  | .ok b ρ' => ∀ F' H', StR w K F' H' σ ρ' → Fr F H (ownS σ ρ) F' H' (ownS σ ρ') → Q b H'
  | .exn x ρ' => ∀ cls d F' H', StR w K F' H' σ ρ' → XR w K c x cls d F' H' → Fr F H (ownS σ ρ) F' H' (ownS σ ρ') → W cls d σ H'
  | .bad => False
def TT' (f : SemT) : TT := fun σ H Q => ∃ F ρ, StR w K F H σ ρ ∧ PostT w K c W σ F H ρ (f ρ) Q
/-- a row of results -/
inductive ERL (F H : Hp) (σ : St) (ρ : Env) : List V → List R → Prop
  | nil : ERL F H σ ρ [] []
  | cons {v : V} {r : R} {vs : List V} {rs : List R} : ER w K F H σ ρ v r → (∀ d a, r = .tmp d → v = .ref a → ∀ (j : Nat) d', rs[j]? = some (.tmp d') → vs[j]? ≠ some (.ref a)) → ERL F H σ ρ vs rs → ERL F H σ ρ (v :: vs) (r :: rs)
def ownL (σ : St) (ρ : Env) (vs : List V) (rs : List R) (b : Addr) : Prop := ownS σ ρ b ∨ ∃ (j : Nat) (d : D), rs[j]? = some (.tmp d) ∧ vs[j]? = some (.ref b)
def PostL (σ : St) (F H : Hp) (ρ : Env) (out : Out (List R)) (Q : List V → Hp → Prop) : Prop :=
  match out with
  | .ok rs ρ' => ∀ vs F' H', StR w K F' H' σ ρ' → ERL w K F' H' σ ρ' vs rs → Fr F H (ownS σ ρ) F' H' (ownL σ ρ' vs rs) → Q vs H'
  | .exn x ρ' => ∀ cls d F' H', StR w K F' H' σ ρ' → XR w K c x cls d F' H' → Fr F H (ownS σ ρ) F' H' (ownS σ ρ') → W cls d σ H'
  | .bad => False
def TL (f : SemL) : TA := fun σ H Q => ∃ F ρ, StR w K F H σ ρ ∧ PostL w K c W σ F H ρ (f ρ) Q
/-- lent slots keep their object -/
def LS (σ σ' : St) (ρ : Env) : Prop := ∀ (i : Nat) sl, ρ[i]? = some sl → sl.lent = true → σ'[i]? = σ[i]?
def PostS (σ : St) (F H : Hp) (ρ : Env) (out : SOut) (D : Ends) : Prop :=
  match out with
  | .nx ρ' => ∀ σ' F' H', StR w K F' H' σ' ρ' → LS σ σ' ρ → Fr F H (ownS σ ρ) F' H' (ownS σ' ρ') → D.nx σ' H'
  | .bk ρ' => ∀ σ' F' H', StR w K F' H' σ' ρ' → LS σ σ' ρ → Fr F H (ownS σ ρ) F' H' (ownS σ' ρ') → D.bk σ' H'
  | .ct ρ' => ∀ σ' F' H', StR w K F' H' σ' ρ' → LS σ σ' ρ → Fr F H (ownS σ ρ) F' H' (ownS σ' ρ') → D.ct σ' H'
  | .rt r ρ' => ∀ v σ' F' H', StR w K F' H' σ' ρ' → LS σ σ' ρ → ER w K F' H' σ' ρ' v r → Fr F H (ownS σ ρ) F' H' (ownR σ' ρ' v r) → D.rt v H'
  | .exn x ρ' => ∀ cls d σ' F' H', StR w K F' H' σ' ρ' → LS σ σ' ρ → XR w K c x cls d F' H' → Fr F H (ownS σ ρ) F' H' (ownS σ' ρ') → W cls d σ' H'
  | .bad => False
def TSD (f : SemS) : TS := fun D σ H => ∃ F ρ, StR w K F H σ ρ ∧ PostS w K c W σ F H ρ (f ρ) D
end

/-- how a slot may turn within an expression -/
def slE : Sl → Sl → Prop
  | .ow _, .ow _ => True
  | .ow _, .fz _ => True
  | .le _, .le _ => True
  | .le _, .lf _ => True
  | a, b => a = b
theorem slE.refl : ∀ a : Sl, slE a a
  | .un => rfl
  | .fz _ => rfl
  | .ow _ => trivial
  | .le _ => trivial
  | .lf _ => rfl
  | .lk _ => rfl
theorem slE.trans {a b c : Sl} (x : slE a b) (y : slE b c) : slE a c := by
  cases a <;> cases b <;> simp [slE] at x <;> cases c <;> simp_all [slE]
theorem slE.there {a b : Sl} (x : slE a b) : b.there = a.there := by
  cases a <;> cases b <;> simp_all [slE, Sl.there]
theorem slE.lent {a b : Sl} (x : slE a b) : b.lent = a.lent := by
  cases a <;> cases b <;> simp_all [slE, Sl.lent]
/-- .. within a statement -/
def slT : Sl → Sl → Prop
  | .le _, .le _ => True
  | .le _, .lf _ => True
  | .lf a, .lf b => a = b
  | .lk a, .lk b => a = b
  | .le _, _ => False
  | .lf _, _ => False
  | .lk _, _ => False
  | _, .le _ => False
  | _, .lf _ => False
  | _, .lk _ => False
  | _, _ => True
theorem slT.refl : ∀ a : Sl, slT a a
  | .un => trivial
  | .fz _ => trivial
  | .ow _ => trivial
  | .le _ => trivial
  | .lf _ => rfl
  | .lk _ => rfl
theorem slT.trans {a b c : Sl} (x : slT a b) (y : slT b c) : slT a c := by
  cases a <;> cases b <;> simp [slT] at x <;> cases c <;> simp_all [slT]
theorem slE.slT {a b : Sl} (x : slE a b) : slT a b := by
  cases a <;> cases b <;> simp_all [slE, WS.slT]
theorem slT.lent {a b : Sl} (x : slT a b) : b.lent = a.lent := by
  cases a <;> cases b <;> simp_all [WS.slT, Sl.lent]
def Lk (p : Sl → Sl → Prop) (ρ ρ' : Env) : Prop := ρ'.length = ρ.length ∧ ∀ (i : Nat) a b, ρ[i]? = some a → ρ'[i]? = some b → p a b
abbrev LkE := Lk slE
abbrev LkT := Lk slT
theorem Lk.get {p : Sl → Sl → Prop} {ρ ρ' : Env} (h : Lk p ρ ρ') {i : Nat} {a : Sl} (e : ρ[i]? = some a) : ∃ b, ρ'[i]? = some b ∧ p a b := by
  obtain ⟨hl, _⟩ := List.getElem?_eq_some_iff.mp e
  have : i < ρ'.length := by rw [h.1]; exact hl
  exact ⟨ρ'[i], List.getElem?_eq_getElem this, h.2 i _ _ e (List.getElem?_eq_getElem this)⟩
theorem Lk.refl {p : Sl → Sl → Prop} (r : ∀ a, p a a) (ρ : Env) : Lk p ρ ρ := ⟨rfl, fun i a b h h' => by rw [h] at h'; cases h'; exact r _⟩
theorem Lk.trans {p : Sl → Sl → Prop} (t : ∀ a b c, p a b → p b c → p a c) {ρ ρ1 ρ2 : Env} (x : Lk p ρ ρ1) (y : Lk p ρ1 ρ2) : Lk p ρ ρ2 :=
  ⟨y.1.trans x.1, fun i a b h h' => by
    obtain ⟨m, e, q⟩ := x.get h
    exact t _ _ _ q (y.2 i _ _ e h')⟩
theorem LkE.refl (ρ : Env) : LkE ρ ρ := Lk.refl slE.refl ρ
theorem LkE.trans {ρ ρ1 ρ2 : Env} (x : LkE ρ ρ1) (y : LkE ρ1 ρ2) : LkE ρ ρ2 := Lk.trans (p := slE) (fun _ _ _ a b => slE.trans a b) x y
theorem LkT.refl (ρ : Env) : LkT ρ ρ := Lk.refl slT.refl ρ
theorem LkT.trans {ρ ρ1 ρ2 : Env} (x : LkT ρ ρ1) (y : LkT ρ1 ρ2) : LkT ρ ρ2 := Lk.trans (p := slT) (fun _ _ _ a b => slT.trans a b) x y
theorem Lk.slT {ρ ρ' : Env} (x : LkE ρ ρ') : LkT ρ ρ' := ⟨x.1, fun i a b h h' => (x.2 i a b h h').slT⟩
theorem Lk.set {p : Sl → Sl → Prop} (r : ∀ a, p a a) {ρ : Env} {i : Nat} {a b : Sl} (e : ρ[i]? = some a) (q : p a b) : Lk p ρ (ρ.set i b) := by
  refine ⟨by simp, fun j x y h h' => ?_⟩
  obtain ⟨hl, _⟩ := List.getElem?_eq_some_iff.mp e
  by_cases hj : i = j
  · subst hj
    rw [e] at h; cases h
    rw [List.getElem?_set_self hl] at h'; cases h'
    exact q
  · rw [List.getElem?_set_ne hj] at h'
    rw [h] at h'; cases h'; exact r _

def okE {α : Type} (f : Env → Out α) : Prop := ∀ ρ, match f ρ with
  | .ok _ ρ' => LkE ρ ρ'
  | .exn _ ρ' => LkE ρ ρ'
  | .bad => True
def LkS (ρ : Env) : SOut → Prop
  | .nx ρ' => LkT ρ ρ'
  | .bk ρ' => LkT ρ ρ'
  | .ct ρ' => LkT ρ ρ'
  | .rt _ ρ' => LkT ρ ρ'
  | .exn _ ρ' => LkT ρ ρ'
  | .bad => True
def okT (f : SemS) : Prop := ∀ ρ, LkS ρ (f ρ)
theorem LkS.trans {ρ ρ1 : Env} {o : SOut} (x : LkT ρ ρ1) (y : LkS ρ1 o) : LkS ρ o := by
  cases o <;> first | trivial | exact LkT.trans x y

/-! ### the judgements -/
structure SE (X : Cx) (c : XC) (W : WX) (e : Expr) (f : SemE) : Prop where
  pe : PE X e (TD X.w X.K c W f)
  ok : okE f
structure ST (X : Cx) (c : XC) (W : WX) (e : Expr) (f : SemT) : Prop where
  pt : PT X e (TT' X.w X.K c W f)
  ok : okE f
structure SA (X : Cx) (c : XC) (W : WX) (es : List Expr) (f : SemL) : Prop where
  pa : PA X es (TL X.w X.K c W f)
  ok : okE f
  len : ∀ ρ rs ρ', f ρ = .ok rs ρ' → rs.length = es.length
structure SS (X : Cx) (c : XC) (W : WX) (s : Stmt) (f : SemS) : Prop where
  ps : PS X s (TSD X.w X.K c W f)
  ok : okT f
structure SSs (X : Cx) (c : XC) (W : WX) (s : List Stmt) (f : SemS) : Prop where
  ps : PSs X s (TSD X.w X.K c W f)
  ok : okT f
theorem PE.imp {X : Cx} {e : Expr} {t t' : TE} (h : PE X e t) (i : ∀ σ H Q, t' σ H Q → t σ H Q) : PE X e t' := ⟨fun pins s σ H Q I q => h.run pins s σ H Q I (i _ _ _ q)⟩
theorem PT.imp {X : Cx} {e : Expr} {t t' : TT} (h : PT X e t) (i : ∀ σ H Q, t' σ H Q → t σ H Q) : PT X e t' := ⟨fun pins s σ H Q I q => h.run pins s σ H Q I (i _ _ _ q)⟩
theorem PA.imp {X : Cx} {e : List Expr} {t t' : TA} (h : PA X e t) (i : ∀ σ H Q, t' σ H Q → t σ H Q) : PA X e t' := ⟨fun pos pins s σ H Q I q => h.run pos pins s σ H Q I (i _ _ _ q)⟩
theorem PS.imp {X : Cx} {e : Stmt} {t t' : TS} (h : PS X e t) (i : ∀ D σ H, t' D σ H → t D σ H) : PS X e t' := ⟨fun pins s σ H D I q => h.run pins s σ H D I (i _ _ _ q)⟩
theorem PSs.imp {X : Cx} {e : List Stmt} {t t' : TS} (h : PSs X e t) (i : ∀ D σ H, t' D σ H → t D σ H) : PSs X e t' := ⟨fun pins s σ H D I q => h.run pins s σ H D I (i _ _ _ q)⟩

section
variable {w : World} {K : PySem.W.Frag} {c : XC} {W : WX} {σ : St} {F H F1 H1 : Hp} {ρ ρ1 : Env} {o : Addr → Prop}
theorem Post.step {out : Out R} {Q : VK} (x : Fr F H (ownS σ ρ) F1 H1 o) (i : ∀ b, ownS σ ρ1 b → o b) (h : Post w K c W σ F H ρ out Q) : Post w K c W σ F1 H1 ρ1 out Q := by
  cases out with
  | ok r ρ' => exact fun v F' H' s e f => h v F' H' s e (x.trans f i)
  | exn y ρ' => exact fun cls d F' H' s e f => h cls d F' H' s e (x.trans f i)
  | bad => exact h
theorem PostT.step {out : Out Bool} {Q : Bool → Hp → Prop} (x : Fr F H (ownS σ ρ) F1 H1 o) (i : ∀ b, ownS σ ρ1 b → o b) (h : PostT w K c W σ F H ρ out Q) : PostT w K c W σ F1 H1 ρ1 out Q := by
  cases out with
  | ok r ρ' => exact fun F' H' s f => h F' H' s (x.trans f i)
  | exn y ρ' => exact fun cls d F' H' s e f => h cls d F' H' s e (x.trans f i)
  | bad => exact h
theorem PostL.step {out : Out (List R)} {Q : List V → Hp → Prop} (x : Fr F H (ownS σ ρ) F1 H1 o) (i : ∀ b, ownS σ ρ1 b → o b) (h : PostL w K c W σ F H ρ out Q) : PostL w K c W σ F1 H1 ρ1 out Q := by
  cases out with
  | ok r ρ' => exact fun v F' H' s e f => h v F' H' s e (x.trans f i)
  | exn y ρ' => exact fun cls d F' H' s e f => h cls d F' H' s e (x.trans f i)
  | bad => exact h
theorem LS.trans {σ σ1 σ2 : St} {ρ ρ1 : Env} (a : LS σ σ1 ρ) (k : LkT ρ ρ1) (b : LS σ1 σ2 ρ1) : LS σ σ2 ρ := fun i sl h l => by
  obtain ⟨m, e, q⟩ := k.get h
  exact (b i m e (by rw [q.lent]; exact l)).trans (a i sl h l)
theorem PostS.step {σ1 : St} {out : SOut} {D : Ends} (x : Fr F H (ownS σ ρ) F1 H1 o) (i : ∀ b, ownS σ1 ρ1 b → o b) (ls : LS σ σ1 ρ) (k : LkT ρ ρ1) (h : PostS w K c W σ F H ρ out D) : PostS w K c W σ1 F1 H1 ρ1 out D := by
  cases out with
  | nx ρ' => exact fun σ' F' H' s l f => h σ' F' H' s (ls.trans k l) (x.trans f i)
  | bk ρ' => exact fun σ' F' H' s l f => h σ' F' H' s (ls.trans k l) (x.trans f i)
  | ct ρ' => exact fun σ' F' H' s l f => h σ' F' H' s (ls.trans k l) (x.trans f i)
  | rt r ρ' => exact fun v σ' F' H' s l e f => h v σ' F' H' s (ls.trans k l) e (x.trans f i)
  | exn y ρ' => exact fun cls d σ' F' H' s l e f => h cls d σ' F' H' s (ls.trans k l) e (x.trans f i)
  | bad => exact h

/-! ### a result on the way: what stands for it stays -/
/-- what a result holds, at a state -/
theorem ER.top {v : V} {r : R} (S : StR w K F H σ ρ) (e : ER w K F H σ ρ v r) : Top w K F H v (val ρ r) := by
  cases r with
  | fro d => exact .inl e
  | tmp d => obtain ⟨a, rfl, _, q, _⟩ := e; exact .inr ⟨a, rfl, q⟩
  | «at» i =>
    obtain ⟨e1, sl, e2, t⟩ := e
    obtain ⟨v', e3, q⟩ := S.slot i sl e2 t
    rw [e1] at e3; cases e3
    have : val ρ (.at i) = sl.get := by show (ρ.getD i .un).get = _; rw [List.getD_eq_getElem?_getD, e2]; rfl
    rw [this]
    cases sl with
    | un => cases t
    | fz d => exact .inl q
    | lf d => exact .inl q
    | ow d => obtain ⟨a, x, _, y⟩ := q; exact .inr ⟨a, x, y⟩
    | le d => obtain ⟨a, x, _, y⟩ := q; exact .inr ⟨a, x, y⟩
    | lk d => obtain ⟨a, x, _, y⟩ := q; exact .inr ⟨a, x, y⟩
/-- behind another expression -/
theorem ER.later {v : V} {r : R} {o' : Addr → Prop} (S : StR w K F H σ ρ) (e : ER w K F H σ ρ v r) (f : Fr F H (ownS σ ρ) F1 H1 o') (i : ∀ b, ownS σ ρ1 b → o' b) (l : LkE ρ ρ1) : ER w K F1 H1 σ ρ1 v r := by
  cases r with
  | fro d => exact Rep.mono f.mono e
  | tmp d =>
    obtain ⟨a, rfl, n, q, no⟩ := e
    obtain ⟨u, hu⟩ := q.there
    refine ⟨a, rfl, ?_, q.mono f.mono fun o h => f.keep a o h no, fun z => ?_⟩
    · cases z : F1 a with
      | none => rfl
      | some y =>
        rcases f.frz a y z with z | z | z
        · rw [n] at z; cases z
        · exact absurd z no
        · rw [hu] at z; cases z
    · rcases f.new a (i a z) with z | z
      · exact no z
      · rw [hu] at z; cases z
  | «at» i =>
    obtain ⟨e1, sl, e2, t⟩ := e
    obtain ⟨b, e3, q⟩ := l.get e2
    exact ⟨e1, b, e3, by rw [q.there]; exact t⟩
end

/-! ### primitive results -/
inductive PR where
  | sc (d : D) | nl (ds : List D) | nt (ds : List D) | nd (kvs : List (D × D))
def PR.out (ρ : Env) : PR → Out R
  | .sc d => .ok (.fro d) ρ
  | .nl ds => .ok (.tmp (.lst ds)) ρ
  | .nt ds => .ok (.fro (.tup ds)) ρ
  | .nd kvs => .ok (.tmp (.dct kvs)) ρ
def outP (ρ : Env) : Option PR → Out R
  | some p => p.out ρ
  | none => .bad
section
variable {w : World} {K : PySem.W.Frag} {c : XC} {W : WX} {σ : St} {F H F1 H1 : Hp} {ρ ρ1 : Env} {o : Addr → Prop}
def PRQ (w : World) (K : PySem.W.Frag) (F H : Hp) (pr : PR) (Q : VK) : Prop :=
  match pr with
  | .sc d => ∀ v, Rep w K F v d → Q v H
  | .nl ds => ∀ p vs, H p = none → RepL w K F vs ds → Q (.ref p) (upd H p (.lst vs))
  | .nt ds => (∀ v, Rep w K F v (.tup ds) → Q v H) ∧ ∀ p vs, H p = none → RepL w K F vs ds → Q (.ref p) (upd H p (.tup vs))
  | .nd kvs => ∀ p ep es, H p = none → RepE w K F es kvs → (kvs.map fun q => nk q.1).Nodup → Q (.ref p) (upd H p (dO p ep es))
theorem Sub.new (s : Sub F H) {p : Addr} {u : HO} (n : H p = none) : Sub F (upd H p u) := fun a o e => by
  have := s a o e
  rw [upd_ne (ne_of_none this n)]; exact this
theorem Sub.fresh (s : Sub F H) {p : Addr} (n : H p = none) : F p = none := by
  cases e : F p with
  | none => rfl
  | some o => rw [s p o e] at n; cases n
theorem Sub.upd (s : Sub F H) {p : Addr} {u : HO} (n : H p = none) : Sub (upd F p u) (upd H p u) := fun a o e => by
  by_cases h : a = p
  · subst h; rw [upd_same] at e ⊢; exact e
  · rw [upd_ne h] at e ⊢; exact s a o e
theorem Sub.up (n : F p = none) {u : HO} : Sub F (L2.upd F p u) := fun a o e => by
  rw [upd_ne (ne_of_none e n)]; exact e
/-- a new object is laid: the state stands -/
theorem StR.new (S : StR w K F H σ ρ) {F' H' : Hp} (hs : Sub F' H') (m : Sub F F') (k : ∀ b o, H b = some o → H' b = some o) (nf : ∀ b, F b = none → F' b = none ∨ H b = none) : StR w K F' H' σ ρ := by
  refine ⟨hs, S.len, fun i sl e t => ?_, S.inj⟩
  obtain ⟨v, e1, q⟩ := S.slot i sl e t
  refine ⟨v, e1, ?_⟩
  have g : ∀ d, (∃ a, v = .ref a ∧ F a = none ∧ Own w K F H a d) → ∃ a, v = .ref a ∧ F' a = none ∧ Own w K F' H' a d := by
    rintro d ⟨a, rfl, n, q⟩
    obtain ⟨u, hu⟩ := q.there
    refine ⟨a, rfl, ?_, q.mono m fun o h => k a o h⟩
    rcases nf a n with z | z
    · exact z
    · rw [hu] at z; cases z
  cases sl with
  | un => trivial
  | fz d => exact Rep.mono m q
  | lf d => exact Rep.mono m q
  | ow d => exact g d q
  | le d => exact g d q
  | lk d => exact g d q
theorem upd_keep {p : Addr} {u : HO} (n : H p = none) : ∀ b o, H b = some o → upd H p u b = some o := fun b o e => by rw [upd_ne (ne_of_none e n)]; exact e
theorem StR.ownThere (S : StR w K F H σ ρ) {b : Addr} (h : ownS σ ρ b) : ∃ o, H b = some o := by
  obtain ⟨i, sl, e, t, q⟩ := h
  have th : sl.there = true := by cases sl <;> simp_all [Sl.own, Sl.there]
  obtain ⟨v, e1, x⟩ := S.slot i sl e th
  rw [q] at e1; cases e1
  cases sl with
  | un => cases t
  | fz d => cases t
  | lf d => cases t
  | ow d => obtain ⟨a, z, _, y⟩ := x; cases z; exact y.there
  | le d => obtain ⟨a, z, _, y⟩ := x; cases z; exact y.there
  | lk d => obtain ⟨a, z, _, y⟩ := x; cases z; exact y.there
theorem prq (S : StR w K F H σ ρ) {pr : PR} {Q : VK} (h : Post w K c W σ F H ρ (pr.out ρ) Q) : PRQ w K F H pr Q := by
  cases pr with
  | sc d =>
    refine fun v r => h v F H S r (Fr.refl.imp fun b z => ?_)
    rcases z with z | ⟨d, z, _⟩
    · exact z
    · cases z
  | nl ds =>
    intro p vs n r
    have nF := S.sub.fresh n
    have no : ¬ ownS σ ρ p := fun z => by obtain ⟨o, q⟩ := S.ownThere z; rw [n] at q; cases q
    refine h (.ref p) F _ (S.new (S.sub.new n) (Sub.refl _) (upd_keep n) fun b z => .inl z) ⟨p, rfl, nF, ⟨vs, upd_same, r⟩, no⟩ ⟨fun b u e _ => upd_keep n b u e, fun b z => ?_, fun _ _ h => .inl h, Sub.refl _⟩
    rcases z with z | ⟨d, z, e⟩
    · exact .inl z
    · cases e; exact .inr n
  | nd kvs =>
    intro p ep es n r nd
    have nF := S.sub.fresh n
    have no : ¬ ownS σ ρ p := fun z => by obtain ⟨o, q⟩ := S.ownThere z; rw [n] at q; cases q
    refine h (.ref p) F _ (S.new (S.sub.new n) (Sub.refl _) (upd_keep n) fun b z => .inl z) ⟨p, rfl, nF, ⟨ep, es, upd_same, r, nd⟩, no⟩ ⟨fun b u e _ => upd_keep n b u e, fun b z => ?_, fun _ _ h => .inl h, Sub.refl _⟩
    rcases z with z | ⟨d, z, e⟩
    · exact .inl z
    · cases e; exact .inr n
  | nt ds =>
    refine ⟨fun v r => h v F H S r (Fr.refl.imp fun b z => ?_), ?_⟩
    · rcases z with z | ⟨d, z, _⟩
      · exact z
      · cases z
    intro p vs n r
    have nF := S.sub.fresh n
    have m : Sub F (L2.upd F p (.tup vs)) := Sub.up nF
    refine h (.ref p) (upd F p (.tup vs)) _ (S.new (S.sub.upd n) m (upd_keep n) fun b z => ?_) (.tup (.of upd_same) (r.mono m)) ⟨fun b u e _ => upd_keep n b u e, fun b z => ?_, fun b u e => ?_, m⟩
    · by_cases hb : b = p
      · subst hb; exact .inr n
      · exact .inl (by rw [upd_ne hb]; exact z)
    · rcases z with z | ⟨d, z, e⟩
      · exact .inl z
      · cases z
    · by_cases hb : b = p
      · subst hb; exact .inr (.inr n)
      · rw [upd_ne hb] at e; exact .inl e
theorem ownR_slots {v : V} {r : R} : ∀ b, ownS σ ρ b → ownR σ ρ v r b := fun _ h => .inl h
end
end WS
/-! Wc: names, constants, operators, argument lists, displays. -/
namespace WS
open PySem L2

section
variable {X : Cx} {c : XC} {W : WX} {pos : Pos}

/-! ### names and constants -/
def eVar (i : Nat) : SemE := fun ρ => match ρ.getD i .un with
  | .un => .bad
  | .fz d => .ok (.fro d) ρ
  | .lf d => .ok (.fro d) ρ
  | _ => .ok (.at i) ρ
def eCon (d : D) : SemE := fun ρ => .ok (.fro d) ρ
theorem okE_var (i : Nat) : okE (eVar i) := fun ρ => by
  unfold eVar
  cases ρ.getD i .un <;> first | trivial | exact LkE.refl ρ
theorem okE_con (d : D) : okE (eCon d) := fun ρ => LkE.refl ρ
theorem getD_some {ρ : Env} {i : Nat} {sl : Sl} (h : ρ.getD i .un = sl) (t : sl ≠ .un) : ρ[i]? = some sl := by
  rw [List.getD_eq_getElem?_getD] at h
  cases e : ρ[i]? with
  | none => rw [e] at h; exact absurd h.symm t
  | some a => rw [e] at h; rw [show a = sl from h]
theorem ownR_fro {σ : St} {ρ : Env} {v : V} {d : D} : ∀ b, ownR σ ρ v (.fro d) b → ownS σ ρ b := fun b z => by
  rcases z with z | ⟨d, z, _⟩
  · exact z
  · cases z
theorem ownR_at {σ : St} {ρ : Env} {v : V} {i : Nat} : ∀ b, ownR σ ρ v (.at i) b → ownS σ ρ b := fun b z => by
  rcases z with z | ⟨d, z, _⟩
  · exact z
  · cases z
theorem se_var {i : Nat} {x : Str} (hN : X.N[i]? = some x) (hv : Vis X.env.scope x) (hd : (x == ("__debug__" : Str)) = false) (hcd : (x == ("__classdict__" : Str)) = false) : SE X c W (.Name x pos) (eVar i) := by
  refine ⟨PE.imp (pe_var hN hv hd hcd) fun σ H Q ⟨F, ρ, S, h⟩ => ?_, okE_var i⟩
  unfold eVar at h
  cases e : ρ.getD i .un with
  | un => rw [e] at h; exact False.elim h
  | fz d =>
    rw [e] at h
    obtain ⟨v, e1, q⟩ := S.slot i _ (getD_some e (by simp)) rfl
    exact ⟨v, e1, h v F H S q (Fr.refl.imp ownR_fro)⟩
  | lf d =>
    rw [e] at h
    obtain ⟨v, e1, q⟩ := S.slot i _ (getD_some e (by simp)) rfl
    exact ⟨v, e1, h v F H S q (Fr.refl.imp ownR_fro)⟩
  | ow d =>
    rw [e] at h
    obtain ⟨v, e1, q⟩ := S.slot i _ (getD_some e (by simp)) rfl
    exact ⟨v, e1, h v F H S ⟨e1, _, getD_some e (by simp), rfl⟩ (Fr.refl.imp ownR_at)⟩
  | le d =>
    rw [e] at h
    obtain ⟨v, e1, q⟩ := S.slot i _ (getD_some e (by simp)) rfl
    exact ⟨v, e1, h v F H S ⟨e1, _, getD_some e (by simp), rfl⟩ (Fr.refl.imp ownR_at)⟩
  | lk d =>
    rw [e] at h
    obtain ⟨v, e1, q⟩ := S.slot i _ (getD_some e (by simp)) rfl
    exact ⟨v, e1, h v F H S ⟨e1, _, getD_some e (by simp), rfl⟩ (Fr.refl.imp ownR_at)⟩
theorem se_con {e : Expr} {v : V} {d : D} (h : PE X e (tC v)) (r : ∀ F, Rep X.w X.K F v d) : SE X c W e (eCon d) :=
  ⟨PE.imp h fun σ H Q ⟨F, ρ, S, q⟩ => q v F H S (r F) (Fr.refl.imp ownR_fro), okE_con d⟩
theorem se_int {i : Int} {j} : SE X c W (.Constant (.int i) j pos) (eCon (.int i)) := se_con pe_int fun _ => .int i
theorem se_bl {b : Bool} {j} : SE X c W (.Constant (.bool b) j pos) (eCon (.bl b)) := se_con pe_bl fun _ => .bl b
theorem se_non {j} : SE X c W (.Constant .none j pos) (eCon .non) := se_con pe_non fun _ => .non
theorem se_str {s : List Nat} {x : Str} {j} (e : x.cps.toList = s) (h : (okS s && decide (s.length ≤ 1000)) = true) : SE X c W (.Constant (.str x) j pos) (eCon (.str s)) := by
  have hx : x = mkS s := by rw [← e]
  rw [Bool.and_eq_true, decide_eq_true_eq] at h
  refine se_con (pe_str (x := x)) fun F => ?_
  rw [hx]
  exact .str s h.1 (Nat.le_trans h.2 (by decide))
/-- a constant of the module -/
theorem se_glb {x : Str} {v : V} {u : Value} {d : D} (hg : Gl X x) (hm : X.mg x = some u) (r : RelV v u) (q : ∀ F, Rep X.w X.K F v d) (hd : (x == ("__debug__" : Str)) = false) : SE X c W (.Name x pos) (eCon d) :=
  se_con (pe_glob hg hm r hd) q

/-! ### two in a row -/
def eOp (g : D → D → Option PR) (fa fb : SemE) : SemE := fun ρ => (fa ρ).bind fun ra ρ1 => (fb ρ1).bind fun rb ρ2 => outP ρ2 (g (val ρ2 ra) (val ρ2 rb))
def eUn (g : D → Option PR) (fa : SemE) : SemE := fun ρ => (fa ρ).bind fun ra ρ1 => outP ρ1 (g (val ρ1 ra))
theorem okE_bind {α β : Type} {f : Env → Out α} {k : α → Env → Out β} (hf : okE f) (hk : ∀ a, okE (k a)) : okE fun ρ => (f ρ).bind k := fun ρ => by
  have h := hf ρ
  show match (f ρ).bind k with | .ok _ ρ' => LkE ρ ρ' | .exn _ ρ' => LkE ρ ρ' | .bad => True
  cases e : f ρ with
  | bad => trivial
  | exn x ρ1 => rw [e] at h; exact h
  | ok a ρ1 =>
    rw [e] at h
    have h2 := hk a ρ1
    show match k a ρ1 with | .ok _ ρ' => LkE ρ ρ' | .exn _ ρ' => LkE ρ ρ' | .bad => True
    cases e2 : k a ρ1 with
    | bad => trivial
    | exn x ρ2 => rw [e2] at h2; exact LkE.trans h h2
    | ok b ρ2 => rw [e2] at h2; exact LkE.trans h h2
theorem okE_outP (o : Option PR) : okE fun ρ => outP ρ o := fun ρ => by
  cases o with
  | none => trivial
  | some p => cases p <;> exact LkE.refl ρ
theorem okE_val (r : R) (g : D → Option PR) : okE fun ρ => outP ρ (g (val ρ r)) := fun ρ => okE_outP (g (val ρ r)) ρ
theorem okE_val2 (r t : R) (g : D → D → Option PR) : okE fun ρ => outP ρ (g (val ρ r) (val ρ t)) := fun ρ => okE_outP (g (val ρ r) (val ρ t)) ρ
theorem okE_op {g : D → D → Option PR} {fa fb : SemE} (ha : okE fa) (hb : okE fb) : okE (eOp g fa fb) := okE_bind ha fun ra => okE_bind hb fun rb => okE_val2 ra rb g
theorem okE_un {g : D → Option PR} {fa : SemE} (ha : okE fa) : okE (eUn g fa) := okE_bind ha fun ra => okE_val ra g
/-- the first of a row: its end, then the rest's want -/
theorem td_bind {f : SemE} {k : R → Env → Out R} {σ : St} {F H : Hp} {ρ : Env} {Q : VK} {Z : V → Hp → Prop} (of : okE f) (S : StR X.w X.K F H σ ρ) (h : Post X.w X.K c W σ F H ρ ((f ρ).bind k) Q)
    (z : ∀ v r ρ1 F1 H1, LkE ρ ρ1 → StR X.w X.K F1 H1 σ ρ1 → ER X.w X.K F1 H1 σ ρ1 v r → Post X.w X.K c W σ F1 H1 ρ1 (k r ρ1) Q → Z v H1) : TD X.w X.K c W f σ H Z := by
  refine ⟨F, ρ, S, ?_⟩
  have l := of ρ
  cases e : f ρ with
  | bad => rw [e] at h; exact h
  | exn x ρ1 => rw [e] at h; exact h
  | ok r ρ1 =>
    rw [e] at h l
    exact fun v F1 H1 S1 e1 f1 => z v r ρ1 F1 H1 l S1 e1 (h.step f1 ownR_slots)
theorem out_prq {σ : St} {F H : Hp} {ρ : Env} {Q : VK} {o : Option PR} (S : StR X.w X.K F H σ ρ) (h : Post X.w X.K c W σ F H ρ (outP ρ o) Q) : ∃ p, o = some p ∧ PRQ X.w X.K F H p Q := by
  cases o with
  | none => exact False.elim h
  | some p => exact ⟨p, rfl, prq S h⟩
/-- what an operation must bear -/
def OpG (X : Cx) (f : Value → Value → Sem Value) (g : D → D → Option PR) : Prop :=
  ∃ r, OpR X f r ∧ ∀ F H x y d1 d2 p Q, Sub F H → Top X.w X.K F H x d1 → Top X.w X.K F H y d2 → g d1 d2 = some p → PRQ X.w X.K F H p Q → r x y H Q
theorem td_two {a b : SemE} {g : D → D → Option PR} {r : R2} (oa : okE a) (ob : okE b) (hr : ∀ F H x y d1 d2 p Q, Sub F H → Top X.w X.K F H x d1 → Top X.w X.K F H y d2 → g d1 d2 = some p → PRQ X.w X.K F H p Q → r x y H Q)
    {σ : St} {H : Hp} {Q : VK} (h : TD X.w X.K c W (eOp g a b) σ H Q) : tOp r (TD X.w X.K c W a) (TD X.w X.K c W b) σ H Q := by
  obtain ⟨F, ρ, S, h⟩ := h
  refine td_bind oa S h fun x ra ρ1 F1 H1 l1 S1 e1 h1 => ?_
  refine ⟨F1, ρ1, S1, ?_⟩
  have l2 := ob ρ1
  cases e : b ρ1 with
  | bad => rw [e] at h1; exact h1
  | exn x ρ2 => rw [e] at h1; exact h1
  | ok rb ρ2 =>
    rw [e] at h1 l2
    intro y F2 H2 S2 e2 f2
    have ea := e1.later S1 f2 ownR_slots l2
    obtain ⟨p, hp, hq⟩ := out_prq S2 (h1.step f2 ownR_slots)
    exact hr F2 H2 x y _ _ p Q S2.sub (ea.top S2) (e2.top S2) hp hq
theorem se_op {a b : Expr} {op : Operator} {fa fb : SemE} {g : D → D → Option PR} (ho : OpG X (binaryOp op) g) (ha : SE X c W a fa) (hb : SE X c W b fb) : SE X c W (.BinOp a op b pos) (eOp g fa fb) := by
  obtain ⟨r, h1, h2⟩ := ho
  exact ⟨PE.imp (pe_op h1 ha.pe hb.pe) fun σ H Q h => td_two ha.ok hb.ok h2 h, okE_op ha.ok hb.ok⟩
theorem se_cmp {a b : Expr} {op : CmpOp} {fa fb : SemE} {g : D → D → Option PR} (ho : OpG X (compareOp op) g) (ha : SE X c W a fa) (hb : SE X c W b fb) (hm : behindInMarks op b = false) : SE X c W (.Compare a [op] [b] pos) (eOp g fa fb) := by
  obtain ⟨r, h1, h2⟩ := ho
  exact ⟨PE.imp (pe_cmpR h1 ha.pe hb.pe hm) fun σ H Q h => td_two ha.ok hb.ok h2 h, okE_op ha.ok hb.ok⟩
def UnG (X : Cx) (f : Value → Sem Value) (g : D → Option PR) : Prop :=
  ∃ r, UnR X f r ∧ ∀ F H x d1 p Q, Sub F H → Top X.w X.K F H x d1 → g d1 = some p → PRQ X.w X.K F H p Q → r x H Q
theorem td_one {a : SemE} {g : D → Option PR} {r : V → Hp → VK → Prop} (oa : okE a) (hr : ∀ F H x d1 p Q, Sub F H → Top X.w X.K F H x d1 → g d1 = some p → PRQ X.w X.K F H p Q → r x H Q)
    {σ : St} {H : Hp} {Q : VK} (h : TD X.w X.K c W (eUn g a) σ H Q) : TD X.w X.K c W a σ H fun x H1 => r x H1 Q := by
  obtain ⟨F, ρ, S, h⟩ := h
  refine td_bind oa S h fun x ra ρ1 F1 H1 l1 S1 e1 h1 => ?_
  obtain ⟨p, hp, hq⟩ := out_prq S1 h1
  exact hr F1 H1 x _ p Q S1.sub (e1.top S1) hp hq
theorem se_un {a : Expr} {op : UnaryOp} {fa : SemE} {g : D → Option PR} (ho : UnG X (unaryOp op) g) (ha : SE X c W a fa) : SE X c W (.UnaryOp op a pos) (eUn g fa) := by
  obtain ⟨r, h1, h2⟩ := ho
  exact ⟨PE.imp (pe_un h1 ha.pe) fun σ H Q h => td_one ha.ok h2 h, okE_un ha.ok⟩

/-! ### the operators -/
def lim (n : Nat) : Bool := decide (n ≤ 16777216)
theorem lim_le {n : Nat} (h : lim n = true) : n ≤ sizeLine := by rw [sizeLine_eq]; exact of_decide_eq_true h
def gAdd : D → D → Option PR
  | .int a, .int b => some (.sc (.int (a + b)))
  | .str a, .str b => if lim (a.length + b.length) = true then some (.sc (.str (a ++ b))) else none
  | .lst a, .lst b => if lim (a.length + b.length) = true then some (.nl (a ++ b)) else none
  | .tup a, .tup b => if lim (a.length + b.length) = true then some (.nt (a ++ b)) else none
  | _, _ => none
def gSub : D → D → Option PR
  | .int a, .int b => some (.sc (.int (a - b)))
  | _, _ => none
def gMul : D → D → Option PR
  | .int a, .int b => if decide (a.natAbs.log2 + b.natAbs.log2 < 1000000) = true then some (.sc (.int (a * b))) else none
  | _, _ => none
def gDiv : D → D → Option PR
  | .int a, .int b => if decide (0 < b ∧ b.natAbs.log2 < 9000) = true then some (.sc (.int (a / b))) else none
  | _, _ => none
def gMod : D → D → Option PR
  | .int a, .int b => if decide (0 < b) = true then some (.sc (.int (a % b))) else none
  | _, _ => none
def gPow : D → D → Option PR
  | .int a, .int b => if decide (0 ≤ b ∧ b ≤ 1000000 ∧ a.natAbs < 2 ^ 64) = true then some (.sc (.int (a ^ b.toNat))) else none
  | _, _ => none
theorem okS_append {a b : List Nat} (ha : okS a = true) (hb : okS b = true) : okS (a ++ b) = true := by
  unfold okS at *
  rw [List.all_append, ha, hb]; rfl
theorem mkS_append (a b : List Nat) : mkS a ++ mkS b = mkS (a ++ b) := by
  show Str.append _ _ = _
  unfold Str.append
  simp
theorem mkS_length (a : List Nat) : (mkS a).length = a.length := by simp [Str.length]
theorem opG_add : OpG X (binaryOp .Add) gAdd := by
  refine ⟨_, op_add.or (op_add_str.or (op_cat.or op_catA)), fun F H x y d1 d2 p Q s t1 t2 e q => ?_⟩
  cases d1 <;> cases d2 <;> simp only [gAdd] at e <;> try (cases e; done)
  · cases e
    rw [t1.int, t2.int]
    exact .inl ⟨_, _, rfl, rfl, q _ (.int _)⟩
  · split at e
    · rename_i hl
      cases e
      obtain ⟨rfl, o1, l1⟩ := t1.str
      obtain ⟨rfl, o2, l2⟩ := t2.str
      refine .inr (.inl ⟨_, _, rfl, rfl, by rw [mkS_length, mkS_length]; exact lim_le hl, ?_⟩)
      rw [mkS_append]
      exact q _ (.str _ (okS_append o1 o2) (by rw [List.length_append]; exact lim_le hl))
    · cases e
  · split at e
    · rename_i hl
      cases e
      obtain ⟨a, vs, rfl, h1, r1⟩ := t1.tup s
      obtain ⟨b, us, rfl, h2, r2⟩ := t2.tup s
      have e1 := r1.length
      have e2 := r2.length
      refine .inr (.inr (.inr ⟨a, b, vs, us, rfl, rfl, h1, h2, by rw [e1, e2]; exact lim_le hl, fun z => ?_, fun _ z => ?_, fun _ _ p n => q.2 p _ n (r1.append r2)⟩))
      · subst z
        cases r1
        rcases t2 with t2 | ⟨a', z, t2⟩
        · exact q.1 _ t2
        · exact False.elim t2
      · subst z
        cases r2
        rcases t1 with t1 | ⟨a', z, t1⟩
        · rw [List.append_nil] at q; exact q.1 _ t1
        · exact False.elim t1
    · cases e
  · split at e
    · rename_i hl
      cases e
      obtain ⟨a, vs, rfl, h1, r1⟩ := t1.lst s
      obtain ⟨b, us, rfl, h2, r2⟩ := t2.lst s
      have e1 := r1.length
      have e2 := r2.length
      exact .inr (.inr (.inl ⟨a, b, vs, us, rfl, rfl, h1, h2, by rw [e1, e2]; exact lim_le hl, fun p n => q p _ n (r1.append r2)⟩))
    · cases e
theorem opG_int {f : Value → Value → Sem Value} {C : Int → Int → Prop} {gi : Int → Int → V} {gd : Int → Int → D} {g : D → D → Option PR} (h : OpR X f (rI C gi)) (hr : ∀ i j F, Rep X.w X.K F (gi i j) (gd i j))
    (hg : ∀ d1 d2 p, g d1 d2 = some p → ∃ i j, d1 = .int i ∧ d2 = .int j ∧ C i j ∧ p = .sc (gd i j)) : OpG X f g := by
  refine ⟨_, h, fun F H x y d1 d2 p Q s t1 t2 e q => ?_⟩
  obtain ⟨i, j, rfl, rfl, hc, rfl⟩ := hg _ _ _ e
  rw [t1.int, t2.int]
  exact ⟨i, j, rfl, rfl, hc, q _ (hr i j F)⟩
theorem opG_int0 {f : Value → Value → Sem Value} {gi : Int → Int → V} {gd : Int → Int → D} {g : D → D → Option PR} (h : OpR X f (rI0 gi)) (hr : ∀ i j F, Rep X.w X.K F (gi i j) (gd i j))
    (hg : ∀ d1 d2 p, g d1 d2 = some p → ∃ i j, d1 = .int i ∧ d2 = .int j ∧ p = .sc (gd i j)) : OpG X f g := by
  refine ⟨_, h, fun F H x y d1 d2 p Q s t1 t2 e q => ?_⟩
  obtain ⟨i, j, rfl, rfl, rfl⟩ := hg _ _ _ e
  rw [t1.int, t2.int]
  exact ⟨i, j, rfl, rfl, q _ (hr i j F)⟩
theorem opG_sub : OpG X (binaryOp .Sub) gSub := opG_int0 (gd := fun i j => .int (i - j)) op_sub (fun i j F => .int _) fun d1 d2 p e => by
  cases d1 <;> cases d2 <;> simp only [gSub] at e <;> cases e
  exact ⟨_, _, rfl, rfl, rfl⟩
theorem opG_mul : OpG X (binaryOp .Mult) gMul := opG_int (gd := fun i j => .int (i * j)) op_mulW (fun i j F => .int _) fun d1 d2 p e => by
  cases d1 <;> cases d2 <;> simp only [gMul] at e <;> try (cases e; done)
  split at e
  · rename_i h; cases e; have h2 := of_decide_eq_true h; exact ⟨_, _, rfl, rfl, h2, rfl⟩
  · cases e
theorem opG_div : OpG X (binaryOp .FloorDiv) gDiv := opG_int (gd := fun i j => .int (i / j)) op_fdivW (fun i j F => .int _) fun d1 d2 p e => by
  cases d1 <;> cases d2 <;> simp only [gDiv] at e <;> try (cases e; done)
  split at e
  · rename_i h; cases e; have h2 := of_decide_eq_true h; exact ⟨_, _, rfl, rfl, h2, rfl⟩
  · cases e
theorem opG_mod : OpG X (binaryOp .Mod) gMod := opG_int (gd := fun i j => .int (i % j)) op_mod (fun i j F => .int _) fun d1 d2 p e => by
  cases d1 <;> cases d2 <;> simp only [gMod] at e <;> try (cases e; done)
  split at e
  · rename_i h; cases e; have h2 := of_decide_eq_true h; exact ⟨_, _, rfl, rfl, h2, rfl⟩
  · cases e
theorem opG_pow : OpG X (binaryOp .Pow) gPow := opG_int (gd := fun i j => .int (i ^ j.toNat)) op_pow (fun i j F => .int _) fun d1 d2 p e => by
  cases d1 <;> cases d2 <;> simp only [gPow] at e <;> try (cases e; done)
  split at e
  · rename_i h; cases e; have h2 := of_decide_eq_true h; exact ⟨_, _, rfl, rfl, h2, rfl⟩
  · cases e
def gNeg : D → Option PR
  | .int a => some (.sc (.int (-a)))
  | _ => none
theorem unG_neg : UnG X (unaryOp .USub) gNeg := by
  refine ⟨_, un_neg, fun F H x d1 p Q s t e q => ?_⟩
  cases d1 <;> simp only [gNeg] at e <;> cases e
  rw [t.int]
  exact ⟨_, rfl, q _ (.int _)⟩
end
end WS
/-! Wd: argument lists, displays, calls of defs. -/
namespace WS
open PySem L2

section
variable {X : Cx} {c : XC} {W : WX} {pos : Pos}
def lNil : SemL := fun ρ => .ok [] ρ
def lCons (f : SemE) (g : SemL) : SemL := fun ρ => (f ρ).bind fun r ρ1 => (g ρ1).bind fun rs ρ2 => .ok (r :: rs) ρ2
theorem okE_ok {α : Type} (a : α) : okE fun ρ => Out.ok a ρ := fun ρ => LkE.refl ρ
theorem sa_nil : SA X c W [] lNil := by
  refine ⟨PA.imp pa_nil fun σ H Q ⟨F, ρ, S, h⟩ => ?_, okE_ok _, fun ρ rs ρ' h => by cases h; rfl⟩
  refine h [] F H S .nil (Fr.refl.imp fun b z => ?_)
  rcases z with z | ⟨j, d, z, _⟩
  · exact z
  · simp at z
section
variable {w : World} {K : PySem.W.Frag} {σ : St} {F H F1 H1 F2 H2 : Hp} {ρ ρ1 ρ2 : Env}
theorem fr_cons {v : V} {r : R} {vs : List V} {rs : List R} (f1 : Fr F H (ownS σ ρ) F1 H1 (ownR σ ρ1 v r)) (f2 : Fr F1 H1 (ownS σ ρ1) F2 H2 (ownL σ ρ2 vs rs)) : Fr F H (ownS σ ρ) F2 H2 (ownL σ ρ2 (v :: vs) (r :: rs)) := by
  have t := f1.trans f2 ownR_slots
  refine ⟨t.keep, fun b z => ?_, t.frz, t.mono⟩
  rcases z with z | ⟨j, d, e1, e2⟩
  · exact t.new b (.inl z)
  · cases j with
    | zero =>
      simp at e1 e2
      subst e1 e2
      exact f1.new b (.inr ⟨d, rfl, rfl⟩)
    | succ j => exact t.new b (.inr ⟨j, d, by simpa using e1, by simpa using e2⟩)
theorem ERL.later {o' : Addr → Prop} (S : StR w K F H σ ρ) : ∀ {vs : List V} {rs : List R}, ERL w K F H σ ρ vs rs → Fr F H (ownS σ ρ) F1 H1 o' → (∀ b, ownS σ ρ1 b → o' b) → LkE ρ ρ1 → ERL w K F1 H1 σ ρ1 vs rs
  | _, _, .nil, _, _, _ => .nil
  | _, _, .cons e n t, f, i, l => .cons (e.later S f i l) n (ERL.later S t f i l)
theorem erl_cons {v : V} {r : R} {vs : List V} {rs : List R} (S1 : StR w K F1 H1 σ ρ1) (e1 : ER w K F1 H1 σ ρ1 v r) (l : LkE ρ1 ρ2) (e2 : ERL w K F2 H2 σ ρ2 vs rs) (f2 : Fr F1 H1 (ownS σ ρ1) F2 H2 (ownL σ ρ2 vs rs)) : ERL w K F2 H2 σ ρ2 (v :: vs) (r :: rs) := by
  refine .cons (e1.later S1 f2 (fun b z => .inl z) l) (fun d a hr hv j d' hj hj' => ?_) e2
  subst hr hv
  obtain ⟨a', z, n, q, no⟩ := e1
  cases z
  obtain ⟨u, hu⟩ := q.there
  rcases f2.new a (.inr ⟨j, d', hj, hj'⟩) with z | z
  · exact no z
  · rw [hu] at z; cases z
end
theorem okE_lcons {f : SemE} {g : SemL} (hf : okE f) (hg : okE g) : okE (lCons f g) := okE_bind hf fun r => okE_bind hg fun rs => okE_ok (r :: rs)
theorem sa_cons {e : Expr} {es : List Expr} {f : SemE} {g : SemL} (he : SE X c W e f) (hs : SA X c W es g) (hst : starEach (e :: es) X.env = (false, eval e X.env) :: starEach es X.env) : SA X c W (e :: es) (lCons f g) := by
  refine ⟨PA.imp (pa_cons he.pe hs.pa hst) fun σ H Q ⟨F, ρ, S, h⟩ => ?_, okE_lcons he.ok hs.ok, fun ρ rs ρ' h => ?_⟩
  rotate_left
  · unfold lCons at h
    cases e1 : f ρ with
    | bad => rw [e1] at h; cases h
    | exn x ρ1 => rw [e1] at h; cases h
    | ok r ρ1 =>
      rw [e1] at h
      have h : (g ρ1).bind (fun rs ρ2 => Out.ok (r :: rs) ρ2) = .ok rs ρ' := h
      cases e2 : g ρ1 with
      | bad => rw [e2] at h; cases h
      | exn x ρ2 => rw [e2] at h; cases h
      | ok us ρ2 =>
        rw [e2] at h
        cases h
        exact congrArg (· + 1) (hs.len _ _ _ e2)
  refine ⟨F, ρ, S, ?_⟩
  have l1 := he.ok ρ
  unfold lCons at h
  cases e1 : f ρ with
  | bad => rw [e1] at h; exact h
  | exn x ρ1 => rw [e1] at h; exact h
  | ok r ρ1 =>
    rw [e1] at h l1
    intro v F1 H1 S1 r1 f1
    refine ⟨F1, ρ1, S1, ?_⟩
    have l2 := hs.ok ρ1
    have h : PostL X.w X.K c W σ F H ρ ((g ρ1).bind fun rs ρ2 => .ok (r :: rs) ρ2) Q := h
    cases e2 : g ρ1 with
    | bad => rw [e2] at h; exact h
    | exn x ρ2 => rw [e2] at h; exact PostL.step (out := .exn x ρ2) f1 ownR_slots h
    | ok rs ρ2 =>
      rw [e2] at h l2
      exact fun vs F2 H2 S2 r2 f2 => h (v :: vs) F2 H2 S2 (erl_cons S1 r1 l2 r2 f2) (fr_cons f1 f2)

/-! ### freezing -/
def frzs (ρ : Env) : List R → Out (List D)
  | [] => .ok [] ρ
  | r :: rs => (frz ρ r).bind fun d ρ1 => (frzs ρ1 rs).bind fun ds ρ2 => .ok (d :: ds) ρ2
section
variable {w : World} {K : PySem.W.Frag} {σ : St} {F H : Hp} {ρ ρ' : Env}
/-- behind a freezing: F grows by what v was -/
structure Frz (w : World) (K : PySem.W.Frag) (σ : St) (F H : Hp) (ρ : Env) (gone : Addr → Prop) (F' : Hp) (ρ' : Env) : Prop where
  st : StR w K F' H σ ρ'
  mono : Sub F F'
  frz : ∀ b u, F' b = some u → F b = some u ∨ gone b
  lk : LkE ρ ρ'
  own : ∀ b, ownS σ ρ' b → ownS σ ρ b
def goneOf (σ : St) (ρ : Env) (v : V) (r : R) (b : Addr) : Prop := v = .ref b ∧ (ownS σ ρ b ∨ ∃ d, r = .tmp d)
theorem ownS_set {i : Nat} {sl : Sl} (h : sl.own = false) : ∀ b, ownS σ (ρ.set i sl) b → ownS σ ρ b := fun b ⟨j, s, e, t, q⟩ => by
  by_cases hj : i = j
  · subst hj
    have hl : i < ρ.length := by
      have := (List.getElem?_eq_some_iff.mp e).1
      simpa using this
    rw [List.getElem?_set_self hl] at e
    cases e
    rw [h] at t; cases t
  · rw [List.getElem?_set_ne hj] at e
    exact ⟨j, s, e, t, q⟩
theorem StR.grow {a : Addr} {o : HO} (S : StR w K F H σ ρ) (ha : H a = some o) (n : F a = none) (no : ¬ ownS σ ρ a) : StR w K (upd F a o) H σ ρ := by
  refine ⟨fun b u z => ?_, S.len, fun j s ej t => ?_, S.inj⟩
  · by_cases hb : b = a
    · subst hb; rw [upd_same] at z; cases z; exact ha
    · rw [upd_ne hb] at z; exact S.sub b u z
  · obtain ⟨v, e1, x⟩ := S.slot j s ej t
    refine ⟨v, e1, ?_⟩
    have g : ∀ d, s.own = true → (∃ b, v = .ref b ∧ F b = none ∧ Own w K F H b d) → ∃ b, v = .ref b ∧ upd F a o b = none ∧ Own w K (upd F a o) H b d := by
      rintro d ho' ⟨b, rfl, nb, qb⟩
      refine ⟨b, rfl, ?_, qb.mono (Sub.up n) fun _ z => z⟩
      have : b ≠ a := by
        rintro rfl
        exact no ⟨j, s, ej, ho', e1⟩
      rw [upd_ne this]; exact nb
    cases s with
    | un => trivial
    | fz d => exact Rep.mono (Sub.up n) x
    | lf d => exact Rep.mono (Sub.up n) x
    | ow d => exact g d rfl x
    | le d => exact g d rfl x
    | lk d => exact g d rfl x
theorem frz_slot {i : Nat} {a : Addr} {d : D} {sl sl' : Sl} (S : StR w K F H σ ρ) (e : ρ[i]? = some sl) (ho : sl.own = true) (ev : σ[i]? = some (some (.ref a))) (n : F a = none) (q : Own w K F H a d)
    (hs : ∀ F', Rep w K F' (.ref a) d → slR w K F' H (.ref a) sl') (no : sl'.own = false) (hE : slE sl sl') : ∃ F', Frz w K σ F H ρ (fun b => b = a) F' (ρ.set i sl') ∧ Rep w K F' (.ref a) d := by
  obtain ⟨o, ha⟩ := q.there
  have il : i < ρ.length := (List.getElem?_eq_some_iff.mp e).1
  refine ⟨upd F a o, ⟨⟨fun b u z => ?_, by simpa using S.len, fun j s ej t => ?_, fun j k sj sk b ej ek tj tk vj vk => ?_⟩, Sub.up n, fun b u z => ?_, Lk.set slE.refl e hE, ownS_set no⟩, q.freeze ha n⟩
  · by_cases hb : b = a
    · subst hb; rw [upd_same] at z; cases z; exact ha
    · rw [upd_ne hb] at z; exact S.sub b u z
  · by_cases hj : i = j
    · subst hj
      rw [List.getElem?_set_self il] at ej
      cases ej
      exact ⟨.ref a, ev, hs _ (q.freeze ha n)⟩
    · rw [List.getElem?_set_ne hj] at ej
      obtain ⟨v, e1, x⟩ := S.slot j s ej t
      refine ⟨v, e1, ?_⟩
      have g : ∀ d, s.own = true → (∃ b, v = .ref b ∧ F b = none ∧ Own w K F H b d) → ∃ b, v = .ref b ∧ upd F a o b = none ∧ Own w K (upd F a o) H b d := by
        rintro d ho' ⟨b, rfl, nb, qb⟩
        refine ⟨b, rfl, ?_, qb.mono (Sub.up n) fun _ z => z⟩
        have : b ≠ a := by
          rintro rfl
          exact hj (S.inj i j sl s b e ej ho ho' ev e1)
        rw [upd_ne this]; exact nb
      cases s with
      | un => trivial
      | fz d => exact Rep.mono (Sub.up n) x
      | lf d => exact Rep.mono (Sub.up n) x
      | ow d => exact g d rfl x
      | le d => exact g d rfl x
      | lk d => exact g d rfl x
  · have gj : ∀ (j : Nat) sj, (ρ.set i sl')[j]? = some sj → sj.own = true → ρ[j]? = some sj := fun j sj ej tj => by
      by_cases hj : i = j
      · subst hj
        rw [List.getElem?_set_self il] at ej
        cases ej
        rw [no] at tj; cases tj
      · rw [List.getElem?_set_ne hj] at ej; exact ej
    exact S.inj j k sj sk b (gj j sj ej tj) (gj k sk ek tk) tj tk vj vk
  · by_cases hb : b = a
    · exact .inr hb
    · rw [upd_ne hb] at z; exact .inl z
theorem frz_one {v : V} {r : R} {d : D} (S : StR w K F H σ ρ) (e : ER w K F H σ ρ v r) (h : frz ρ r = .ok d ρ') : ∃ F', Frz w K σ F H ρ (goneOf σ ρ v r) F' ρ' ∧ Rep w K F' v d := by
  have rfl' : ∀ v r, Frz w K σ F H ρ (goneOf σ ρ v r) F ρ := fun v r => ⟨S, Sub.refl F, fun b u z => .inl z, LkE.refl ρ, fun b z => z⟩
  cases r with
  | fro d0 =>
    cases h
    exact ⟨F, rfl' _ _, e⟩
  | tmp d0 =>
    cases h
    obtain ⟨a, rfl, n, q, no⟩ := e
    obtain ⟨o, ha⟩ := q.there
    refine ⟨upd F a o, ⟨S.grow ha n no, Sub.up n, fun b u z => ?_, LkE.refl ρ, fun b z => z⟩, q.freeze ha n⟩
    · by_cases hb : b = a
      · subst hb; exact .inr ⟨rfl, .inr ⟨d, rfl⟩⟩
      · rw [upd_ne hb] at z; exact .inl z
  | «at» i =>
    obtain ⟨e1, sl, e2, t⟩ := e
    have eg : ρ.getD i .un = sl := by rw [List.getD_eq_getElem?_getD, e2]; rfl
    obtain ⟨v', e3, q⟩ := S.slot i sl e2 t
    rw [e1] at e3; cases e3
    unfold frz at h
    simp only [eg] at h
    cases sl with
    | un => cases t
    | fz d0 => cases h; exact ⟨F, rfl' _ _, q⟩
    | lf d0 => cases h; exact ⟨F, rfl' _ _, q⟩
    | lk d0 => cases h
    | ow d0 =>
      cases h
      obtain ⟨a, rfl, n, q⟩ := q
      obtain ⟨F', f, r⟩ := frz_slot (sl' := .fz d) S e2 rfl e1 n q (fun F' z => z) rfl trivial
      exact ⟨F', ⟨f.st, f.mono, fun b u z => (f.frz b u z).imp id fun z => by subst z; exact ⟨rfl, .inl ⟨i, _, e2, rfl, e1⟩⟩, f.lk, f.own⟩, r⟩
    | le d0 =>
      cases h
      obtain ⟨a, rfl, n, q⟩ := q
      obtain ⟨F', f, r⟩ := frz_slot (sl' := .lf d) S e2 rfl e1 n q (fun F' z => z) rfl trivial
      exact ⟨F', ⟨f.st, f.mono, fun b u z => (f.frz b u z).imp id fun z => by subst z; exact ⟨rfl, .inl ⟨i, _, e2, rfl, e1⟩⟩, f.lk, f.own⟩, r⟩
/-- another result, behind a freezing -/
theorem ER.frozen {g : Addr → Prop} {F' : Hp} {v : V} {r : R} (e : ER w K F H σ ρ v r) (f : Frz w K σ F H ρ g F' ρ') (n : ∀ d a, r = .tmp d → v = .ref a → ¬ g a) : ER w K F' H σ ρ' v r := by
  cases r with
  | fro d => exact Rep.mono f.mono e
  | tmp d =>
    obtain ⟨a, rfl, n0, q, no⟩ := e
    refine ⟨a, rfl, ?_, q.mono f.mono fun _ h => h, fun z => no (f.own a z)⟩
    cases z : F' a with
    | none => rfl
    | some y =>
      rcases f.frz a y z with z | z
      · rw [n0] at z; cases z
      · exact absurd z (n d a rfl rfl)
  | «at» i =>
    obtain ⟨e1, sl, e2, t⟩ := e
    obtain ⟨b, e3, q⟩ := f.lk.get e2
    exact ⟨e1, b, e3, by rw [q.there]; exact t⟩
theorem ERL.frozen {g : Addr → Prop} {F' : Hp} (f : Frz w K σ F H ρ g F' ρ') : ∀ {vs : List V} {rs : List R}, ERL w K F H σ ρ vs rs → (∀ (j : Nat) d a, rs[j]? = some (.tmp d) → vs[j]? = some (.ref a) → ¬ g a) → ERL w K F' H σ ρ' vs rs
  | _, _, .nil, _ => .nil
  | _, _, .cons e n t, h => .cons (e.frozen f fun d a hr hv => h 0 d a (by rw [hr]; rfl) (by rw [hv]; rfl)) n (ERL.frozen f t fun j d a hr hv => h (j + 1) d a (by simpa using hr) (by simpa using hv))
theorem ERL.tmpNo : ∀ {vs : List V} {rs : List R}, ERL w K F H σ ρ vs rs → ∀ (j : Nat) d a, rs[j]? = some (.tmp d) → vs[j]? = some (.ref a) → ¬ ownS σ ρ a
  | _, _, .nil, _, _, _, h, _ => by simp at h
  | _, _, .cons e n t, 0, d, a, h, h' => by
    simp at h h'
    subst h h'
    obtain ⟨b, z, _, _, no⟩ := e
    cases z
    exact no
  | _, _, .cons e n t, j + 1, d, a, h, h' => ERL.tmpNo t j d a (by simpa using h) (by simpa using h')
end
section
variable {w : World} {K : PySem.W.Frag} {σ : St} {H : Hp}
theorem frz_all : ∀ {rs : List R} {vs : List V} {ds : List D} {F : Hp} {ρ ρ' : Env}, StR w K F H σ ρ → ERL w K F H σ ρ vs rs → frzs ρ rs = .ok ds ρ' → ∃ F', Frz w K σ F H ρ (ownL σ ρ vs rs) F' ρ' ∧ RepL w K F' vs ds
  | [], _, _, F, ρ, _, S, e, h => by
    cases e
    cases h
    exact ⟨F, ⟨S, Sub.refl F, fun b u z => .inl z, LkE.refl _, fun b z => z⟩, .nil⟩
  | r :: rs, _, _, F, ρ, ρ', S, e, h => by
    cases e with
    | @cons v _ vs _ e1 n t =>
      unfold frzs at h
      cases h1 : frz ρ r with
      | bad => rw [h1] at h; cases h
      | exn x ρ1 => rw [h1] at h; cases h
      | ok d ρ1 =>
        rw [h1] at h
        obtain ⟨F1, f1, q1⟩ := frz_one S e1 h1
        have h : (frzs ρ1 rs).bind (fun ds ρ2 => Out.ok (d :: ds) ρ2) = .ok _ ρ' := h
        cases h2 : frzs ρ1 rs with
        | bad => rw [h2] at h; cases h
        | exn x ρ2 => rw [h2] at h; cases h
        | ok ds ρ2 =>
          rw [h2] at h
          cases h
          have t1 : ERL w K F1 H σ ρ1 vs rs := ERL.frozen f1 t fun j d' a hj hv ⟨z1, z2⟩ => by
            rcases z2 with z2 | ⟨d2, z2⟩
            · exact ERL.tmpNo t j d' a hj hv z2
            · exact n d2 a z2 z1 j d' hj hv
          obtain ⟨F2, f2, q2⟩ := frz_all f1.st t1 h2
          refine ⟨F2, ⟨f2.st, f1.mono.trans f2.mono, fun b u z => ?_, LkE.trans f1.lk f2.lk, fun b z => f1.own b (f2.own b z)⟩, .cons (q1.mono f2.mono) q2⟩
          rcases f2.frz b u z with z | z
          · rcases f1.frz b u z with z | ⟨z1, z2⟩
            · exact .inl z
            · refine .inr ?_
              rcases z2 with z2 | ⟨d2, z2⟩
              · exact .inl z2
              · exact .inr ⟨0, d2, by simp [z2], by simp [z1]⟩
          · refine .inr ?_
            rcases z with z | ⟨j, d', z1, z2⟩
            · exact .inl (f1.own b z)
            · exact .inr ⟨j + 1, d', by simpa using z1, by simpa using z2⟩
theorem ERL.length {F : Hp} {ρ : Env} : ∀ {vs : List V} {rs : List R}, ERL w K F H σ ρ vs rs → vs.length = rs.length
  | _, _, .nil => rfl
  | _, _, .cons _ _ t => congrArg (· + 1) (ERL.length t)
end
theorem okE_frz (r : R) : okE fun ρ => frz ρ r := fun ρ => by
  cases r with
  | fro d => exact LkE.refl ρ
  | tmp d => exact LkE.refl ρ
  | «at» i =>
    simp only [frz]
    cases e : ρ.getD i .un with
    | un => trivial
    | lk d => trivial
    | fz d => exact LkE.refl ρ
    | lf d => exact LkE.refl ρ
    | ow d => exact Lk.set slE.refl (getD_some e (by simp)) trivial
    | le d => exact Lk.set slE.refl (getD_some e (by simp)) trivial
theorem okE_frzs : ∀ rs : List R, okE fun ρ => frzs ρ rs
  | [] => okE_ok _
  | r :: rs => okE_bind (f := fun ρ => frz ρ r) (okE_frz r) fun d => okE_bind (okE_frzs rs) fun ds => okE_ok (d :: ds)

/-! ### displays -/
def eTup (g : SemL) : SemE := fun ρ => (g ρ).bind fun rs ρ1 => (frzs ρ1 rs).bind fun ds ρ2 => .ok (.fro (.tup ds)) ρ2
def eLst (g : SemL) : SemE := fun ρ => (g ρ).bind fun rs ρ1 => (frzs ρ1 rs).bind fun ds ρ2 => .ok (.tmp (.lst ds)) ρ2
theorem okE_tup {g : SemL} (h : okE g) : okE (eTup g) := okE_bind h fun rs => okE_bind (okE_frzs rs) fun ds => okE_ok _
theorem okE_lst {g : SemL} (h : okE g) : okE (eLst g) := okE_bind h fun rs => okE_bind (okE_frzs rs) fun ds => okE_ok _
/-- a row, frozen -/
theorem tl_frz {g : SemL} {k : List D → Env → Out R} {σ : St} {F H : Hp} {ρ : Env} {Q : VK} {Z : List V → Hp → Prop} {n : Nat} (hn : ∀ ρ rs ρ', g ρ = .ok rs ρ' → rs.length = n) (S : StR X.w X.K F H σ ρ) (h : Post X.w X.K c W σ F H ρ ((g ρ).bind fun rs ρ1 => (frzs ρ1 rs).bind k) Q)
    (z : ∀ vs ds ρ2 F2 H2, vs.length = n → StR X.w X.K F2 H2 σ ρ2 → RepL X.w X.K F2 vs ds → Post X.w X.K c W σ F2 H2 ρ2 (k ds ρ2) Q → Z vs H2) : TL X.w X.K c W g σ H Z := by
  refine ⟨F, ρ, S, ?_⟩
  cases e : g ρ with
  | bad => rw [e] at h; exact h
  | exn x ρ1 => rw [e] at h; exact h
  | ok rs ρ1 =>
    rw [e] at h
    have h : Post X.w X.K c W σ F H ρ ((frzs ρ1 rs).bind k) Q := h
    intro vs F1 H1 S1 r1 f1
    cases e2 : frzs ρ1 rs with
    | bad => rw [e2] at h; exact False.elim h
    | exn x ρ2 =>
      exfalso
      revert e2
      have : ∀ (rs : List R) (ρ1 : Env), frzs ρ1 rs ≠ .exn x ρ2 := by
        intro rs
        induction rs with
        | nil => intro ρ1 z; cases z
        | cons r rs ih =>
          intro ρ1 z
          unfold frzs at z
          have nx : ∀ y ρ3, frz ρ1 r ≠ .exn y ρ3 := by
            intro y ρ3 q
            cases r with
            | fro d => cases q
            | tmp d => cases q
            | «at» i =>
              unfold frz at q
              simp only at q
              split at q <;> cases q
          cases q : frz ρ1 r with
          | bad => rw [q] at z; cases z
          | exn y ρ3 => exact nx y ρ3 q
          | ok d ρ3 =>
            rw [q] at z
            have z : (frzs ρ3 rs).bind (fun ds ρ2 => Out.ok (d :: ds) ρ2) = .exn x ρ2 := z
            cases q2 : frzs ρ3 rs with
            | bad => rw [q2] at z; cases z
            | exn y ρ4 => rw [q2] at z; cases z; exact ih ρ3 q2
            | ok ds ρ4 => rw [q2] at z; cases z
      exact this rs ρ1
    | ok ds ρ2 =>
      rw [e2] at h
      have h : Post X.w X.K c W σ F H ρ (k ds ρ2) Q := h
      obtain ⟨F2, f2, q2⟩ := frz_all S1 r1 e2
      refine z vs ds ρ2 F2 H1 (r1.length.trans (hn _ _ _ e)) f2.st q2 (h.step (o := ownS σ ρ2) ⟨f1.keep, fun b z => f1.new b (.inl (f2.own b z)), fun b u z => ?_, f1.mono.trans f2.mono⟩ fun _ z => z)
      rcases f2.frz b u z with z | z
      · exact f1.frz b u z
      · rcases f1.new b z with z | z
        · exact .inr (.inl z)
        · exact .inr (.inr z)
theorem n1000 {n : Nat} (h : decide (n ≤ 1000) = true) : n ≤ sizeLine := Nat.le_trans (of_decide_eq_true h) (by decide)
theorem se_tup {es : List Expr} {g : SemL} {k} (hs : SA X c W es g) (hl : decide (es.length ≤ 1000) = true) : SE X c W (.Tuple es k pos) (eTup g) := by
  refine ⟨PE.imp (pe_tup hs.pa) fun σ H Q ⟨F, ρ, S, h⟩ => ?_, okE_tup hs.ok⟩
  refine tl_frz (n := es.length) hs.len S h fun vs ds ρ2 F2 H2 hn S2 r2 h2 => ?_
  exact ⟨by rw [hn]; exact n1000 hl, fun p hp => (prq (pr := .nt ds) S2 h2).2 p vs hp r2⟩
theorem se_lst {es : List Expr} {g : SemL} (hs : SA X c W es g) (hl : decide (es.length ≤ 1000) = true) : SE X c W (.List es pos) (eLst g) := by
  refine ⟨PE.imp (pe_lst hs.pa) fun σ H Q ⟨F, ρ, S, h⟩ => ?_, okE_lst hs.ok⟩
  refine tl_frz (n := es.length) hs.len S h fun vs ds ρ2 F2 H2 hn S2 r2 h2 => ?_
  exact ⟨by rw [hn]; exact n1000 hl, fun p hp => (prq (pr := .nl ds) S2 h2) p vs hp r2⟩

/-! ### calls of built-ins by values -/
def eFn (g : List D → Option PR) (f : SemL) : SemE := fun ρ => (f ρ).bind fun rs ρ1 => outP ρ1 (g (rs.map (val ρ1)))
theorem okE_fn {g : List D → Option PR} {f : SemL} (h : okE f) : okE (eFn g f) := okE_bind h fun rs ρ => okE_outP (g (rs.map (val ρ))) ρ
def FnG (X : Cx) (f : Value) (g : List D → Option PR) : Prop :=
  ∃ r, CallR X f r ∧ ∀ F H vs ds p Q, Sub F H → Paired (Top X.w X.K F H) vs ds → g ds = some p → PRQ X.w X.K F H p Q → r vs H Q
theorem ERL.tops {w : World} {K : PySem.W.Frag} {σ : St} {F H : Hp} {ρ : Env} (S : StR w K F H σ ρ) : ∀ {vs : List V} {rs : List R}, ERL w K F H σ ρ vs rs → Paired (Top w K F H) vs (rs.map (val ρ))
  | _, _, .nil => .nil
  | _, _, .cons e _ t => .cons (e.top S) (ERL.tops S t)
theorem tl_fn {f : SemL} {g : List D → Option PR} {r : List V → Hp → VK → Prop} (hr : ∀ F H vs ds p Q, Sub F H → Paired (Top X.w X.K F H) vs ds → g ds = some p → PRQ X.w X.K F H p Q → r vs H Q)
    {σ : St} {H : Hp} {Q : VK} (h : TD X.w X.K c W (eFn g f) σ H Q) : TL X.w X.K c W f σ H fun vs H1 => r vs H1 Q := by
  obtain ⟨F, ρ, S, h⟩ := h
  refine ⟨F, ρ, S, ?_⟩
  unfold eFn at h
  cases e : f ρ with
  | bad => rw [e] at h; exact h
  | exn x ρ1 => rw [e] at h; exact h
  | ok rs ρ1 =>
    rw [e] at h
    intro vs F1 H1 S1 r1 f1
    obtain ⟨p, hp, hq⟩ := out_prq S1 (Post.step (out := outP ρ1 (g (rs.map (val ρ1)))) f1 (fun b z => .inl z) h)
    exact hr F1 H1 vs _ p Q S1.sub (r1.tops S1) hp hq
theorem se_fnB {x : Str} {p : Pos} {e : Expr} {es : List Expr} {f : SemL} {g : List D → Option PR} {id : String} (hc : FnG X (.builtin id) g) (hg : Gl X x) (hm : X.mg x = none) (hv : bootBuiltins x = some (.builtin id)) (ha : SA X c W (e :: es) f) (hn : x ≠ "__name__") (hdb : (x == ("__debug__" : Str)) = false)
    (he : starEach (e :: es) X.env = (false, eval e X.env) :: starEach es X.env) (hpl : (backTo pos (starEach es X.env)).any (·.1) = false) : SE X c W (.Call (.Name x p) (e :: es) [] pos) (eFn g f) := by
  obtain ⟨r, h1, h2⟩ := hc
  exact ⟨PE.imp (pe_callB h1 hg hm hv ha.pa hn hdb he hpl) fun σ H Q h => tl_fn h2 h, okE_fn ha.ok⟩
theorem se_fnT {x : Str} {p : Pos} {e : Expr} {es : List Expr} {f : SemL} {g : List D → Option PR} {T : String} (hc : FnG X (.type T) g) (hg : Gl X x) (hm : X.mg x = none) (hv : bootBuiltins x = some (.type T)) (ha : SA X c W (e :: es) f) (hn : x ≠ "__name__") (hdb : (x == ("__debug__" : Str)) = false)
    (he : starEach (e :: es) X.env = (false, eval e X.env) :: starEach es X.env) (hpl : (backTo pos (starEach es X.env)).any (·.1) = false) : SE X c W (.Call (.Name x p) (e :: es) [] pos) (eFn g f) := by
  obtain ⟨r, h1, h2⟩ := hc
  exact ⟨PE.imp (pe_callTy h1 hg hm hv ha.pa hn hdb he hpl) fun σ H Q h => tl_fn h2 h, okE_fn ha.ok⟩
end
end WS
/-! We: defs as functions on slots, their calls. -/
namespace WS
open PySem L2

inductive FOut where
  | ok (r : R) (outs : List Sl) | exn (x : Ex) (outs : List Sl) | bad
abbrev Fn := List Sl → FOut
def isC : D → Bool
  | .lst _ => true
  | .dct _ => true
  | _ => false
/-- how a parameter comes back -/
def slF : Sl → Sl → Prop
  | .le _, .le _ => True
  | .le _, .lf d => isC d = true
  | .lf a, .lf b => a = b
  | .lk a, .lk b => a = b
  | .le _, _ => False
  | .lf _, _ => False
  | .lk _, _ => False
  | _, .un => True
  | _, _ => False
def LkF (ps : List Sl) : FOut → Prop
  | .ok r outs => (∀ i, r ≠ .at i) ∧ Lk slF ps outs
  | .exn _ outs => Lk slF ps outs
  | .bad => True
def okF (fn : Fn) : Prop := ∀ ps, LkF ps (fn ps)
def toSl (ρ : Env) : R → Sl
  | .fro d => .fz d
  | .tmp d => .ow d
  | .at i =>
    match ρ.getD i .un with
    | .un => .un
    | .fz d => .fz d
    | .lf d => .fz d
    | .ow d => .le d
    | .le d => .le d
    | .lk d => .lk d
def ownI (ρ : Env) : R → Option Nat
  | .at i => if (ρ.getD i .un).own = true then some i else none
  | _ => none
def nodupB : List Nat → Bool
  | [] => true
  | x :: xs => !xs.elem x && nodupB xs
def apart (ρ : Env) (rs : List R) : Bool := nodupB (rs.filterMap (ownI ρ))
def outAt (i : Nat) : List R → List Sl → Option Sl
  | .at k :: rs, o :: os => if k = i then some o else outAt i rs os
  | .fro _ :: rs, _ :: os => outAt i rs os
  | .tmp _ :: rs, _ :: os => outAt i rs os
  | _, _ => none
def wb1 : Sl → Option Sl → Sl
  | .ow _, some (.le d) => .ow d
  | .ow _, some (.lf d) => .fz d
  | .le _, some (.le d) => .le d
  | .le _, some (.lf d) => .lf d
  | s, _ => s
def wbs (ρ : Env) (rs : List R) (os : List Sl) : Env := ρ.mapIdx fun i sl => wb1 sl (outAt i rs os)
def eCall (fn : Fn) (g : SemL) : SemE := fun ρ => (g ρ).bind fun rs ρ1 => if apart ρ1 rs = true then
    (match fn (rs.map (toSl ρ1)) with
    | .ok r outs => .ok r (wbs ρ1 rs outs)
    | .exn x outs => .exn x (wbs ρ1 rs outs)
    | .bad => .bad) else .bad
theorem wb1_e (s : Sl) (o : Option Sl) : slE s (wb1 s o) := by
  cases s <;> first | exact slE.refl _ | (cases o with | none => trivial | some o => cases o <;> trivial)
theorem wbs_get {ρ : Env} {rs : List R} {os : List Sl} {i : Nat} : (wbs ρ rs os)[i]? = (ρ[i]?).map fun sl => wb1 sl (outAt i rs os) := by
  unfold wbs; rw [List.getElem?_mapIdx]
theorem lk_wbs (rs : List R) (os : List Sl) (ρ : Env) : LkE ρ (wbs ρ rs os) := by
  refine ⟨by unfold wbs; simp, fun i a b h h' => ?_⟩
  rw [wbs_get, h] at h'
  cases h'
  exact wb1_e _ _
theorem outAt_some : ∀ {rs : List R} {os : List Sl} {i : Nat} {o : Sl}, outAt i rs os = some o → ∃ j : Nat, rs[j]? = some (R.at i) ∧ os[j]? = some o
  | .at k :: rs, o :: os, i, o', h => by
    unfold outAt at h
    split at h
    · rename_i e; cases h; subst e; exact ⟨0, rfl, rfl⟩
    · obtain ⟨j, a, b⟩ := outAt_some h; exact ⟨j + 1, by simpa using a, by simpa using b⟩
  | .fro _ :: rs, o :: os, i, o', h => by
    obtain ⟨j, a, b⟩ := outAt_some (rs := rs) (os := os) h; exact ⟨j + 1, by simpa using a, by simpa using b⟩
  | .tmp _ :: rs, o :: os, i, o', h => by
    obtain ⟨j, a, b⟩ := outAt_some (rs := rs) (os := os) h; exact ⟨j + 1, by simpa using a, by simpa using b⟩
  | [], os, i, o', h => by cases os <;> cases h
  | .at _ :: _, [], i, o', h => by cases h
  | .fro _ :: _, [], i, o', h => by cases h
  | .tmp _ :: _, [], i, o', h => by cases h
theorem outAt_none : ∀ {rs : List R} {os : List Sl} {i j : Nat} {o : Sl}, outAt i rs os = none → rs[j]? = some (R.at i) → os[j]? ≠ some o
  | .at k :: rs, o :: os, i, j, o', h, hj => by
    unfold outAt at h
    split at h
    · cases h
    · rename_i e
      cases j with
      | zero => exact absurd (by simpa using hj) e
      | succ j => simpa using outAt_none h (by simpa using hj)
  | .fro _ :: rs, o :: os, i, j, o', h, hj => by
    cases j with
    | zero => simp at hj
    | succ j => simpa using outAt_none (rs := rs) (os := os) h (by simpa using hj)
  | .tmp _ :: rs, o :: os, i, j, o', h, hj => by
    cases j with
    | zero => simp at hj
    | succ j => simpa using outAt_none (rs := rs) (os := os) h (by simpa using hj)
  | [], os, i, j, o', h, hj => by simp at hj
  | .at _ :: _, [], i, j, o', h, hj => by simp
  | .fro _ :: _, [], i, j, o', h, hj => by simp
  | .tmp _ :: _, [], i, j, o', h, hj => by simp
theorem okE_call {fn : Fn} {g : SemL} (h : okE g) : okE (eCall fn g) := okE_bind h fun rs ρ => by
  by_cases ha : apart ρ rs = true
  · simp only [ha, if_true]
    cases fn (rs.map (toSl ρ)) with
    | ok r outs => exact lk_wbs rs outs ρ
    | exn x outs => exact lk_wbs rs outs ρ
    | bad => trivial
  · simp only [ha]
    trivial

section
variable (w : World) (K : PySem.W.Frag) (c : XC)
def PostF (vs : List V) (F H : Hp) (ps : List Sl) (out : FOut) (Q : VK) (E : XK) : Prop :=
  match out with
  | .ok r outs => ∀ v F' H', StR w K F' H' (vs.map some) outs → ER w K F' H' (vs.map some) outs v r → Fr F H (ownS (vs.map some) ps) F' H' (ownR (vs.map some) outs v r) → Q v H'
  | .exn x outs => ∀ cls d F' H', StR w K F' H' (vs.map some) outs → XR w K c x cls d F' H' → Fr F H (ownS (vs.map some) ps) F' H' (ownS (vs.map some) outs) → E cls d H'
  | .bad => False
/-- a def's promise: it is fn -/
def spD (fn : Fn) (n : Nat) : Sp := fun vs H Q E => vs.length = n ∧ ∃ F ps, StR w K F H (vs.map some) ps ∧ (∀ sl ∈ ps, sl.there = true) ∧ PostF w K c vs F H ps (fn ps) Q E
end
theorem nodupB_ne {xs : List Nat} : ∀ {i j : Nat} {x : Nat}, nodupB xs = true → xs[i]? = some x → xs[j]? = some x → i = j := by
  induction xs with
  | nil => intro i j x _ h; simp at h
  | cons y ys ih =>
    intro i j x h hi hj
    unfold nodupB at h
    rw [Bool.and_eq_true] at h
    obtain ⟨h1, h2⟩ := h
    have no : y ∉ ys := by simpa using h1
    cases i with
    | zero =>
      cases j with
      | zero => rfl
      | succ j =>
        simp at hi hj
        subst hi
        exact absurd (List.mem_of_getElem? hj) no
    | succ i =>
      cases j with
      | zero =>
        simp at hi hj
        subst hj
        exact absurd (List.mem_of_getElem? hi) no
      | succ j => exact congrArg (· + 1) (ih h2 (by simpa using hi) (by simpa using hj))
/-- two places of the same owned slot are one -/
theorem apart_ne {ρ : Env} : ∀ {rs : List R} {j k i : Nat}, apart ρ rs = true → rs[j]? = some (.at i) → rs[k]? = some (.at i) → (ρ.getD i .un).own = true → j = k
  | [], _, _, _, _, h, _, _ => by simp at h
  | r :: rs, j, k, i, ha, hj, hk, ho => by
    have ht : apart ρ rs = true := by
      unfold apart at ha ⊢
      rw [List.filterMap_cons] at ha
      split at ha
      · exact ha
      · unfold nodupB at ha; exact (Bool.and_eq_true_iff.mp ha).2
    have hm : ∀ k : Nat, rs[k]? = some (R.at i) → r = R.at i → False := fun k hk hr => by
      rw [hr] at ha
      unfold apart at ha
      rw [List.filterMap_cons] at ha
      have e : ownI ρ (.at i) = some i := by show (if _ then _ else _) = _; rw [if_pos ho]
      rw [e] at ha
      have ha : nodupB (i :: rs.filterMap (ownI ρ)) = true := ha
      unfold nodupB at ha
      have no : i ∉ rs.filterMap (ownI ρ) := by simpa using (Bool.and_eq_true_iff.mp ha).1
      exact no (List.mem_filterMap.mpr ⟨R.at i, List.mem_of_getElem? hk, e⟩)
    cases j with
    | zero =>
      cases k with
      | zero => rfl
      | succ k => exact (hm k (by simpa using hk) (by simpa using hj)).elim
    | succ j =>
      cases k with
      | zero => exact (hm j (by simpa using hj) (by simpa using hk)).elim
      | succ k => exact congrArg (· + 1) (apart_ne ht (by simpa using hj) (by simpa using hk) ho)
section
variable {w : World} {K : PySem.W.Frag} {σ : St} {F H : Hp} {ρ : Env}
theorem ERL.get {vs : List V} {rs : List R} {j : Nat} {r : R} (l : ERL w K F H σ ρ vs rs) (e : rs[j]? = some r) : ∃ v, vs[j]? = some v ∧ ER w K F H σ ρ v r := by
  induction j generalizing vs rs with
  | zero => cases l with
    | nil => cases e
    | cons x _ _ => cases e; exact ⟨_, rfl, x⟩
  | succ j ih => cases l with
    | nil => cases e
    | cons _ _ t => exact ih t e
theorem ERL.apartT : ∀ {vs : List V} {rs : List R} {j k : Nat} {d d' : D} {a : Addr}, ERL w K F H σ ρ vs rs → rs[j]? = some (.tmp d) → rs[k]? = some (.tmp d') → vs[j]? = some (.ref a) → vs[k]? = some (.ref a) → j = k
  | _, _, _, _, _, _, _, .nil, h, _, _, _ => by simp at h
  | _, _, 0, 0, _, _, _, .cons _ _ _, _, _, _, _ => rfl
  | _, _, 0, k + 1, _, _, _, .cons _ n _, h1, h2, h3, h4 => by
    simp at h1 h3
    exact absurd (by simpa using h4) (n _ _ h1 h3 k _ (by simpa using h2))
  | _, _, j + 1, 0, _, _, _, .cons _ n _, h1, h2, h3, h4 => by
    simp at h2 h4
    exact absurd (by simpa using h3) (n _ _ h2 h4 j _ (by simpa using h1))
  | _, _, j + 1, k + 1, _, _, _, .cons _ _ t, h1, h2, h3, h4 => congrArg (· + 1) (ERL.apartT t (by simpa using h1) (by simpa using h2) (by simpa using h3) (by simpa using h4))
theorem getD_of {i : Nat} {sl : Sl} (e : ρ[i]? = some sl) : ρ.getD i .un = sl := by rw [List.getD_eq_getElem?_getD, e]; rfl
/-- an argument's slot -/
theorem toSl_ok {v : V} {r : R} (S : StR w K F H σ ρ) (e : ER w K F H σ ρ v r) : slR w K F H v (toSl ρ r) ∧ (toSl ρ r).there = true := by
  cases r with
  | fro d => exact ⟨e, rfl⟩
  | tmp d => obtain ⟨a, x, n, q, _⟩ := e; exact ⟨⟨a, x, n, q⟩, rfl⟩
  | «at» i =>
    obtain ⟨e1, sl, e2, t⟩ := e
    obtain ⟨v', e3, q⟩ := S.slot i sl e2 t
    rw [e1] at e3; cases e3
    unfold toSl
    simp only [getD_of e2]
    cases sl with
    | un => cases t
    | _ => exact ⟨q, rfl⟩
theorem toSl_own {v : V} {r : R} {a : Addr} (S : StR w K F H σ ρ) (e : ER w K F H σ ρ v r) (ho : (toSl ρ r).own = true) (hv : v = .ref a) : (∃ d, r = .tmp d) ∨ ∃ i sl, r = .at i ∧ ρ[i]? = some sl ∧ sl.own = true ∧ σ[i]? = some (some (.ref a)) := by
  cases r with
  | fro d => cases ho
  | tmp d => exact .inl ⟨d, rfl⟩
  | «at» i =>
    obtain ⟨e1, sl, e2, t⟩ := e
    unfold toSl at ho
    simp only [getD_of e2] at ho
    refine .inr ⟨i, sl, rfl, e2, ?_, by rw [e1, hv]⟩
    cases sl <;> simp_all [Sl.own]
theorem map_get {vs : List V} {j : Nat} {v : V} (h : vs[j]? = some v) : (vs.map some)[j]? = some (some v) := by rw [List.getElem?_map, h]; rfl
theorem of_map_get {vs : List V} {j : Nat} {v : V} (h : (vs.map some)[j]? = some (some v)) : vs[j]? = some v := by
  rw [List.getElem?_map] at h
  cases e : vs[j]? with
  | none => rw [e] at h; cases h
  | some u => rw [e] at h; cases h; rfl
/-- the callee's state at its start -/
theorem args_st {vs : List V} {rs : List R} (S : StR w K F H σ ρ) (e : ERL w K F H σ ρ vs rs) (ha : apart ρ rs = true) : StR w K F H (vs.map some) (rs.map (toSl ρ)) := by
  refine ⟨S.sub, by rw [List.length_map, List.length_map, e.length], fun j sl ej t => ?_, fun j k sj sk a ej ek tj tk vj vk => ?_⟩
  · rw [List.getElem?_map] at ej
    cases q : rs[j]? with
    | none => rw [q] at ej; cases ej
    | some r =>
      rw [q] at ej; cases ej
      obtain ⟨v, h1, h2⟩ := e.get q
      exact ⟨v, map_get h1, (toSl_ok S h2).1⟩
  · rw [List.getElem?_map] at ej ek
    cases qj : rs[j]? with
    | none => rw [qj] at ej; cases ej
    | some r =>
      cases qk : rs[k]? with
      | none => rw [qk] at ek; cases ek
      | some r' =>
        rw [qj] at ej; cases ej
        rw [qk] at ek; cases ek
        obtain ⟨v, h1, h2⟩ := e.get qj
        obtain ⟨v', h1', h2'⟩ := e.get qk
        have z := of_map_get vj
        have z' := of_map_get vk
        rw [h1] at z; cases z
        rw [h1'] at z'; cases z'
        rcases toSl_own S h2 tj rfl with ⟨d, rfl⟩ | ⟨i, sl, rfl, g1, g2, g3⟩
        · rcases toSl_own S h2' tk rfl with ⟨d', rfl⟩ | ⟨i', sl', rfl, g1', g2', g3'⟩
          · exact e.apartT qj qk h1 h1'
          · obtain ⟨b, z, _, _, no⟩ := h2
            cases z
            exact absurd ⟨i', sl', g1', g2', g3'⟩ no
        · rcases toSl_own S h2' tk rfl with ⟨d', rfl⟩ | ⟨i', sl', rfl, g1', g2', g3'⟩
          · obtain ⟨b, z, _, _, no⟩ := h2'
            cases z
            exact absurd ⟨i, sl, g1, g2, g3⟩ no
          · have := S.inj i i' sl sl' a g1 g1' g2 g2' g3 g3'
            subst this
            exact apart_ne ha qj qk (by rw [getD_of g1]; exact g2)
/-- what the callee owns at its start is the caller's, or new -/
theorem args_own {vs : List V} {rs : List R} (S : StR w K F H σ ρ) (e : ERL w K F H σ ρ vs rs) {b : Addr} (h : ownS (vs.map some) (rs.map (toSl ρ)) b) : ownL σ ρ vs rs b := by
  obtain ⟨j, sl, ej, t, vj⟩ := h
  rw [List.getElem?_map] at ej
  cases q : rs[j]? with
  | none => rw [q] at ej; cases ej
  | some r =>
    rw [q] at ej; cases ej
    obtain ⟨v, h1, h2⟩ := e.get q
    have z := of_map_get vj
    rw [h1] at z; cases z
    rcases toSl_own S h2 t rfl with ⟨d, rfl⟩ | ⟨i, sl, rfl, g1, g2, g3⟩
    · exact .inr ⟨j, d, q, h1⟩
    · exact .inl ⟨i, sl, g1, g2, g3⟩
/-- behind the call: the slots that were lent take what has come back -/
theorem wbs_st {F' H' : Hp} {vs : List V} {rs : List R} {outs : List Sl} {o' : Addr → Prop} (S : StR w K F H σ ρ) (e : ERL w K F H σ ρ vs rs) (lk : Lk slF (rs.map (toSl ρ)) outs)
    (S' : StR w K F' H' (vs.map some) outs) (f : Fr F H (ownS (vs.map some) (rs.map (toSl ρ))) F' H' o') : StR w K F' H' σ (wbs ρ rs outs) := by
  have lE := lk_wbs rs outs ρ
  have own_of : ∀ {i : Nat} {sl : Sl}, (wbs ρ rs outs)[i]? = some sl → sl.own = true → ∃ s0, ρ[i]? = some s0 ∧ s0.own = true := fun {i sl} h ho => by
    rw [wbs_get] at h
    cases q : ρ[i]? with
    | none => rw [q] at h; cases h
    | some s0 =>
      rw [q] at h
      have q2 := lE.2 i s0 sl q (by rw [wbs_get, q]; exact h)
      exact ⟨s0, rfl, by cases s0 <;> cases sl <;> simp_all [slE, Sl.own]⟩
  refine ⟨S'.sub, by rw [lE.1]; exact S.len, fun i sl h t => ?_, fun i j si sj a hi hj oi oj vi vj => ?_⟩
  rotate_left
  · obtain ⟨s0, a0, b0⟩ := own_of hi oi
    obtain ⟨s1, a1, b1⟩ := own_of hj oj
    exact S.inj i j s0 s1 a a0 a1 b0 b1 vi vj
  rw [wbs_get] at h
  cases q : ρ[i]? with
  | none => rw [q] at h; cases h
  | some s0 =>
    rw [q] at h
    have hs : wb1 s0 (outAt i rs outs) = sl := Option.some.inj h
    have t0 : s0.there = true := by rw [← (wb1_e s0 (outAt i rs outs)).there, hs]; exact t
    obtain ⟨v, e1, x⟩ := S.slot i s0 q t0
    refine ⟨v, e1, ?_⟩
    by_cases ho : s0.own = true
    · cases qo : outAt i rs outs with
      | some o =>
        obtain ⟨j, hj, oj⟩ := outAt_some qo
        obtain ⟨vj, h1, h2⟩ := e.get hj
        have ev : vj = v := by
          obtain ⟨z, _⟩ := h2
          rw [e1] at z; cases z; rfl
        subst ev
        have pj : (rs.map (toSl ρ))[j]? = some (toSl ρ (.at i)) := by rw [List.getElem?_map, hj]; rfl
        have hF := lk.2 j _ o pj oj
        have tj : o.there = true := by
          unfold toSl at hF
          simp only [getD_of q] at hF
          cases s0 <;> cases o <;> simp_all [slF, Sl.own, Sl.there]
        obtain ⟨v2, g1, g2⟩ := S'.slot j o oj tj
        have g1 := of_map_get g1
        rw [h1] at g1; cases g1
        unfold toSl at hF
        simp only [getD_of q] at hF
        rw [qo] at hs
        subst hs
        cases s0 with
        | un => cases ho
        | fz d => cases ho
        | lf d => cases ho
        | ow d => cases o <;> first | exact False.elim hF | exact g2
        | le d => cases o <;> first | exact False.elim hF | exact g2
        | lk d =>
          cases o <;> first | exact False.elim hF | skip
          have hF : d = _ := hF
          subst hF
          exact g2
      | none =>
        rw [qo] at hs
        have hs : sl = s0 := by rw [← hs]; cases s0 <;> rfl
        subst hs
        have no : ∀ a, v = .ref a → ¬ ownS (vs.map some) (rs.map (toSl ρ)) a := by
          rintro a rfl ⟨j, sj, ej, tj, vj⟩
          rw [List.getElem?_map] at ej
          cases q2 : rs[j]? with
          | none => rw [q2] at ej; cases ej
          | some r =>
            rw [q2] at ej; cases ej
            obtain ⟨v2, h1, h2⟩ := e.get q2
            have z := of_map_get vj
            rw [h1] at z; cases z
            rcases toSl_own S h2 tj rfl with ⟨d, rfl⟩ | ⟨i', sl', rfl, g1, g2, g3⟩
            · obtain ⟨b, z, _, _, no⟩ := h2
              cases z
              exact no ⟨i, sl, q, ho, e1⟩
            · have := S.inj i i' sl sl' a q g1 ho g2 e1 g3
              subst this
              have hl : j < outs.length := by
                rw [lk.1, List.length_map]
                exact (List.getElem?_eq_some_iff.mp q2).1
              exact outAt_none qo q2 (List.getElem?_eq_getElem hl)
        have g : ∀ d, (∃ a, v = .ref a ∧ F a = none ∧ Own w K F H a d) → ∃ a, v = .ref a ∧ F' a = none ∧ Own w K F' H' a d := by
          rintro d ⟨a, rfl, n, y⟩
          have na := no a rfl
          obtain ⟨u, hu⟩ := y.there
          refine ⟨a, rfl, ?_, y.mono f.mono fun o h => f.keep a o h na⟩
          cases z : F' a with
          | none => rfl
          | some u' =>
            rcases f.frz a u' z with z | z | z
            · rw [n] at z; cases z
            · exact absurd z na
            · rw [hu] at z; cases z
        cases sl with
        | un => trivial
        | fz d => cases ho
        | lf d => cases ho
        | ow d => exact g d x
        | le d => exact g d x
        | lk d => exact g d x
    · have hs : sl = s0 := by
        rw [← hs]
        cases s0 <;> first | rfl | (exact absurd rfl ho)
      subst hs
      cases sl with
      | un => trivial
      | fz d => exact Rep.mono f.mono x
      | lf d => exact Rep.mono f.mono x
      | ow d => exact absurd rfl ho
      | le d => exact absurd rfl ho
      | lk d => exact absurd rfl ho
theorem ownS_wbs {rs : List R} {outs : List Sl} {b : Addr} (h : ownS σ (wbs ρ rs outs) b) : ownS σ ρ b := by
  obtain ⟨i, sl, h, ho, q⟩ := h
  rw [wbs_get] at h
  cases e : ρ[i]? with
  | none => rw [e] at h; cases h
  | some s0 =>
    rw [e] at h
    have q2 := (lk_wbs rs outs ρ).2 i s0 sl e (by rw [wbs_get, e]; exact h)
    exact ⟨i, s0, e, by cases s0 <;> cases sl <;> simp_all [slE, Sl.own], q⟩
end
section
variable {X : Cx} {c : XC} {W : WX} {pos : Pos}
theorem tl_call {fn : Fn} {g : SemL} {n : Nat} (ok : okF fn) (hl : ∀ ρ rs ρ', g ρ = .ok rs ρ' → rs.length = n) {σ : St} {H : Hp} {Q : VK} (h : TD X.w X.K c W (eCall fn g) σ H Q) :
    TL X.w X.K c W g σ H fun vs H1 => spD X.w X.K c fn n vs H1 Q (WE W σ) := by
  obtain ⟨F, ρ, S, h⟩ := h
  refine ⟨F, ρ, S, ?_⟩
  unfold eCall at h
  cases e : g ρ with
  | bad => rw [e] at h; exact h
  | exn x ρ1 => rw [e] at h; exact h
  | ok rs ρ1 =>
    rw [e] at h
    intro vs F1 H1 S1 r1 f1
    have h : Post X.w X.K c W σ F H ρ (if apart ρ1 rs = true then (match fn (rs.map (toSl ρ1)) with | .ok r outs => .ok r (wbs ρ1 rs outs) | .exn x outs => .exn x (wbs ρ1 rs outs) | .bad => .bad) else .bad) Q := h
    by_cases ha : apart ρ1 rs = true
    rotate_left
    · rw [if_neg ha] at h; exact False.elim h
    rw [if_pos ha] at h
    refine ⟨r1.length.trans (hl _ _ _ e), F1, rs.map (toSl ρ1), args_st S1 r1 ha, fun sl hs => ?_, ?_⟩
    · obtain ⟨r, hr, rfl⟩ := List.mem_map.mp hs
      obtain ⟨j, hj⟩ := List.mem_iff_getElem?.mp hr
      obtain ⟨v, _, h2⟩ := r1.get hj
      exact (toSl_ok S1 h2).2
    have okp := ok (rs.map (toSl ρ1))
    have frm : ∀ {F' H' : Hp} {outs : List Sl} {p : Addr → Prop} (f : Fr F1 H1 (ownS (vs.map some) (rs.map (toSl ρ1))) F' H' p), Fr F H (ownS σ ρ) F' H' (ownS σ (wbs ρ1 rs outs)) := fun {F' H' outs p} f => by
      have lim : ∀ b, ownS (vs.map some) (rs.map (toSl ρ1)) b → ownS σ ρ b ∨ H b = none := fun b z => f1.new b (args_own S1 r1 z)
      refine ⟨fun b u hb no => ?_, fun b z => f1.new b (.inl (ownS_wbs z)), fun b u hb => ?_, f1.mono.trans f.mono⟩
      · refine f.keep b u (f1.keep b u hb no) fun z => ?_
        rcases lim b z with z | z
        · exact no z
        · rw [hb] at z; cases z
      · rcases f.frz b u hb with z | z | z
        · exact f1.frz b u z
        · exact .inr (lim b z)
        · refine .inr ?_
          cases q : H b with
          | none => exact .inr rfl
          | some y =>
            refine .inl (Classical.byContradiction fun n => ?_)
            rw [f1.keep b y q n] at z; cases z
    cases ef : fn (rs.map (toSl ρ1)) with
    | bad => rw [ef] at h; exact False.elim h
    | exn x outs =>
      rw [ef] at h okp
      exact fun cls d F' H' S' x' f' => h cls d F' H' (wbs_st S1 r1 okp S' f') x' (frm f')
    | ok r outs =>
      rw [ef] at h okp
      obtain ⟨nat, lk⟩ := okp
      intro v F' H' S' e' f'
      refine h v F' H' (wbs_st S1 r1 lk S' f') ?_ ?_
      · cases r with
        | «at» i => exact absurd rfl (nat i)
        | fro d => exact e'
        | tmp d =>
          obtain ⟨a, rfl, n, q, no⟩ := e'
          refine ⟨a, rfl, n, q, fun z => ?_⟩
          -- an owned slot's object would be new, or lent and come back
          have z0 := ownS_wbs z
          rcases f'.new a (.inr ⟨d, rfl, rfl⟩) with y | y
          · obtain ⟨j, sj, ej, tj, vj⟩ := y
            rw [List.getElem?_map] at ej
            cases q2 : rs[j]? with
            | none => rw [q2] at ej; cases ej
            | some r =>
            rw [q2] at ej; cases ej
            obtain ⟨v2, h1, h2⟩ := r1.get q2
            have z2 := of_map_get vj
            rw [h1] at z2; cases z2
            rcases toSl_own S1 h2 tj rfl with ⟨d', rfl⟩ | ⟨i', sl', rfl, g1, g2, g3⟩
            · obtain ⟨b, z2, _, _, no2⟩ := h2
              cases z2
              exact no2 z0
            have ej : (rs.map (toSl ρ1))[j]? = some (toSl ρ1 (.at i')) := by rw [List.getElem?_map, q2]; rfl
            have hl : j < outs.length := by
              rw [lk.1]
              exact (List.getElem?_eq_some_iff.mp ej).1
            have oj := List.getElem?_eq_getElem hl
            have hF := lk.2 j _ _ ej oj
            generalize outs[j] = o at oj hF
            unfold toSl at hF
            simp only [getD_of g1] at hF
            have out : ∀ d, o = .lf d → isC d = true → False := fun d ho hc => by
              subst ho
              obtain ⟨v3, k1, k2⟩ := S'.slot j _ oj rfl
              rw [vj] at k1; cases k1
              have k2 : Rep X.w X.K F' (.ref a) d := k2
              cases d with
              | lst ds => cases k2 with | lst y _ => rw [n] at y; cases y
              | dct kvs => cases k2 with | dct y _ _ => rw [n] at y; cases y
              | _ => cases hc
            cases sl' with
            | un => cases g2
            | fz d => cases g2
            | lf d => cases g2
            | ow d0 =>
              cases o with
              | le d => exact no ⟨j, _, oj, rfl, vj⟩
              | lf d => exact out d rfl hF
              | _ => exact False.elim hF
            | le d0 =>
              cases o with
              | le d => exact no ⟨j, _, oj, rfl, vj⟩
              | lf d => exact out d rfl hF
              | _ => exact False.elim hF
            | lk d0 =>
              cases o with
              | lk d => exact no ⟨j, _, oj, rfl, vj⟩
              | _ => exact False.elim hF
          · obtain ⟨u, hu⟩ := S1.ownThere z0
            rw [y] at hu; cases hu
      · have fr := frm (outs := outs) f'
        refine ⟨fr.keep, fun b z => ?_, fr.frz, fr.mono⟩
        rcases z with z | ⟨d, rfl, rfl⟩
        · exact fr.new b z
        · rcases f'.new b (.inr ⟨d, rfl, rfl⟩) with y | y
          · exact f1.new b (args_own S1 r1 y)
          · cases q : H b with
            | none => exact .inr rfl
            | some u =>
              refine .inl (Classical.byContradiction fun n => ?_)
              rw [f1.keep b u q n] at y; cases y
/-- what a def may let out: any exception, or one that was made where none was handled -/
inductive Md | o | n
abbrev CXm : Md → Program → World → CXT
  | .o, P, w => L2.CX P w
  | .n, P, w => L2N.CX P w
/-- such exceptions may leave here -/
def TakesM : Md → Cx → WX → Prop
  | .o, X, W => L2.Takes X W
  | .n, X, W => L2N.Takes X W
theorem passM {m : Md} (tk : TakesM m X W) (σ : St) : PassesAt (CXm m X.prog X.w) X σ (WE W σ) := by
  cases m
  · exact L2.passAt tk σ
  · exact L2N.passAt tk σ
theorem takes0M {m : Md} : TakesM m X (fun _ _ _ _ => False) := by
  cases m
  · exact fun _ _ ⟨_, _, _, _, _, _, _, _, _, _, _, _, _, _, _, _, z⟩ => z.elim
  · exact fun _ _ ⟨_, _, _, _, _, _, _, _, _, _, _, _, _, _, _, _, z⟩ => z.elim
theorem se_call {m : Md} {k n : Nat} {fa : Addr} {fd : FuncData} {ps : List Str} {fn : Fn} {x : Str} {p : Pos} {e : Expr} {es : List Expr} {g : SemL} (Fk : FnOk X.prog X.w X.K X.mg X.base (CXm m X.prog X.w) k fa fd ps (spD X.w X.K c fn n)) (ok : okF fn)
    (hr : Room k X.A) (hg : Gl X x) (hm : X.mg x = some (.ref fa)) (hk : PySem.W.keepIn X.K (.ref fa) = true) (hb : Binds X.K fd ps []) (tk : TakesM m X W) (ha : SA X c W (e :: es) g) (hn : (e :: es).length = n) (hdb : (x == ("__debug__" : Str)) = false)
    (he : starEach (e :: es) X.env = (false, eval e X.env) :: starEach es X.env) (hpl : (backTo pos (starEach es X.env)).any (·.1) = false) : SE X c W (.Call (.Name x p) (e :: es) [] pos) (eCall fn g) :=
  ⟨PE.imp (pe_callS Fk hr hg hm hk hb (fun σ => passM tk σ) ha.pa hdb he hpl) fun σ H Q h => tl_call (n := n) ok (fun ρ rs ρ' h => (ha.len ρ rs ρ' h).trans hn) h, okE_call ha.ok⟩
end
end WS
/-! Wf: tests, plain statements, a def's body. -/
namespace WS
open PySem L2

section
variable {X : Cx} {c : XC} {W : WX} {pos : Pos}
/-! ### tests -/
def outB (ρ : Env) : Option Bool → Out Bool
  | some b => .ok b ρ
  | none => .bad
def isB : D → Option Bool
  | .bl b => some b
  | _ => none
def truD : D → Option Bool
  | .non => some false
  | .bl b => some b
  | .int i => some (i != 0)
  | .str s => some (!s.isEmpty)
  | .lst ds => some (!ds.isEmpty)
  | .tup ds => some (!ds.isEmpty)
  | _ => none
/-- an expression whose value is a truth -/
def tBl (f : SemE) : SemT := fun ρ => (f ρ).bind fun r ρ1 => outB ρ1 (isB (val ρ1 r))
def tTru (f : SemE) : SemT := fun ρ => (f ρ).bind fun r ρ1 => outB ρ1 (truD (val ρ1 r))
def tNt (f : SemT) : SemT := fun ρ => (f ρ).bind fun b ρ1 => .ok (!b) ρ1
def tAn (f g : SemT) : SemT := fun ρ => (f ρ).bind fun b ρ1 => if b = true then g ρ1 else .ok false ρ1
def tOr' (f g : SemT) : SemT := fun ρ => (f ρ).bind fun b ρ1 => if b = true then .ok true ρ1 else g ρ1
theorem okE_outB (o : Option Bool) : okE fun ρ => outB ρ o := fun ρ => by
  cases o with
  | none => trivial
  | some b => exact LkE.refl ρ
theorem okE_bl {f : SemE} (h : okE f) : okE (tBl f) := okE_bind h fun r ρ => okE_outB (isB (val ρ r)) ρ
theorem okE_tru {f : SemE} (h : okE f) : okE (tTru f) := okE_bind h fun r ρ => okE_outB (truD (val ρ r)) ρ
theorem okE_nt {f : SemT} (h : okE f) : okE (tNt f) := okE_bind h fun b => okE_ok (!b)
theorem okE_an {f g : SemT} (h : okE f) (h2 : okE g) : okE (tAn f g) := okE_bind h fun b ρ => by
  cases b with
  | true => exact h2 ρ
  | false => exact LkE.refl ρ
theorem okE_or {f g : SemT} (h : okE f) (h2 : okE g) : okE (tOr' f g) := okE_bind h fun b ρ => by
  cases b with
  | true => exact LkE.refl ρ
  | false => exact h2 ρ
/-- an expression, then a test's want -/
theorem tb_bind {f : SemE} {k : R → Env → Out Bool} {σ : St} {F H : Hp} {ρ : Env} {Q : Bool → Hp → Prop} {Z : V → Hp → Prop} (of : okE f) (S : StR X.w X.K F H σ ρ) (h : PostT X.w X.K c W σ F H ρ ((f ρ).bind k) Q)
    (z : ∀ v r ρ1 F1 H1, LkE ρ ρ1 → StR X.w X.K F1 H1 σ ρ1 → ER X.w X.K F1 H1 σ ρ1 v r → PostT X.w X.K c W σ F1 H1 ρ1 (k r ρ1) Q → Z v H1) : TD X.w X.K c W f σ H Z := by
  refine ⟨F, ρ, S, ?_⟩
  have l := of ρ
  cases e : f ρ with
  | bad => rw [e] at h; exact h
  | exn x ρ1 => rw [e] at h; exact h
  | ok r ρ1 =>
    rw [e] at h l
    exact fun v F1 H1 S1 e1 f1 => z v r ρ1 F1 H1 l S1 e1 (PostT.step (out := k r ρ1) f1 ownR_slots h)
/-- a test, then a want -/
theorem tt_bind {f : SemT} {k : Bool → Env → Out Bool} {σ : St} {F H : Hp} {ρ : Env} {Q : Bool → Hp → Prop} {Z : Bool → Hp → Prop} (S : StR X.w X.K F H σ ρ) (h : PostT X.w X.K c W σ F H ρ ((f ρ).bind k) Q)
    (z : ∀ b ρ1 F1 H1, StR X.w X.K F1 H1 σ ρ1 → PostT X.w X.K c W σ F1 H1 ρ1 (k b ρ1) Q → Z b H1) : TT' X.w X.K c W f σ H Z := by
  refine ⟨F, ρ, S, ?_⟩
  cases e : f ρ with
  | bad => rw [e] at h; exact h
  | exn x ρ1 => rw [e] at h; exact h
  | ok r ρ1 =>
    rw [e] at h
    exact fun F1 H1 S1 f1 => z r ρ1 F1 H1 S1 (PostT.step (out := k r ρ1) f1 (fun _ z => z) h)
theorem te_bind {f : SemT} {k : Bool → Env → Out R} {σ : St} {F H : Hp} {ρ : Env} {Q : VK} {Z : Bool → Hp → Prop} (S : StR X.w X.K F H σ ρ) (h : Post X.w X.K c W σ F H ρ ((f ρ).bind k) Q)
    (z : ∀ b ρ1 F1 H1, StR X.w X.K F1 H1 σ ρ1 → Post X.w X.K c W σ F1 H1 ρ1 (k b ρ1) Q → Z b H1) : TT' X.w X.K c W f σ H Z := by
  refine ⟨F, ρ, S, ?_⟩
  cases e : f ρ with
  | bad => rw [e] at h; exact h
  | exn x ρ1 => rw [e] at h; exact h
  | ok r ρ1 =>
    rw [e] at h
    exact fun F1 H1 S1 f1 => z r ρ1 F1 H1 S1 (Post.step (out := k r ρ1) f1 (fun _ z => z) h)
theorem pt_ok {σ : St} {F H : Hp} {ρ : Env} {b : Bool} {Q : Bool → Hp → Prop} (S : StR X.w X.K F H σ ρ) (h : PostT X.w X.K c W σ F H ρ (.ok b ρ) Q) : Q b H := h F H S Fr.refl
theorem outB_ok {σ : St} {F H : Hp} {ρ : Env} {o : Option Bool} {Q : Bool → Hp → Prop} (S : StR X.w X.K F H σ ρ) (h : PostT X.w X.K c W σ F H ρ (outB ρ o) Q) : ∃ b, o = some b ∧ Q b H := by
  cases o with
  | none => exact False.elim h
  | some b => exact ⟨b, rfl, h F H S Fr.refl⟩
theorem isB_some {d : D} {b : Bool} (h : isB d = some b) : d = .bl b := by cases d <;> simp_all [isB]
/-- a value that is a truth, as a test -/
theorem td_bl {f : SemE} (of : okE f) {σ : St} {H : Hp} {Q : Bool → Hp → Prop} (h : TT' X.w X.K c W (tBl f) σ H Q) : TD X.w X.K c W f σ H fun x H1 => ∃ k, x = .bl k ∧ Q k H1 := by
  obtain ⟨F, ρ, S, h⟩ := h
  refine tb_bind of S h fun v r ρ1 F1 H1 l S1 e1 h1 => ?_
  obtain ⟨b, hb, q⟩ := outB_ok S1 h1
  have t := e1.top S1
  rw [isB_some hb] at t
  exact ⟨b, t.bl, q⟩
theorem st_bl {e : Expr} {f : SemE} (h : SE X c W e f) (he : ∀ whole, isTrue e X.env whole = (do let v ← whole; standAt e.pos; holding [v] (truthy v))) : ST X c W e (tBl f) :=
  ⟨PT.imp (pt_val h.pe he) fun σ H Q q => td_bl h.ok q, okE_bl h.ok⟩
theorem st_tru {e : Expr} {f : SemE} (h : SE X c W e f) (he : ∀ whole, isTrue e X.env whole = (do let v ← whole; standAt e.pos; holding [v] (truthy v))) : ST X c W e (tTru f) := by
  refine ⟨PT.imp (pt_truth h.pe he) fun σ H Q ⟨F, ρ, S, q⟩ => ?_, okE_tru h.ok⟩
  refine tb_bind h.ok S q fun v r ρ1 F1 H1 l S1 e1 h1 => ?_
  obtain ⟨b, hb, q⟩ := outB_ok S1 h1
  refine ⟨b, ?_, q⟩
  have t := e1.top S1
  generalize val ρ1 r = d at hb t
  cases d with
  | non => cases hb; rw [t.non]; exact (rfl : false = false)
  | bl b => cases hb; rw [t.bl]; exact (rfl : b = b)
  | int i => cases hb; rw [t.int]; exact (rfl : (i != 0) = (i != 0))
  | str s =>
    cases hb
    obtain ⟨rfl, o, l⟩ := t.str
    refine ⟨by rw [mkS_length]; exact l, ?_⟩
    rw [mkS_length]
    cases s with
    | nil => rfl
    | cons x xs => simp; omega
  | lst ds =>
    cases hb
    obtain ⟨a, vs, rfl, h1, r1⟩ := t.lst S1.sub
    exact .inl ⟨vs, .of h1, by cases r1 <;> rfl⟩
  | tup ds =>
    cases hb
    obtain ⟨a, vs, rfl, h1, r1⟩ := t.tup S1.sub
    exact .inr (.inl ⟨vs, h1, by cases r1 <;> rfl⟩)
  | _ => cases hb
theorem st_cmp {a b : Expr} {op : CmpOp} {fa fb : SemE} {g : D → D → Option PR} (ho : OpG X (compareOp op) g) (ha : SE X c W a fa) (hb : SE X c W b fb) (hm : behindInMarks op b = false) : ST X c W (.Compare a [op] [b] pos) (tBl (eOp g fa fb)) := by
  obtain ⟨r, h1, h2⟩ := ho
  refine ⟨PT.imp (pt_cmpR h1 ha.pe hb.pe hm) fun σ H Q h => ?_, okE_bl (okE_op ha.ok hb.ok)⟩
  exact td_two ha.ok hb.ok h2 (td_bl (okE_op ha.ok hb.ok) h)
theorem st_not {a : Expr} {f : SemT} (h : ST X c W a f) : ST X c W (.UnaryOp .Not a pos) (tNt f) := by
  refine ⟨PT.imp (pt_not h.pt) fun σ H Q ⟨F, ρ, S, q⟩ => ?_, okE_nt h.ok⟩
  exact tt_bind S q fun b ρ1 F1 H1 S1 h1 => pt_ok S1 h1
/-- and, or: from the left -/
structure SW (X : Cx) (c : XC) (W : WX) (e : Expr) (f : SemT) : Prop where
  pw : PW X e (TT' X.w X.K c W f)
  ok : okE f
theorem PW.imp {X : Cx} {e : Expr} {t t' : TT} (h : PW X e t) (i : ∀ σ H Q, t' σ H Q → t σ H Q) : PW X e t' := ⟨fun wh pins s σ H Q I q => h.run wh pins s σ H Q I (i _ _ _ q)⟩
theorem SW.st {e : Expr} {f : SemT} (h : SW X c W e f) : ST X c W e f := ⟨h.pw.pt, h.ok⟩
theorem sw_and1 {a : Expr} {f : SemT} (h : ST X c W a f) : SW X c W (.BoolOp .And [a] pos) f := ⟨pw_and1 h.pt, h.ok⟩
theorem sw_or1 {a : Expr} {f : SemT} (h : ST X c W a f) : SW X c W (.BoolOp .Or [a] pos) f := ⟨pw_or1 h.pt, h.ok⟩
theorem sw_and {a b : Expr} {rest : List Expr} {f g : SemT} (h : ST X c W a f) (h2 : SW X c W (.BoolOp .And (b :: rest) pos) g) : SW X c W (.BoolOp .And (a :: b :: rest) pos) (tAn f g) := by
  refine ⟨PW.imp (pw_and h.pt h2.pw) fun σ H Q ⟨F, ρ, S, q⟩ => ?_, okE_an h.ok h2.ok⟩
  refine tt_bind S q fun b ρ1 F1 H1 S1 h1 => ?_
  cases b with
  | true => exact ⟨F1, ρ1, S1, h1⟩
  | false => exact pt_ok S1 h1
theorem sw_or {a b : Expr} {rest : List Expr} {f g : SemT} (h : ST X c W a f) (h2 : SW X c W (.BoolOp .Or (b :: rest) pos) g) : SW X c W (.BoolOp .Or (a :: b :: rest) pos) (tOr' f g) := by
  refine ⟨PW.imp (pw_or h.pt h2.pw) fun σ H Q ⟨F, ρ, S, q⟩ => ?_, okE_or h.ok h2.ok⟩
  refine tt_bind S q fun b ρ1 F1 H1 S1 h1 => ?_
  cases b with
  | true => exact pt_ok S1 h1
  | false => exact ⟨F1, ρ1, S1, h1⟩

/-! ### and, or, not, if of truths as values -/
def eAn (f g : SemE) : SemE := fun ρ => (tBl f ρ).bind fun b ρ1 => if b = true then g ρ1 else .ok (.fro (.bl false)) ρ1
def eOr (f g : SemE) : SemE := fun ρ => (tBl f ρ).bind fun b ρ1 => if b = true then .ok (.fro (.bl true)) ρ1 else g ρ1
def eNt (f : SemE) : SemE := fun ρ => (tBl f ρ).bind fun b ρ1 => .ok (.fro (.bl (!b))) ρ1
def eIf (t : SemT) (f g : SemE) : SemE := fun ρ => (t ρ).bind fun b ρ1 => if b = true then f ρ1 else g ρ1
theorem okE_eAn {f g : SemE} (h : okE f) (h2 : okE g) : okE (eAn f g) := okE_bind (okE_bl h) fun b ρ => by
  cases b with
  | true => exact h2 ρ
  | false => exact LkE.refl ρ
theorem okE_eOr {f g : SemE} (h : okE f) (h2 : okE g) : okE (eOr f g) := okE_bind (okE_bl h) fun b ρ => by
  cases b with
  | true => exact LkE.refl ρ
  | false => exact h2 ρ
theorem okE_eNt {f : SemE} (h : okE f) : okE (eNt f) := okE_bind (okE_bl h) fun b => okE_ok _
theorem okE_eIf {t : SemT} {f g : SemE} (h : okE t) (h1 : okE f) (h2 : okE g) : okE (eIf t f g) := okE_bind h fun b ρ => by
  cases b with
  | true => exact h1 ρ
  | false => exact h2 ρ
theorem td_tru {f : SemE} {k : Bool → Env → Out R} {σ : St} {F H : Hp} {ρ : Env} {Q : VK} {Z : Bool → Hp → Prop} (of : okE f) (S : StR X.w X.K F H σ ρ) (h : Post X.w X.K c W σ F H ρ ((tBl f ρ).bind k) Q)
    (z : ∀ b ρ1 F1 H1, StR X.w X.K F1 H1 σ ρ1 → Post X.w X.K c W σ F1 H1 ρ1 (k b ρ1) Q → Z b H1) : TD X.w X.K c W f σ H fun x H1 => ∃ b, x = .bl b ∧ Z b H1 :=
  td_bl of (te_bind S h z)
theorem se_and1 {op} {a : Expr} {f : SemE} (h : SE X c W a f) : SE X c W (.BoolOp op [a] pos) f := ⟨pe_one h.pe, h.ok⟩
theorem fro_q {σ : St} {F H : Hp} {ρ : Env} {d : D} {v : V} {Q : VK} (S : StR X.w X.K F H σ ρ) (h : Post X.w X.K c W σ F H ρ (.ok (.fro d) ρ) Q) (r : Rep X.w X.K F v d) : Q v H := h v F H S r (Fr.refl.imp ownR_fro)
theorem se_and {a b : Expr} {rest : List Expr} {f g : SemE} (h : SE X c W a f) (h2 : SE X c W (.BoolOp .And (b :: rest) pos) g) : SE X c W (.BoolOp .And (a :: b :: rest) pos) (eAn f g) := by
  refine ⟨PE.imp (pe_and h.pe h2.pe) fun σ H Q ⟨F, ρ, S, q⟩ => ?_, okE_eAn h.ok h2.ok⟩
  refine td_tru (Z := fun b H1 => if b = true then TD X.w X.K c W g σ H1 Q else Q (.bl false) H1) h.ok S q fun b ρ1 F1 H1 S1 h1 => ?_
  cases b with
  | true => exact ⟨F1, ρ1, S1, h1⟩
  | false => exact fro_q S1 h1 (.bl false)
theorem se_or {a b : Expr} {rest : List Expr} {f g : SemE} (h : SE X c W a f) (h2 : SE X c W (.BoolOp .Or (b :: rest) pos) g) : SE X c W (.BoolOp .Or (a :: b :: rest) pos) (eOr f g) := by
  refine ⟨PE.imp (pe_or h.pe h2.pe) fun σ H Q ⟨F, ρ, S, q⟩ => ?_, okE_eOr h.ok h2.ok⟩
  refine td_tru (Z := fun b H1 => if b = true then Q (.bl true) H1 else TD X.w X.K c W g σ H1 Q) h.ok S q fun b ρ1 F1 H1 S1 h1 => ?_
  cases b with
  | true => exact fro_q S1 h1 (.bl true)
  | false => exact ⟨F1, ρ1, S1, h1⟩
theorem se_not {a : Expr} {f : SemE} (h : SE X c W a f) : SE X c W (.UnaryOp .Not a pos) (eNt f) := by
  refine ⟨PE.imp (pe_not h.pe) fun σ H Q ⟨F, ρ, S, q⟩ => ?_, okE_eNt h.ok⟩
  exact td_tru (Z := fun b H1 => Q (.bl (!b)) H1) h.ok S q fun b ρ1 F1 H1 S1 h1 => fro_q S1 h1 (.bl _)
theorem se_ife {t a b : Expr} {ft : SemT} {f g : SemE} (h : ST X c W t ft) (h1 : SE X c W a f) (h2 : SE X c W b g) : SE X c W (.IfExp t a b pos) (eIf ft f g) := by
  refine ⟨PE.imp (pe_ifExp h.pt h1.pe h2.pe) fun σ H Q ⟨F, ρ, S, q⟩ => ?_, okE_eIf h.ok h1.ok h2.ok⟩
  refine te_bind S q fun b ρ1 F1 H1 S1 h1 => ?_
  cases b with
  | true => exact ⟨F1, ρ1, S1, h1⟩
  | false => exact ⟨F1, ρ1, S1, h1⟩

/-! ### statements -/
def sRet (f : SemE) : SemS := fun ρ => (f ρ).sbind fun r ρ1 => .rt r ρ1
def sExp (f : SemE) : SemS := fun ρ => (f ρ).sbind fun _ ρ1 => .nx ρ1
def sNil : SemS := fun ρ => .nx ρ
def sIf (t : SemT) (f g : SemS) : SemS := fun ρ => (t ρ).sbind fun b ρ1 => if b = true then f ρ1 else g ρ1
def SOut.then (o : SOut) (g : SemS) : SOut :=
  match o with
  | .nx ρ => g ρ
  | o => o
def sSeq (f g : SemS) : SemS := fun ρ => (f ρ).then g
/-- a name is stored -/
def putR (i : Nat) (r : R) (ρ : Env) : SOut :=
  if (ρ.getD i .un).lent = true then .bad else
  match r with
  | .tmp d => .nx (ρ.set i (.ow d))
  | r => (frz ρ r).sbind fun d ρ1 => .nx (ρ1.set i (.fz d))
def sSet (i : Nat) (f : SemE) : SemS := fun ρ => (f ρ).sbind (putR i)
theorem okT_sbind {α : Type} {f : Env → Out α} {k : α → Env → SOut} (hf : okE f) (hk : ∀ a, okT (k a)) : okT fun ρ => (f ρ).sbind k := fun ρ => by
  have h := hf ρ
  show LkS ρ ((f ρ).sbind k)
  cases e : f ρ with
  | bad => trivial
  | exn x ρ1 => rw [e] at h; exact Lk.slT h
  | ok a ρ1 => rw [e] at h; exact LkS.trans (Lk.slT h) (hk a ρ1)
theorem okT_nx : okT fun ρ => .nx ρ := fun ρ => LkT.refl ρ
theorem okT_rt (r : R) : okT fun ρ => .rt r ρ := fun ρ => LkT.refl ρ
theorem okT_if {t : SemT} {f g : SemS} (h : okE t) (h1 : okT f) (h2 : okT g) : okT (sIf t f g) := okT_sbind h fun b ρ => by
  cases b with
  | true => exact h1 ρ
  | false => exact h2 ρ
theorem okT_seq {f g : SemS} (h : okT f) (h2 : okT g) : okT (sSeq f g) := fun ρ => by
  have a := h ρ
  show LkS ρ ((f ρ).then g)
  cases e : f ρ <;> rw [e] at a <;> first | exact a | exact LkS.trans a (h2 _)
theorem ts_bind {f : SemE} {k : R → Env → SOut} {σ : St} {F H : Hp} {ρ : Env} {D : Ends} {Z : V → Hp → Prop} (of : okE f) (S : StR X.w X.K F H σ ρ) (h : PostS X.w X.K c W σ F H ρ ((f ρ).sbind k) D)
    (z : ∀ v r ρ1 F1 H1, StR X.w X.K F1 H1 σ ρ1 → ER X.w X.K F1 H1 σ ρ1 v r → Fr F H (ownS σ ρ) F1 H1 (ownR σ ρ1 v r) → LkE ρ ρ1 → PostS X.w X.K c W σ F H ρ (k r ρ1) D → Z v H1) : TD X.w X.K c W f σ H Z := by
  refine ⟨F, ρ, S, ?_⟩
  have l := of ρ
  cases e : f ρ with
  | bad => rw [e] at h; exact h
  | exn x ρ1 =>
    rw [e] at h
    exact fun cls d F' H' s x f => h cls d σ F' H' s (fun _ _ _ _ => rfl) x f
  | ok r ρ1 =>
    rw [e] at h l
    exact fun v F1 H1 S1 e1 f1 => z v r ρ1 F1 H1 S1 e1 f1 l h
theorem tst_bind {f : SemT} {k : Bool → Env → SOut} {σ : St} {F H : Hp} {ρ : Env} {D : Ends} {Z : Bool → Hp → Prop} (of : okE f) (S : StR X.w X.K F H σ ρ) (h : PostS X.w X.K c W σ F H ρ ((f ρ).sbind k) D)
    (z : ∀ b ρ1 F1 H1, StR X.w X.K F1 H1 σ ρ1 → PostS X.w X.K c W σ F1 H1 ρ1 (k b ρ1) D → Z b H1) : TT' X.w X.K c W f σ H Z := by
  refine ⟨F, ρ, S, ?_⟩
  have l := of ρ
  cases e : f ρ with
  | bad => rw [e] at h; exact h
  | exn x ρ1 =>
    rw [e] at h
    exact fun cls d F' H' s x f => h cls d σ F' H' s (fun _ _ _ _ => rfl) x f
  | ok r ρ1 =>
    rw [e] at h l
    exact fun F1 H1 S1 f1 => z r ρ1 F1 H1 S1 (PostS.step (out := k r ρ1) f1 (fun _ z => z) (fun _ _ _ _ => rfl) (Lk.slT l) h)
theorem ss_ret {e : Expr} {f : SemE} (h : SE X c W e f) : SS X c W (.Return (some e) pos) (sRet f) := by
  refine ⟨PS.imp (ps_ret h.pe) fun D σ H ⟨F, ρ, S, q⟩ => ?_, okT_sbind h.ok okT_rt⟩
  exact ts_bind h.ok S q fun v r ρ1 F1 H1 S1 e1 f1 l h1 => h1 v σ F1 H1 S1 (fun _ _ _ _ => rfl) e1 f1
def sRetN : SemS := fun ρ => .rt (.fro .non) ρ
theorem ss_retN : SS X c W (.Return none pos) sRetN := by
  refine ⟨PS.imp ps_retN fun D σ H ⟨F, ρ, S, q⟩ => ?_, okT_rt _⟩
  exact q .non σ F H S (fun _ _ _ _ => rfl) .non (Fr.refl.imp ownR_fro)
theorem ss_exp {e : Expr} {f : SemE} (h : SE X c W e f) (hs : swapsWith e none pos.line X.env = pure false) : SS X c W (.Expr e pos) (sExp f) := by
  refine ⟨PS.imp (ps_expr h.pe hs) fun D σ H ⟨F, ρ, S, q⟩ => ?_, okT_sbind h.ok fun _ => okT_nx⟩
  exact ts_bind h.ok S q fun v r ρ1 F1 H1 S1 e1 f1 l h1 => h1 σ F1 H1 S1 (fun _ _ _ _ => rfl) (f1.imp ownR_slots)
theorem ss_pass : SS X c W (.Pass pos) sNil := ⟨PS.imp ps_pass fun D σ H ⟨F, ρ, S, q⟩ => q σ F H S (fun _ _ _ _ => rfl) Fr.refl, okT_nx⟩
def sBrk : SemS := fun ρ => .bk ρ
def sCnt : SemS := fun ρ => .ct ρ
theorem ss_break : SS X c W (.Break pos) sBrk := ⟨PS.imp ps_break fun D σ H ⟨F, ρ, S, q⟩ => q σ F H S (fun _ _ _ _ => rfl) Fr.refl, fun ρ => LkT.refl ρ⟩
theorem ss_cont : SS X c W (.Continue pos) sCnt := ⟨PS.imp ps_continue fun D σ H ⟨F, ρ, S, q⟩ => q σ F H S (fun _ _ _ _ => rfl) Fr.refl, fun ρ => LkT.refl ρ⟩
theorem ss_if {t : Expr} {a b : List Stmt} {ft : SemT} {f g : SemS} (h : ST X c W t ft) (h1 : SSs X c W a f) (h2 : SSs X c W b g) : SS X c W (.If t a b pos) (sIf ft f g) := by
  refine ⟨PS.imp (ps_if h.pt h1.ps h2.ps) fun D σ H ⟨F, ρ, S, q⟩ => ?_, okT_if h.ok h1.ok h2.ok⟩
  refine tst_bind h.ok S q fun b ρ1 F1 H1 S1 h1 => ?_
  cases b with
  | true => exact ⟨F1, ρ1, S1, h1⟩
  | false => exact ⟨F1, ρ1, S1, h1⟩
theorem sss_nil : SSs X c W [] sNil := ⟨PSs.imp pss_nil fun D σ H ⟨F, ρ, S, q⟩ => q σ F H S (fun _ _ _ _ => rfl) Fr.refl, okT_nx⟩
theorem sss_one {s : Stmt} {f : SemS} (h : SS X c W s f) : SSs X c W [s] f := ⟨pss_one h.ps, h.ok⟩
theorem sss_cons {s : Stmt} {ss : List Stmt} {f g : SemS} (h : SS X c W s f) (h2 : SSs X c W ss g) : SSs X c W (s :: ss) (sSeq f g) := by
  refine ⟨PSs.imp (pss_cons h.ps h2.ps) fun D σ H ⟨F, ρ, S, q⟩ => ?_, okT_seq h.ok h2.ok⟩
  refine ⟨F, ρ, S, ?_⟩
  have l := h.ok ρ
  unfold sSeq at q
  cases e : f ρ <;> rw [e] at q l <;> first | exact q | skip
  rename_i ρ1
  exact fun σ' F' H' S' ls fr => ⟨F', ρ1, S', PostS.step (out := g ρ1) fr (fun _ z => z) ls l q⟩
theorem StR.set {w : World} {K : PySem.W.Frag} {F H : Hp} {σ : St} {ρ : Env} {i : Nat} {v : V} {sl : Sl} (S : StR w K F H σ ρ) (r : slR w K F H v sl) (no : sl.own = true → ∀ a, v = .ref a → ¬ ownS σ ρ a) :
    StR w K F H (σ.set i (some v)) (ρ.set i sl) := by
  have key : ∀ (j : Nat) s, (ρ.set i sl)[j]? = some s → (j = i ∧ s = sl ∧ (σ.set i (some v))[j]? = some (some v)) ∨ (j ≠ i ∧ ρ[j]? = some s ∧ (σ.set i (some v))[j]? = σ[j]?) := fun j s e => by
    by_cases hj : i = j
    · subst hj
      have hl : i < ρ.length := by
        have := (List.getElem?_eq_some_iff.mp e).1
        simpa using this
      rw [List.getElem?_set_self hl] at e
      refine .inl ⟨rfl, (Option.some.inj e).symm, ?_⟩
      rw [List.getElem?_set_self (by rw [S.len]; exact hl)]
    · rw [List.getElem?_set_ne hj] at e
      exact .inr ⟨Ne.symm hj, e, List.getElem?_set_ne hj⟩
  refine ⟨S.sub, by simpa using S.len, fun j s e t => ?_, fun j k sj sk a ej ek tj tk vj vk => ?_⟩
  · rcases key j s e with ⟨rfl, rfl, e2⟩ | ⟨_, e1, e2⟩
    · exact ⟨v, e2, r⟩
    · rw [e2]; exact S.slot j s e1 t
  · rcases key j sj ej with ⟨hj, rfl, e2⟩ | ⟨hj, e1, e2⟩
    · rcases key k sk ek with ⟨hk, _, _⟩ | ⟨hk, e1', e2'⟩
      · rw [hj, hk]
      · rw [e2] at vj
        rw [e2'] at vk
        have := Option.some.inj (Option.some.inj vj)
        exact absurd ⟨k, sk, e1', tk, vk⟩ (no tj a this)
    · rcases key k sk ek with ⟨hk, rfl, e2'⟩ | ⟨hk, e1', e2'⟩
      · rw [e2] at vj
        rw [e2'] at vk
        have := Option.some.inj (Option.some.inj vk)
        exact absurd ⟨j, sj, e1, tj, vj⟩ (no tk a this)
      · rw [e2] at vj
        rw [e2'] at vk
        exact S.inj j k sj sk a e1 e1' tj tk vj vk
theorem ownS_put {σ : St} {ρ : Env} {i : Nat} {v : V} {sl : Sl} {b : Addr} (hl : σ.length = ρ.length) (h : ownS (σ.set i (some v)) (ρ.set i sl) b) : ownS σ ρ b ∨ (sl.own = true ∧ v = .ref b) := by
  obtain ⟨j, s, e, t, q⟩ := h
  by_cases hj : i = j
  · subst hj
    have hi : i < ρ.length := by
      have := (List.getElem?_eq_some_iff.mp e).1
      simpa using this
    rw [List.getElem?_set_self hi] at e
    rw [List.getElem?_set_self (by rw [hl]; exact hi)] at q
    cases e
    exact .inr ⟨t, Option.some.inj (Option.some.inj q)⟩
  · rw [List.getElem?_set_ne hj] at e q
    exact .inl ⟨j, s, e, t, q⟩
theorem LS_set {σ : St} {ρ : Env} {i : Nat} {v : V} (h : (ρ.getD i .un).lent = false) : LS σ (σ.set i (some v)) ρ := fun j sl e t => by
  by_cases hj : i = j
  · subst hj
    rw [getD_of e, t] at h; cases h
  · exact List.getElem?_set_ne hj
theorem slT_free {a b : Sl} (ha : a.lent = false) (hb : b.lent = false) : slT a b := by
  cases a <;> cases b <;> first | trivial | cases ha | cases hb
theorem okT_put (i : Nat) (r : R) : okT (putR i r) := fun ρ => by
  unfold putR
  by_cases hl : (ρ.getD i .un).lent = true
  · rw [if_pos hl]; trivial
  rw [if_neg hl]
  have hl : (ρ.getD i .un).lent = false := by simpa using hl
  have st : ∀ (ρ1 : Env) (sl : Sl), LkE ρ ρ1 → sl.lent = false → LkT ρ (ρ1.set i sl) := fun ρ1 sl l h => by
    refine LkT.trans (Lk.slT l) ?_
    by_cases hi : i < ρ1.length
    · have e := List.getElem?_eq_getElem hi
      refine Lk.set slT.refl e (slT_free ?_ h)
      have hi0 : i < ρ.length := by rw [← l.1]; exact hi
      have e0 := List.getElem?_eq_getElem hi0
      rw [(l.2 i _ _ e0 e).lent]
      rw [getD_of e0] at hl
      exact hl
    · rw [List.set_eq_of_length_le (by omega)]
      exact LkT.refl ρ1
  cases r with
  | tmp d => exact st ρ _ (LkE.refl ρ) rfl
  | fro d => exact st ρ _ (LkE.refl ρ) rfl
  | «at» j =>
    have h := okE_frz (.at j) ρ
    show LkS ρ ((frz ρ (.at j)).sbind fun d ρ1 => .nx (ρ1.set i (.fz d)))
    dsimp only at h
    cases e : frz ρ (.at j) with
    | ok d ρ1 => rw [e] at h; exact st _ _ h rfl
    | exn x ρ1 => rw [e] at h; exact Lk.slT h
    | bad => trivial
/-- behind the value: the store's end -/
theorem put_ok {σ : St} {F H F1 H1 : Hp} {ρ ρ1 : Env} {D : Ends} {i : Nat} {v : V} {r : R} (S1 : StR X.w X.K F1 H1 σ ρ1) (e1 : ER X.w X.K F1 H1 σ ρ1 v r) (f1 : Fr F H (ownS σ ρ) F1 H1 (ownR σ ρ1 v r)) (l : LkE ρ ρ1)
    (h : PostS X.w X.K c W σ F H ρ (putR i r ρ1) D) : D.nx (σ.set i (some v)) H1 := by
  unfold putR at h
  by_cases hl : (ρ1.getD i .un).lent = true
  · rw [if_pos hl] at h; exact False.elim h
  rw [if_neg hl] at h
  have hl0 : (ρ.getD i .un).lent = false := by
    cases e0 : ρ[i]? with
    | none => rw [List.getD_eq_getElem?_getD, e0]; rfl
    | some s0 =>
      obtain ⟨s1, e1, q⟩ := l.get e0
      rw [getD_of e0, ← q.lent]
      rw [getD_of e1] at hl
      simpa using hl
  have fz : ∀ (d : WS.D) (ρ2 : Env), frz ρ1 r = .ok d ρ2 → PostS X.w X.K c W σ F H ρ (.nx (ρ2.set i (.fz d))) D → D.nx (σ.set i (some v)) H1 := fun d ρ2 e h => by
    obtain ⟨F2, f2, q2⟩ := frz_one S1 e1 e
    refine h (σ.set i (some v)) F2 H1 (f2.st.set q2 fun z => nomatch z) (LS_set hl0) ⟨f1.keep, fun b z => ?_, fun b u z => ?_, f1.mono.trans f2.mono⟩
    · rcases ownS_put f2.st.len z with z | ⟨z, _⟩
      · exact f1.new b (.inl (f2.own b z))
      · cases z
    · rcases f2.frz b u z with z | ⟨z1, z2⟩
      · exact f1.frz b u z
      · refine .inr (f1.new b ?_)
        rcases z2 with z2 | ⟨d2, z2⟩
        · exact .inl z2
        · exact .inr ⟨d2, z2, z1⟩
  cases r with
  | tmp d =>
    obtain ⟨a, rfl, n, q, no⟩ := e1
    refine h (σ.set i (some (.ref a))) F1 H1 (S1.set ⟨a, rfl, n, q⟩ fun _ b z => by cases z; exact no) (LS_set hl0) ⟨f1.keep, fun b z => ?_, f1.frz, f1.mono⟩
    rcases ownS_put S1.len z with z | ⟨_, z⟩
    · exact f1.new b (.inl z)
    · cases z; exact f1.new a (.inr ⟨d, rfl, rfl⟩)
  | fro d => exact fz d ρ1 rfl h
  | «at» j =>
    have h : PostS X.w X.K c W σ F H ρ ((frz ρ1 (.at j)).sbind fun d ρ1 => .nx (ρ1.set i (.fz d))) D := h
    cases e : frz ρ1 (.at j) with
    | bad => rw [e] at h; exact False.elim h
    | exn x ρ2 =>
      exfalso
      unfold frz at e
      simp only at e
      split at e <;> cases e
    | ok d ρ2 => rw [e] at h; exact fz d ρ2 e h
theorem ss_set {i : Nat} {x : Str} {e : Expr} {f : SemE} {pos' : Pos} (hN : X.N.Nodup) (hi : X.N[i]? = some x) (hx : Loc X.env.scope x) (h : SE X c W e f) (hs : swapsWith e (some (.Name x pos')) pos.line X.env = pure false)
    (hf : X.fn x = true ∨ X.env.scope.names.lookup x = some .local) : SS X c W (.Assign [.Name x pos'] e pos) (sSet i f) := by
  refine ⟨PS.imp (ps_set hN hi hx h.pe hs hf) fun D σ H ⟨F, ρ, S, q⟩ => ?_, okT_sbind h.ok (okT_put i)⟩
  exact ts_bind h.ok S q fun v r ρ1 F1 H1 S1 e1 f1 l h1 => put_ok S1 e1 f1 l h1
end
end WS
/-! Wg: a def by its body; while. -/
namespace WS
open PySem L2
open PyProof.Rows (envOfC)

def fin (ρ : Env) : R → Option (R × Env)
  | .fro d => some (.fro d, ρ)
  | .tmp d => some (.tmp d, ρ)
  | .at i =>
    match ρ.getD i .un with
    | .ow d => some (.tmp d, ρ.set i .un)
    | .le d => some (.fro d, ρ.set i (.lf d))
    | .fz d => some (.fro d, ρ)
    | .lf d => some (.fro d, ρ)
    | _ => none
def out1 (p q : Sl) : Sl := if p.lent = true then q else .un
def outsOf (ps : List Sl) (ρ : Env) : List Sl := List.zipWith out1 ps ρ
def sound1 : Sl → Bool
  | .lf d => isC d
  | _ => true
def finO (ps : List Sl) (ρ : Env) (k : List Sl → FOut) : FOut := if (outsOf ps ρ).all sound1 = true then k (outsOf ps ρ) else .bad
def endO (ps : List Sl) : SOut → FOut
  | .rt r ρ => match fin ρ r with
    | some (r', ρ') => finO ps ρ' (.ok r')
    | none => .bad
  | .nx ρ => finO ps ρ (.ok (.fro .non))
  | .exn x ρ => finO ps ρ (.exn x)
  | _ => .bad
/-- a def of n names, by its body -/
def fnOf (n : Nat) (body : SemS) : Fn := fun ps => endO ps (body (ps ++ List.replicate (n - ps.length) .un))
theorem outs_get {ps : List Sl} {ρ : Env} {j : Nat} {o : Sl} (h : (outsOf ps ρ)[j]? = some o) : ∃ p q, ps[j]? = some p ∧ ρ[j]? = some q ∧ o = out1 p q := by
  unfold outsOf at h
  rw [List.getElem?_zipWith] at h
  cases e1 : ps[j]? with
  | none => rw [e1] at h; cases h
  | some p =>
    cases e2 : ρ[j]? with
    | none => rw [e1, e2] at h; cases h
    | some q => rw [e1, e2] at h; exact ⟨p, q, rfl, rfl, (Option.some.inj h).symm⟩
theorem outs_lk {ps : List Sl} {m : Nat} {ρ : Env} (l : LkT (ps ++ List.replicate m .un) ρ) (s : (outsOf ps ρ).all sound1 = true) : Lk slF ps (outsOf ps ρ) := by
  have hl : ρ.length = ps.length + m := by rw [l.1]; simp
  refine ⟨by unfold outsOf; rw [List.length_zipWith]; omega, fun j p o hp ho => ?_⟩
  obtain ⟨p', q, e1, e2, rfl⟩ := outs_get ho
  rw [hp] at e1; cases e1
  have hj : j < ps.length := (List.getElem?_eq_some_iff.mp hp).1
  have t := l.2 j p q (by rw [List.getElem?_append_left hj]; exact hp) e2
  have so := List.all_eq_true.mp s _ (List.mem_of_getElem? ho)
  unfold out1 at so ⊢
  cases p with
  | un => exact trivial
  | fz d => exact trivial
  | ow d => exact trivial
  | le d =>
    cases q with
    | le d => exact trivial
    | lf d => exact so
    | _ => exact False.elim t
  | lf d =>
    cases q with
    | lf d => exact t
    | _ => exact False.elim t
  | lk d =>
    cases q with
    | lk d => exact t
    | _ => exact False.elim t
theorem fin_lk {ρ ρ' : Env} {r r' : R} (h : fin ρ r = some (r', ρ')) : LkT ρ ρ' ∧ ∀ i, r' ≠ .at i := by
  cases r with
  | fro d => cases h; exact ⟨LkT.refl ρ, fun i z => nomatch z⟩
  | tmp d => cases h; exact ⟨LkT.refl ρ, fun i z => nomatch z⟩
  | «at» i =>
    unfold fin at h
    simp only at h
    cases e : ρ.getD i .un <;> rw [e] at h <;> cases h
    · exact ⟨LkT.refl ρ, fun i z => nomatch z⟩
    · exact ⟨Lk.set slT.refl (getD_some e (by simp)) trivial, fun i z => nomatch z⟩
    · exact ⟨Lk.set slT.refl (getD_some e (by simp)) trivial, fun i z => nomatch z⟩
    · exact ⟨LkT.refl ρ, fun i z => nomatch z⟩
theorem lk_finO {ps : List Sl} {ρ : Env} {k : List Sl → FOut} (h : (outsOf ps ρ).all sound1 = true → LkF ps (k (outsOf ps ρ))) : LkF ps (finO ps ρ k) := by
  unfold finO
  by_cases hs : (outsOf ps ρ).all sound1 = true
  · rw [if_pos hs]; exact h hs
  · rw [if_neg hs]; trivial
theorem okF_of {n : Nat} {body : SemS} (h : okT body) : okF (fnOf n body) := fun ps => by
  have a := h (ps ++ List.replicate (n - ps.length) .un)
  show LkF ps (endO ps (body (ps ++ List.replicate (n - ps.length) .un)))
  cases e : body (ps ++ List.replicate (n - ps.length) .un) with
  | bk ρ => trivial
  | ct ρ => trivial
  | bad => trivial
  | nx ρ => rw [e] at a; exact lk_finO fun hs => ⟨fun i z => (nomatch z), outs_lk a hs⟩
  | exn x ρ => rw [e] at a; exact lk_finO fun hs => outs_lk a hs
  | rt r ρ =>
    rw [e] at a
    show LkF ps (match fin ρ r with | some (r', ρ') => finO ps ρ' (.ok r') | none => .bad)
    cases ef : fin ρ r with
    | none => trivial
    | some p =>
      obtain ⟨r', ρ'⟩ := p
      obtain ⟨l, na⟩ := fin_lk ef
      exact lk_finO fun hs => ⟨na, outs_lk (LkT.trans a l) hs⟩
section
variable {w : World} {K : PySem.W.Frag} {F H : Hp}
theorem start_st {N : List Str} {vs : List V} {ps : List Sl} {n : Nat} (S : StR w K F H (vs.map some) ps) (hn : N.length = n) : StR w K F H (L2.start N vs) (ps ++ List.replicate (n - ps.length) .un) := by
  have hl : vs.length = ps.length := by have := S.len; simpa using this
  have get : ∀ (j : Nat) sl, (ps ++ List.replicate (n - ps.length) Sl.un)[j]? = some sl → sl ≠ .un → ps[j]? = some sl ∧ (L2.start N vs)[j]? = (vs.map some)[j]? := fun j sl e t => by
    by_cases hj : j < ps.length
    · rw [List.getElem?_append_left hj] at e
      refine ⟨e, ?_⟩
      unfold L2.start
      rw [List.getElem?_append_left (by simpa [hl] using hj)]
    · rw [List.getElem?_append_right (by omega), List.getElem?_replicate] at e
      split at e
      · cases e; exact absurd rfl t
      · cases e
  have nu : ∀ {sl : Sl}, sl.own = true → sl ≠ .un := fun {sl} h z => by subst z; cases h
  refine ⟨S.sub, ?_, fun j sl e t => ?_, fun j k sj sk a ej ek tj tk vj vk => ?_⟩
  · unfold L2.start
    simp
    omega
  · obtain ⟨a, b⟩ := get j sl e (by rintro rfl; cases t)
    rw [b]; exact S.slot j sl a t
  · obtain ⟨a1, b1⟩ := get j sj ej (nu tj)
    obtain ⟨a2, b2⟩ := get k sk ek (nu tk)
    rw [b1] at vj
    rw [b2] at vk
    exact S.inj j k sj sk a a1 a2 tj tk vj vk
theorem start_own {N : List Str} {vs : List V} {ps : List Sl} {n : Nat} (S : StR w K F H (vs.map some) ps) {b : Addr} (h : ownS (L2.start N vs) (ps ++ List.replicate (n - ps.length) .un) b) : ownS (vs.map some) ps b := by
  have hl : vs.length = ps.length := by have := S.len; simpa using this
  obtain ⟨j, sl, e, t, q⟩ := h
  by_cases hj : j < ps.length
  · rw [List.getElem?_append_left hj] at e
    refine ⟨j, sl, e, t, ?_⟩
    unfold L2.start at q
    rwa [List.getElem?_append_left (by simpa [hl] using hj)] at q
  · rw [List.getElem?_append_right (by omega), List.getElem?_replicate] at e
    split at e
    · cases e; cases t
    · cases e
theorem own_start {N : List Str} {vs : List V} {ps : List Sl} {n : Nat} {b : Addr} (h : ownS (vs.map some) ps b) : ownS (L2.start N vs) (ps ++ List.replicate (n - ps.length) .un) b := by
  obtain ⟨j, sl, e, t, q⟩ := h
  have hj : j < ps.length := (List.getElem?_eq_some_iff.mp e).1
  have hv : j < (vs.map some).length := (List.getElem?_eq_some_iff.mp q).1
  refine ⟨j, sl, by rw [List.getElem?_append_left hj]; exact e, t, ?_⟩
  unfold L2.start
  rw [List.getElem?_append_left hv]
  exact q
/-- at the end: the lent slots, as they go back -/
theorem outs_st {N : List Str} {vs : List V} {ps : List Sl} {n : Nat} {σ' : St} {ρ' : Env} (hv : vs.length = ps.length) (S' : StR w K F H σ' ρ') (ls : LS (L2.start N vs) σ' (ps ++ List.replicate (n - ps.length) .un)) (l : LkT (ps ++ List.replicate (n - ps.length) .un) ρ') :
    StR w K F H (vs.map some) (outsOf ps ρ') := by
  have hl : ρ'.length = ps.length + (n - ps.length) := by rw [l.1]; simp
  have get : ∀ (j : Nat) o, (outsOf ps ρ')[j]? = some o → o ≠ .un → ρ'[j]? = some o ∧ σ'[j]? = (vs.map some)[j]? := fun j o e t => by
    obtain ⟨p, q, e1, e2, rfl⟩ := outs_get e
    have hp : p.lent = true := Classical.byContradiction fun z => t (by unfold out1; rw [if_neg z])
    have ho : out1 p q = q := by unfold out1; rw [if_pos hp]
    rw [ho]
    have hj : j < ps.length := (List.getElem?_eq_some_iff.mp e1).1
    refine ⟨e2, ?_⟩
    rw [ls j p (by rw [List.getElem?_append_left hj]; exact e1) hp]
    unfold L2.start
    rw [List.getElem?_append_left (by simpa [hv] using hj)]
  have nu : ∀ {sl : Sl}, sl.own = true → sl ≠ .un := fun {sl} h z => by subst z; cases h
  refine ⟨S'.sub, by unfold outsOf; rw [List.length_zipWith, List.length_map]; omega, fun j o e t => ?_, fun j k sj sk a ej ek tj tk vj vk => ?_⟩
  · obtain ⟨a, b⟩ := get j o e (by rintro rfl; cases t)
    rw [← b]; exact S'.slot j o a t
  · obtain ⟨a1, b1⟩ := get j sj ej (nu tj)
    obtain ⟨a2, b2⟩ := get k sk ek (nu tk)
    rw [← b1] at vj
    rw [← b2] at vk
    exact S'.inj j k sj sk a a1 a2 tj tk vj vk
theorem outs_own {N : List Str} {vs : List V} {ps : List Sl} {n : Nat} {σ' : St} {ρ' : Env} {b : Addr} (hv : vs.length = ps.length) (ls : LS (L2.start N vs) σ' (ps ++ List.replicate (n - ps.length) .un)) (h : ownS (vs.map some) (outsOf ps ρ') b) :
    ∃ (j : Nat) (p q : Sl), ps[j]? = some p ∧ p.lent = true ∧ ρ'[j]? = some q ∧ q.own = true ∧ σ'[j]? = some (some (.ref b)) := by
  obtain ⟨j, o, e, t, q0⟩ := h
  obtain ⟨p, q, e1, e2, rfl⟩ := outs_get e
  have hp : p.lent = true := Classical.byContradiction fun z => by unfold out1 at t; rw [if_neg z] at t; cases t
  have ho : out1 p q = q := by unfold out1; rw [if_pos hp]
  rw [ho] at t
  have hj : j < ps.length := (List.getElem?_eq_some_iff.mp e1).1
  refine ⟨j, p, q, e1, hp, e2, t, ?_⟩
  rw [ls j p (by rw [List.getElem?_append_left hj]; exact e1) hp, ← q0]
  unfold L2.start
  rw [List.getElem?_append_left (by simpa [hv] using hj)]
end
section
variable {P : Program} {w : World} {K : PySem.W.Frag} {mg : Str → Option Value} {base : Heap} {c : XC}
theorem body_end {N : List Str} {vs : List V} {ps : List Sl} {n : Nat} {F H : Hp} {Q : VK} {E : XK} {out : SOut} (hv : vs.length = ps.length) (S : StR w K F H (vs.map some) ps) (l : LkS (ps ++ List.replicate (n - ps.length) .un) out)
    (h : PostF w K c vs F H ps (endO ps out) Q E) : PostS w K c (fun cls d _ H => E cls d H) (L2.start N vs) F H (ps ++ List.replicate (n - ps.length) .un) out { nx := fun _ H' => Q .non H', rt := Q } := by
  have fr : ∀ {σ' : St} {ρ' : Env} {F' H' : Hp} {o2 o3 : Addr → Prop}, Fr F H (ownS (L2.start N vs) (ps ++ List.replicate (n - ps.length) .un)) F' H' o2 → (∀ b, o3 b → o2 b) → Fr F H (ownS (vs.map some) ps) F' H' o3 := fun f i =>
    ⟨fun b u e no => f.keep b u e fun z => no (start_own S z), fun b z => (f.new b (i b z)).imp (start_own S) id, fun b u e => (f.frz b u e).imp id fun z => z.imp (start_own S) id, f.mono⟩
  have oo : ∀ {σ' : St} {ρ' : Env}, LS (L2.start N vs) σ' (ps ++ List.replicate (n - ps.length) .un) → ∀ b, ownS (vs.map some) (outsOf ps ρ') b → ownS σ' ρ' b := fun {σ' ρ'} ls b z => by
    obtain ⟨j, p, q, _, _, e, t, v⟩ := outs_own hv ls z
    exact ⟨j, q, e, t, v⟩
  cases out with
  | bad => exact h
  | bk ρ => exact False.elim h
  | ct ρ => exact False.elim h
  | nx ρ =>
    simp only [endO, finO] at h
    by_cases hs : (outsOf ps ρ).all sound1 = true
    · rw [if_pos hs] at h
      exact fun σ' F' H' S' ls f => h .non F' H' (outs_st hv S' ls l) .non (fr (σ' := σ') (ρ' := ρ) f fun b z => by
        rcases z with z | ⟨d, z, _⟩
        · exact oo ls b z
        · cases z)
    · rw [if_neg hs] at h; exact False.elim h
  | exn x ρ =>
    simp only [endO, finO] at h
    by_cases hs : (outsOf ps ρ).all sound1 = true
    · rw [if_pos hs] at h
      exact fun cls d σ' F' H' S' ls x' f => h cls d F' H' (outs_st hv S' ls l) x' (fr (σ' := σ') (ρ' := ρ) f fun b z => oo ls b z)
    · rw [if_neg hs] at h; exact False.elim h
  | rt r ρ =>
    simp only [endO] at h
    have l : LkT _ ρ := l
    cases ef : fin ρ r with
    | none => rw [ef] at h; exact False.elim h
    | some p =>
      obtain ⟨r', ρ'⟩ := p
      rw [ef] at h
      simp only [finO] at h
      by_cases hs : (outsOf ps ρ').all sound1 = true
      rotate_left
      · rw [if_neg hs] at h; exact False.elim h
      rw [if_pos hs] at h
      intro v σ' F' H' S' ls e' f
      have lk' := (fin_lk ef).1
      cases r with
      | fro d =>
        cases ef
        exact h v F' H' (outs_st hv S' ls l) e' (fr (σ' := σ') (ρ' := ρ) f fun b z => by
          rcases z with z | ⟨d, z, _⟩
          · exact .inl (oo ls b z)
          · cases z)
      | tmp d =>
        cases ef
        obtain ⟨a, rfl, na, q, no⟩ := e'
        exact h (.ref a) F' H' (outs_st hv S' ls l) ⟨a, rfl, na, q, fun z => no (oo ls a z)⟩ (fr (σ' := σ') (ρ' := ρ) f fun b z => by
          rcases z with z | ⟨d', z, z2⟩
          · exact .inl (oo ls b z)
          · cases z; exact .inr ⟨d, rfl, z2⟩)
      | «at» i =>
        obtain ⟨e1, sl, e2, t⟩ := e'
        obtain ⟨v', e3, q⟩ := S'.slot i sl e2 t
        rw [e1] at e3; cases e3
        unfold fin at ef
        simp only [getD_of e2] at ef
        cases sl with
        | un => cases t
        | lk d => cases ef
        | fz d =>
          cases ef
          exact h v F' H' (outs_st hv S' ls l) q (fr (σ' := σ') (ρ' := ρ) f fun b z => by
            rcases z with z | ⟨d, z, _⟩
            · exact .inl (oo ls b z)
            · cases z)
        | lf d =>
          cases ef
          exact h v F' H' (outs_st hv S' ls l) q (fr (σ' := σ') (ρ' := ρ) f fun b z => by
            rcases z with z | ⟨d, z, _⟩
            · exact .inl (oo ls b z)
            · cases z)
        | ow d =>
          cases ef
          obtain ⟨a, rfl, na, q⟩ := q
          have S2 : StR w K F' H' σ' (ρ.set i .un) := by
            refine ⟨S'.sub, by simpa using S'.len, fun j s ej tj => ?_, fun j k sj sk b ej ek tj tk vj vk => ?_⟩
            · by_cases hj : i = j
              · subst hj
                rw [List.getElem?_set_self (List.getElem?_eq_some_iff.mp e2).1] at ej
                cases ej; cases tj
              · rw [List.getElem?_set_ne hj] at ej
                exact S'.slot j s ej tj
            · have g : ∀ (j : Nat) s, (ρ.set i Sl.un)[j]? = some s → s.own = true → ρ[j]? = some s := fun j s ej tj => by
                by_cases hj : i = j
                · subst hj
                  rw [List.getElem?_set_self (List.getElem?_eq_some_iff.mp e2).1] at ej
                  cases ej; cases tj
                · rwa [List.getElem?_set_ne hj] at ej
              exact S'.inj j k sj sk b (g j sj ej tj) (g k sk ek tk) tj tk vj vk
          refine h (.ref a) F' H' (outs_st hv S2 ls (LkT.trans l lk')) ⟨a, rfl, na, q, fun z => ?_⟩ (fr (σ' := σ') (ρ' := ρ) f fun b z => ?_)
          · obtain ⟨j, p, s, _, _, ej, tj, vj⟩ := outs_own hv ls z
            by_cases hj : i = j
            · subst hj
              rw [List.getElem?_set_self (List.getElem?_eq_some_iff.mp e2).1] at ej
              cases ej; cases tj
            · rw [List.getElem?_set_ne hj] at ej
              exact hj (S'.inj i j _ _ a e2 ej rfl tj e1 vj)
          · rcases z with z | ⟨d', z, z2⟩
            · exact .inl (ownS_set rfl b (oo ls b z))
            · cases z2; exact .inl ⟨i, _, e2, rfl, e1⟩
        | le d =>
          cases ef
          obtain ⟨a, rfl, na, q⟩ := q
          obtain ⟨F2, f2, q2⟩ := frz_slot (sl' := .lf d) S' e2 rfl e1 na q (fun F' z => z) rfl trivial
          refine h (.ref a) F2 H' (outs_st hv f2.st ls (LkT.trans l lk')) q2 (fr (σ' := σ') (ρ' := ρ) (o2 := ownR σ' ρ (.ref a) (.at i)) ⟨f.keep, f.new, fun b u z => ?_, f.mono.trans f2.mono⟩ fun b z => ?_)
          · rcases f2.frz b u z with z | z
            · exact f.frz b u z
            · subst z; exact .inr (f.new b (.inl ⟨i, _, e2, rfl, e1⟩))
          · rcases z with z | ⟨d', z, _⟩
            · exact .inl (f2.own b (oo ls b z))
            · cases z
/-- THE RULE for a def -/
theorem fn_okD {m : Md} {x qual : Str} {st : Stmt} {f : Addr} {fd : FuncData} {N ps : List Str} {k n np : Nat} {body : SemS} (D : Fun K x qual st f fd) (S : FnScope N ps (defScope st)) (hn : N.length = n) (hp : ps.length = np)
    (hbody : ∀ (cdv : Value) (A : Around) (outer : List PySem.Env) (s : Shared) (H : Hp) (E : XK), Room k (A.deeper (envOfC qual (defScope st) s.heap.objs.size f cdv)) →
      SSs (cxOf (CXm m P w) P w K mg base N qual (defScope st) f cdv A outer s H E) c (fun cls d _ H => E cls d H) (defBody st) body) :
    FnOk P w K mg base (CXm m P w) (k + 1) f fd ps (spD w K c (fnOf n body) np) := by
  obtain ⟨_, _, _, _, _, _, cdv, _, _, rfl, lk, code⟩ := D.ex
  refine fn_of lk code S (fun vs H Q E h => by rw [hp]; exact h.1) fun A outer s H vs Q E hr hsp => ?_
  have B := hbody cdv A outer s H E hr
  obtain ⟨hv, F, pl, S0, _, h⟩ := hsp
  have hl : vs.length = pl.length := by have := S0.len; simpa using this
  refine ⟨_, B.ps, ?_⟩
  exact (⟨F, pl ++ List.replicate (n - pl.length) .un, start_st S0 hn, body_end hl S0 (B.ok _) h⟩ : TSD w K c (fun cls d _ H => E cls d H) body { nx := fun _ H' => Q .non H', rt := Q } (L2.start N vs) H)
theorem takesD {m : Md} {N : List Str} {qual : Str} {scope : Scope} {f : Addr} {cd : Value} {A : Around} {outer : List PySem.Env} {s : Shared} {H : Hp} {E : XK} :
    TakesM m (cxOf (CXm m P w) P w K mg base N qual scope f cd A outer s H E) (fun cls d _ H => E cls d H) := by
  cases m
  · exact L2.takes_of rfl rfl rfl rfl
  · exact L2N.takes_of rfl rfl rfl rfl
theorem passesD {m : Md} {N : List Str} {qual : Str} {scope : Scope} {f : Addr} {cd : Value} {A : Around} {outer : List PySem.Env} {s : Shared} {H : Hp} {E : XK} :
    PassesOwn (model P w) (cxOf (CXm m P w) P w K mg base N qual scope f cd A outer s H E).A (cxOf (CXm m P w) P w K mg base N qual scope f cd A outer s H E).env (cxOf (CXm m P w) P w K mg base N qual scope f cd A outer s H E).xe :=
  passes_of (X := cxOf (CXm m P w) P w K mg base N qual scope f cd A outer s H E) rfl
end

/-! ### while -/
section
variable {X : Cx} {c : XC} {W : WX} {pos : Pos}
def SOut.loop (o : SOut) (g : SemS) : SOut :=
  match o with
  | .nx ρ => g ρ
  | .ct ρ => g ρ
  | .bk ρ => .nx ρ
  | o => o
def sWhile : Nat → SemT → SemS → SemS
  | 0, _, _ => fun _ => .bad
  | n + 1, t, b => fun ρ => (t ρ).sbind fun k ρ1 => if k = true then (b ρ1).loop (sWhile n t b) else .nx ρ1
theorem okT_loop {f g : SemS} (h : okT f) (h2 : okT g) : okT fun ρ => (f ρ).loop g := fun ρ => by
  have a := h ρ
  show LkS ρ ((f ρ).loop g)
  cases e : f ρ <;> rw [e] at a <;> first | exact a | exact LkS.trans a (h2 _)
theorem okT_while {t : SemT} {b : SemS} (ht : okE t) (hb : okT b) : ∀ n, okT (sWhile n t b)
  | 0 => fun _ => trivial
  | n + 1 => okT_sbind ht fun k ρ => by
    cases k with
    | true => exact okT_loop hb (okT_while ht hb n) ρ
    | false => exact LkT.refl ρ
theorem ss_while {t : Expr} {body : List Stmt} {ft : SemT} {b : SemS} (n : Nat) (hp : PassesOwn (model X.prog X.w) X.A X.env X.xe) (ht : ST X c W t ft) (hb : SSs X c W body b) : SS X c W (.While t body [] pos) (sWhile n ft b) := by
  refine ⟨PS.imp (ps_while hp ht.pt hb.ps) fun D σ H q => ?_, okT_while ht.ok hb.ok n⟩
  refine ⟨fun m σ H => TSD X.w X.K c W (sWhile m ft b) D σ H, ⟨n, q⟩, fun m σ H ⟨F, ρ, S, q⟩ => ?_⟩
  cases m with
  | zero => exact False.elim q
  | succ m =>
    refine tst_bind ht.ok S q fun k ρ1 F1 H1 S1 h1 => ?_
    cases k with
    | false => exact h1 σ F1 H1 S1 (fun _ _ _ _ => rfl) Fr.refl
    | true =>
      refine ⟨fun σ' H' => TSD X.w X.K c W (sWhile m ft b) D σ' H', fun σ' H' z => ⟨m, Nat.lt_succ_self m, z⟩, F1, ρ1, S1, ?_⟩
      have h1 : PostS X.w X.K c W σ F1 H1 ρ1 ((b ρ1).loop (sWhile m ft b)) D := h1
      have l := hb.ok ρ1
      cases e : b ρ1 with
      | bad => rw [e] at h1; exact h1
      | rt r ρ2 => rw [e] at h1; exact h1
      | exn x ρ2 => rw [e] at h1; exact h1
      | bk ρ2 => rw [e] at h1; exact h1
      | nx ρ2 =>
        rw [e] at h1 l
        exact fun σ' F' H' S' ls f => ⟨F', ρ2, S', PostS.step (out := sWhile m ft b ρ2) f (fun _ z => z) ls l h1⟩
      | ct ρ2 =>
        rw [e] at h1 l
        exact fun σ' F' H' S' ls f => ⟨F', ρ2, S', PostS.step (out := sWhile m ft b ρ2) f (fun _ z => z) ls l h1⟩
end
end WS
/-! Wh: what is walked, targets, for. -/
namespace WS
open PySem L2

section
variable (w : World) (K : PySem.W.Frag)
/-- what a turn yields -/
def YR (F H : Hp) (x : V) (H' : Hp) (d : D) : Prop := (H' = H ∧ Rep w K F x d) ∨ ∃ p vs ds, x = .ref p ∧ H p = none ∧ H' = upd H p (.tup vs) ∧ d = .tup ds ∧ RepL w K F vs ds
/-- J walks the items wherever vs stand for ds -/
def Wk (F0 : Hp) (J : It) (vs : List V) (ds items : List D) : Prop := ∀ F H, Sub F0 F → Sub F H → Paired (Top w K F H) vs ds →
  (∀ i, i < items.length → J.go i H) ∧ J.stop items.length H ∧ ∀ i x H' d, J.yld i H x H' → items[i]? = some d → YR w K F H x H' d
variable (c : XC) (W : WX)
def PostI (σ : St) (F H : Hp) (ρ : Env) (out : Out (List R)) (itm : List D → Option (List D)) (R : It → Hp → Prop) : Prop :=
  match out with
  | .ok rs ρ' => ∃ items, itm (rs.map (val ρ')) = some items ∧ ∀ vs F' H', StR w K F' H' σ ρ' → ERL w K F' H' σ ρ' vs rs → Fr F H (ownS σ ρ) F' H' (ownL σ ρ' vs rs) → ∀ J, Wk w K F' J vs (rs.map (val ρ')) items → R J H'
  | .exn x ρ' => ∀ cls d F' H', StR w K F' H' σ ρ' → XR w K c x cls d F' H' → Fr F H (ownS σ ρ) F' H' (ownS σ ρ') → W cls d σ H'
  | .bad => False
def TID (g : SemL) (itm : List D → Option (List D)) : TI := fun σ H R => ∃ F ρ, StR w K F H σ ρ ∧ PostI w K c W σ F H ρ (g ρ) itm R
end
structure SI (X : Cx) (c : XC) (W : WX) (tg iter : Expr) (g : SemL) (itm : List D → Option (List D)) : Prop where
  pi : PI X tg iter (TID X.w X.K c W g itm)
  ok : okE g
theorem PI.imp {X : Cx} {tg e : Expr} {t t' : TI} (h : PI X tg e t) (i : ∀ σ H R, t' σ H R → t σ H R) : PI X tg e t' := ⟨fun pins s σ H R I q => h.run pins s σ H R I (i _ _ _ q)⟩

section
variable {X : Cx} {c : XC} {W : WX} {pos : Pos} {tg : Expr}
/-- the arguments of a walked thing -/
theorem ti_bind {g : SemL} {itm : List D → Option (List D)} {σ : St} {H : Hp} {R : It → Hp → Prop} {Z : List V → Hp → Prop} (h : TID X.w X.K c W g itm σ H R)
    (z : ∀ vs ds items F1 H1, Sub F1 H1 → Paired (Top X.w X.K F1 H1) vs ds → itm ds = some items → (∀ J, Wk X.w X.K F1 J vs ds items → R J H1) → Z vs H1) : TL X.w X.K c W g σ H Z := by
  obtain ⟨F, ρ, S, h⟩ := h
  refine ⟨F, ρ, S, ?_⟩
  cases e : g ρ with
  | bad => rw [e] at h; exact h
  | exn x ρ1 => rw [e] at h; exact h
  | ok rs ρ1 =>
    rw [e] at h
    obtain ⟨items, hi, h⟩ := h
    exact fun vs F1 H1 S1 r1 f1 => z vs _ items F1 H1 S1.sub (r1.tops S1) hi (h vs F1 H1 S1 r1 f1)
def itSeq : List D → Option (List D)
  | [.lst ds] => some ds
  | [.tup ds] => some ds
  | [.str s] => some (s.map fun n => .str [n])
  | _ => none
/-- one argument as a row -/
def l1 (f : SemE) : SemL := lCons f lNil
theorem okE_l1 {f : SemE} (h : okE f) : okE (l1 f) := okE_lcons h (okE_ok _)
theorem td_l1 {f : SemE} {itm : List D → Option (List D)} {σ : St} {H : Hp} {R : It → Hp → Prop} {Z : V → Hp → Prop} (of : okE f) (h : TID X.w X.K c W (l1 f) itm σ H R)
    (z : ∀ v d items F1 H1, Sub F1 H1 → Top X.w X.K F1 H1 v d → itm [d] = some items → (∀ J, Wk X.w X.K F1 J [v] [d] items → R J H1) → Z v H1) : TD X.w X.K c W f σ H Z := by
  obtain ⟨F, ρ, S, h⟩ := h
  refine ⟨F, ρ, S, ?_⟩
  unfold l1 lCons lNil at h
  cases e : f ρ with
  | bad => rw [e] at h; exact h
  | exn x ρ1 => rw [e] at h; exact h
  | ok r ρ1 =>
    rw [e] at h
    obtain ⟨items, hi, h⟩ := h
    intro v F1 H1 S1 r1 f1
    refine z v _ items F1 H1 S1.sub (r1.top S1) hi (h [v] F1 H1 S1 (.cons r1 (fun d a hr hv j d' hj => by simp at hj) .nil) ?_)
    refine f1.imp fun b q => ?_
    rcases q with q | ⟨j, d, e1, e2⟩
    · exact .inl q
    · cases j with
      | zero => simp at e1 e2; subst e1 e2; exact .inr ⟨d, rfl, rfl⟩
      | succ j => simp at e1
theorem wk_list {F0 : Hp} {a : Addr} {ds : List D} : Wk X.w X.K F0 (Itl X.K a) [.ref a] [.lst ds] ds := fun F H _ s p => by
  cases p with
  | cons t _ =>
    obtain ⟨a', vs, e, h, r⟩ := t.lst s
    cases e
    have hl := r.length
    refine ⟨fun i hi => ⟨vs, vs[i], .of h, List.getElem?_eq_getElem (by omega)⟩, ⟨vs, .of h, by omega⟩, fun i x H' d y e => ?_⟩
    obtain ⟨rfl, y⟩ := y
    obtain ⟨v, hv, rv⟩ := r.get e
    have := y vs (.of h)
    rw [hv] at this; cases this
    exact .inl ⟨rfl, rv⟩
theorem wk_tup {F0 : Hp} {a : Addr} {ds : List D} : Wk X.w X.K F0 (Itt X.K a) [.ref a] [.tup ds] ds := fun F H _ s p => by
  cases p with
  | cons t _ =>
    obtain ⟨a', vs, e, h, r⟩ := t.tup s
    cases e
    have hl := r.length
    refine ⟨fun i hi => ⟨vs, vs[i], h, List.getElem?_eq_getElem (by omega)⟩, ⟨vs, h, by omega⟩, fun i x H' d y e => ?_⟩
    obtain ⟨rfl, y⟩ := y
    obtain ⟨v, hv, rv⟩ := r.get e
    have := y vs h
    rw [hv] at this; cases this
    exact .inl ⟨rfl, rv⟩
theorem wk_str {F0 : Hp} {s : List Nat} (ho : okS s = true) : Wk X.w X.K F0 (Its (mkS s)) [.str (mkS s)] [.str s] (s.map fun n => .str [n]) := fun F H _ sb p => by
  refine ⟨fun i hi => ?_, ?_, fun i x H' d y e => ?_⟩
  · show i < (mkS s).cps.size
    simpa using hi
  · show (mkS s).cps.size ≤ _
    simp
  · obtain ⟨rfl, n, hn, rfl⟩ := y
    have hn : s[i]? = some n := by simpa using hn
    rw [List.getElem?_map, hn] at e
    cases e
    refine .inl ⟨rfl, .str [n] ?_ (by show 1 ≤ sizeLine; decide)⟩
    have := List.all_eq_true.mp ho n (List.mem_of_getElem? hn)
    simpa [okS] using this
/-- a list, a tuple, a text -/
theorem si_any {e : Expr} {f : SemE} (h : SE X c W e f) : SI X c W tg e (l1 f) itSeq := by
  refine ⟨⟨fun pins s σ H R I q => ?_⟩, okE_l1 h.ok⟩
  refine thn (h.pe.run pins s σ H (fun x H1 => (∃ a, x = .ref a ∧ (∃ xs, SqL X.K H1 a xs) ∧ R (Itl X.K a) H1) ∨ (∃ a, x = .ref a ∧ (∃ xs, SqT X.K H1 a xs) ∧ R (Itt X.K a) H1) ∨ ∃ z, x = .str z ∧ R (Its z) H1) I ?_) fun v s1 z => ?_
  · refine td_l1 h.ok q fun v d items F1 H1 s t hi k => ?_
    cases d <;> first | (cases hi; done) | skip
    · rename_i z
      cases hi
      obtain ⟨rfl, o, l⟩ := t.str
      exact .inr (.inr ⟨_, rfl, k _ (wk_str o)⟩)
    · cases hi
      obtain ⟨a, vs, rfl, h1, r1⟩ := t.tup s
      exact .inr (.inl ⟨a, rfl, ⟨vs, h1⟩, k _ wk_tup⟩)
    · cases hi
      obtain ⟨a, vs, rfl, h1, r1⟩ := t.lst s
      exact .inl ⟨a, rfl, ⟨vs, .of h1⟩, k _ wk_list⟩
  · obtain ⟨x, H1, I1, r1, q1⟩ := z
    have one : ∀ b ∈ [s1.heap.objs.size], FpOk X pins H1 b := fun b hb => by
      rw [List.mem_singleton.mp hb]
      exact I1.fpOk (Nat.le_refl _) (I1.hok.fresh (Nat.le_refl _))
    have kept : ∀ ob : Obj, Inv X pins σ H1 { s1 with heap := s1.heap.push ob } := fun ob => I1.kept (t' := s1.toks) fun b o e => Heap.get?_push_of_some _ e
    rcases q1 with ⟨a, rfl, ⟨xs, hq⟩, q1⟩ | ⟨a, rfl, ⟨xs, hq⟩, q1⟩ | ⟨z, rfl, q1⟩
    · cases r1
      obtain ⟨its, _, p, _⟩ := I1.list hq
      exact wpAny_pyIter_list p.isList ⟨_, [_], _, _, H1, rfl, kept _, turn_list a _, ⟨_, Heap.get?_push_size _ rfl, rfl, rfl⟩, one, q1⟩
    · cases r1
      obtain ⟨its, _, p, _⟩ := I1.tuple hq
      exact wpAny_pyIter_tuple (items := its.toArray) p ⟨_, [_], _, _, H1, rfl, kept _, turn_tuple a _, ⟨_, Heap.get?_push_size _ rfl, rfl, rfl⟩, one, q1⟩
    · obtain ⟨t, rfl⟩ := r1
      cases ha : z.cps.all (· < 128)
      · exact wpAny_pyIter_wide ha ⟨_, [_], _, _, H1, rfl, kept _, turn_str _ z t "str_iterator" (.inr rfl), ⟨_, Heap.get?_push_size _ rfl, rfl, rfl⟩, one, q1⟩
      · exact wpAny_pyIter_ascii ha ⟨_, [_], _, _, H1, rfl, kept _, turn_str _ z t "str_ascii_iterator" (.inl rfl), ⟨_, Heap.get?_push_size _ rfl, rfl, rfl⟩, one, q1⟩
/-! range -/
def upTo (lo : Int) (n : Nat) : List D := (List.range n).map fun (i : Nat) => D.int (lo + (i : Int))
def big (i : Int) : Bool := decide (-(2 ^ 62) ≤ i ∧ i < 2 ^ 62)
def itRange1 : List D → Option (List D)
  | [.int j] => if big j = true then some (upTo 0 j.toNat) else none
  | _ => none
def itRange2 : List D → Option (List D)
  | [.int i, .int j] => if (big i && big j) = true then some (upTo i (j - i).toNat) else none
  | _ => none
theorem wk_range {F0 : Hp} {lo : Int} {n : Nat} {vs : List V} {ds : List D} : Wk X.w X.K F0 (Itr lo n) vs ds (upTo lo n) := fun F H _ s p => by
  refine ⟨fun i hi => by show i < n; simpa [upTo] using hi, by show n ≤ _; simp [upTo], fun i x H' d y e => ?_⟩
  obtain ⟨rfl, rfl⟩ := y
  unfold upTo at e
  rw [List.getElem?_map] at e
  cases q : (List.range n)[i]? with
  | none => rw [q] at e; cases e
  | some k =>
    rw [q] at e
    have : k = i := by
      obtain ⟨h, z⟩ := List.getElem?_eq_some_iff.mp q
      rw [← z]; simp
    subst this
    cases e
    exact .inl ⟨rfl, .int _⟩
theorem si_range1 {a : Expr} {p : Pos} {f : SemL} (hg : Gl X "range") (hm : X.mg "range" = none) (ha : SA X c W [a] f) (hs : starEach [a] X.env = [(false, eval a X.env)]) : SI X c W tg (.Call (.Name "range" p) [a] [] pos) f itRange1 := by
  refine ⟨PI.imp (pi_range1 hg hm ha.pa hs) fun σ H R h => ti_bind h fun vs ds items F1 H1 s t hi k => ?_, ha.ok⟩
  unfold itRange1 at hi
  split at hi
  · rename_i j
    split at hi
    · rename_i hb
      cases hi
      have hb := of_decide_eq_true hb
      cases t with
      | cons t r =>
        cases r
        exact ⟨j, by rw [t.int], hb.1, hb.2, k _ wk_range⟩
    · cases hi
  · cases hi
theorem si_range2 {a b : Expr} {p : Pos} {f : SemL} (hg : Gl X "range") (hm : X.mg "range" = none) (ha : SA X c W [a, b] f) (hs : starEach [a, b] X.env = [(false, eval a X.env), (false, eval b X.env)]) (hs2 : starEach [b] X.env = [(false, eval b X.env)]) :
    SI X c W tg (.Call (.Name "range" p) [a, b] [] pos) f itRange2 := by
  refine ⟨PI.imp (pi_range2 hg hm ha.pa hs hs2) fun σ H R h => ti_bind h fun vs ds items F1 H1 s t hi k => ?_, ha.ok⟩
  unfold itRange2 at hi
  split at hi
  · rename_i i j
    split at hi
    · rename_i hb
      cases hi
      rw [Bool.and_eq_true] at hb
      have hb1 := of_decide_eq_true hb.1
      have hb2 := of_decide_eq_true hb.2
      cases t with
      | cons t r =>
        cases r with
        | cons t2 r =>
          cases r
          exact ⟨i, j, by rw [t.int, t2.int], ⟨hb1.1, hb1.2, hb2.1, hb2.2⟩, k _ wk_range⟩
    · cases hi
  · cases hi
/-! enumerate, zip -/
def numbered (k : Nat) : List D → List D
  | [] => []
  | d :: ds => .tup [.int (k : Nat), d] :: numbered (k + 1) ds
def itEnum : List D → Option (List D)
  | [.lst ds] => some (numbered 0 ds)
  | _ => none
def zipped : List D → List D → List D
  | x :: xs, y :: ys => .tup [x, y] :: zipped xs ys
  | _, _ => []
def itZip : List D → Option (List D)
  | [.lst a, .lst b] => some (zipped a b)
  | [.tup a, .tup b] => some (zipped a b)
  | _ => none
theorem numbered_get : ∀ {ds : List D} {k i : Nat}, (numbered k ds)[i]? = (ds[i]?).map fun d => .tup [.int ((k + i : Nat) : Int), d]
  | [], _, _ => by simp [numbered]
  | d :: ds, k, 0 => by simp [numbered]
  | d :: ds, k, i + 1 => by
    have := numbered_get (ds := ds) (k := k + 1) (i := i)
    simp only [numbered, List.getElem?_cons_succ]
    rw [this]
    congr 1
    funext d
    congr 3
    omega
theorem numbered_length : ∀ {ds : List D} {k : Nat}, (numbered k ds).length = ds.length
  | [], _ => rfl
  | _ :: ds, k => congrArg (· + 1) (numbered_length (ds := ds) (k := k + 1))
theorem zipped_get : ∀ {xs ys : List D} {i : Nat} {d : D}, (zipped xs ys)[i]? = some d → ∃ x y, xs[i]? = some x ∧ ys[i]? = some y ∧ d = .tup [x, y]
  | x :: xs, y :: ys, 0, d, h => by simp [zipped] at h; exact ⟨x, y, rfl, rfl, h.symm⟩
  | x :: xs, y :: ys, i + 1, d, h => by
    obtain ⟨a, b, h1, h2, h3⟩ := zipped_get (xs := xs) (ys := ys) (i := i) (d := d) (by simpa [zipped] using h)
    exact ⟨a, b, by simpa using h1, by simpa using h2, h3⟩
  | [], _, _, _, h => by simp [zipped] at h
  | _ :: _, [], _, _, h => by simp [zipped] at h
theorem zipped_length : ∀ {xs ys : List D}, (zipped xs ys).length = min xs.length ys.length
  | x :: xs, y :: ys => by simp only [zipped, List.length_cons, zipped_length]; omega
  | [], _ => by simp [zipped]
  | _ :: _, [] => by simp [zipped]
theorem wk_enum {F0 : Hp} {a : Addr} {ds : List D} : Wk X.w X.K F0 (Ite X.K a) [.ref a] [.lst ds] (numbered 0 ds) := fun F H _ s p => by
  cases p with
  | cons t _ =>
    obtain ⟨a', vs, e, h, r⟩ := t.lst s
    cases e
    have hl := r.length
    rw [numbered_length]
    refine ⟨fun i hi => ⟨vs, vs[i], .of h, List.getElem?_eq_getElem (by omega)⟩, ⟨vs, .of h, by omega⟩, fun i x H' d y e => ?_⟩
    obtain ⟨T, z, rfl, hT, rfl, y⟩ := y
    rw [numbered_get] at e
    cases q : ds[i]? with
    | none => rw [q] at e; cases e
    | some d0 =>
      rw [q] at e
      cases e
      obtain ⟨v, hv, rv⟩ := r.get q
      have := y vs (.of h)
      rw [hv] at this; cases this
      refine .inr ⟨T, _, _, rfl, hT, rfl, rfl, .cons ?_ (.cons rv .nil)⟩
      rw [Nat.zero_add]
      exact .int _
theorem wk_zip {F0 : Hp} {a b : Addr} {ds es : List D} : Wk X.w X.K F0 (Itz X.K a b) [.ref a, .ref b] [.lst ds, .lst es] (zipped ds es) := fun F H _ s p => by
  cases p with
  | cons t p =>
    cases p with
    | cons t2 _ =>
      obtain ⟨a', vs, e, h, r⟩ := t.lst s
      cases e
      obtain ⟨b', us, e, h2, r2⟩ := t2.lst s
      cases e
      have hl := r.length
      have hl2 := r2.length
      rw [zipped_length]
      refine ⟨fun i hi => ⟨vs, us, vs[i], us[i], .of h, .of h2, List.getElem?_eq_getElem (by omega), List.getElem?_eq_getElem (by omega)⟩, ⟨vs, us, .of h, .of h2, by omega⟩, fun i x H' d y e => ?_⟩
      obtain ⟨T, z, z2, rfl, hT, rfl, y, y2⟩ := y
      obtain ⟨d1, d2, q1, q2, rfl⟩ := zipped_get e
      obtain ⟨v, hv, rv⟩ := r.get q1
      obtain ⟨u, hu, ru⟩ := r2.get q2
      have := y vs (.of h)
      rw [hv] at this; cases this
      have := y2 us (.of h2)
      rw [hu] at this; cases this
      exact .inr ⟨T, _, _, rfl, hT, rfl, rfl, .cons rv (.cons ru .nil)⟩
theorem wk_zipT {F0 : Hp} {a b : Addr} {ds es : List D} : Wk X.w X.K F0 (RZ.ItzT X.K a b) [.ref a, .ref b] [.tup ds, .tup es] (zipped ds es) := fun F H _ s p => by
  cases p with
  | cons t p =>
    cases p with
    | cons t2 _ =>
      obtain ⟨a', vs, e, h, r⟩ := t.tup s
      cases e
      obtain ⟨b', us, e, h2, r2⟩ := t2.tup s
      cases e
      have hl := r.length
      have hl2 := r2.length
      rw [zipped_length]
      refine ⟨fun i hi => ⟨vs, us, vs[i], us[i], h, h2, List.getElem?_eq_getElem (by omega), List.getElem?_eq_getElem (by omega)⟩, ⟨vs, us, h, h2, by omega⟩, fun i x H' d y e => ?_⟩
      obtain ⟨T, z, z2, rfl, hT, rfl, y, y2⟩ := y
      obtain ⟨d1, d2, q1, q2, rfl⟩ := zipped_get e
      obtain ⟨v, hv, rv⟩ := r.get q1
      obtain ⟨u, hu, ru⟩ := r2.get q2
      have := y vs h
      rw [hv] at this; cases this
      have := y2 us h2
      rw [hu] at this; cases this
      exact .inr ⟨T, _, _, rfl, hT, rfl, rfl, .cons rv (.cons ru .nil)⟩
theorem si_enum {elts : List Expr} {kk : Nat} {tpos p : Pos} {e : Expr} {f : SemL} (hg : Gl X "enumerate") (hm : X.mg "enumerate" = none) (ha : SA X c W [e] f) (hs : starEach [e] X.env = [(false, eval e X.env)]) :
    SI X c W (.Tuple elts kk tpos) (.Call (.Name "enumerate" p) [e] [] pos) f itEnum := by
  refine ⟨PI.imp (pi_enum hg hm ha.pa hs) fun σ H R h => ti_bind h fun vs ds items F1 H1 s t hi k => ?_, ha.ok⟩
  unfold itEnum at hi
  split at hi
  · cases hi
    cases t with
    | cons t r =>
      cases r
      obtain ⟨a, vs, rfl, h1, r1⟩ := t.lst s
      exact ⟨a, vs, rfl, .of h1, k _ wk_enum⟩
  · cases hi
theorem si_zip {elts : List Expr} {kk : Nat} {tpos p : Pos} {e e2 : Expr} {f : SemL} (hg : Gl X "zip") (hm : X.mg "zip" = none) (ha : SA X c W [e, e2] f) (hs : starEach [e, e2] X.env = (false, eval e X.env) :: starEach [e2] X.env) (hpl : (backTo pos (starEach [e2] X.env)).any (·.1) = false) :
    SI X c W (.Tuple elts kk tpos) (.Call (.Name "zip" p) [e, e2] [] pos) f itZip := by
  refine ⟨PI.imp (RZ.pi_zipA hg hm ha.pa hs hpl) fun σ H R h => ti_bind h fun vs ds items F1 H1 s t hi k => ?_, ha.ok⟩
  unfold itZip at hi
  split at hi
  · cases hi
    cases t with
    | cons t r =>
      cases r with
      | cons t2 r =>
        cases r
        obtain ⟨a, vs, rfl, h1, r1⟩ := t.lst s
        obtain ⟨b, us, rfl, h2, r2⟩ := t2.lst s
        exact ⟨a, b, vs, us, rfl, .inl ⟨.of h1, .of h2, k _ wk_zip⟩⟩
  · cases hi
    cases t with
    | cons t r =>
      cases r with
      | cons t2 r =>
        cases r
        obtain ⟨a, vs, rfl, h1, r1⟩ := t.tup s
        obtain ⟨b, us, rfl, h2, r2⟩ := t2.tup s
        exact ⟨a, b, vs, us, rfl, .inr ⟨h1, h2, k _ wk_zipT⟩⟩
  · cases hi
end

/-! ### targets -/
abbrev Tgt := D → Env → Option Env
/-- a target that stores in the slots `is` -/
def TGD (w : World) (K : PySem.W.Frag) (t : Tgt) (is : List Nat) : TG := fun v σ H Q => ∃ F ρ ρ' d, StR w K F H σ ρ ∧ Rep w K F v d ∧ t d ρ = some ρ' ∧
  ∀ σ', StR w K F H σ' ρ' → LS σ σ' ρ → (∀ b, ownS σ' ρ' b → ownS σ ρ b) → σ'.length = σ.length → (∀ j, j ∉ is → σ'[j]? = σ[j]?) → Q σ' H
def TGsD (w : World) (K : PySem.W.Frag) (t : List D → Env → Option Env) (is : List Nat) : TGs := fun vs σ H Q => ∃ F ρ ρ' ds, StR w K F H σ ρ ∧ RepL w K F vs ds ∧ t ds ρ = some ρ' ∧
  ∀ σ', StR w K F H σ' ρ' → LS σ σ' ρ → (∀ b, ownS σ' ρ' b → ownS σ ρ b) → σ'.length = σ.length → (∀ j, j ∉ is → σ'[j]? = σ[j]?) → Q σ' H
theorem PG.imp {X : Cx} {e : Expr} {g g' : TG} (h : PG X e g) (i : ∀ v σ H Q, g' v σ H Q → g v σ H Q) : PG X e g' := ⟨fun pins s σ H v u Q I r q => h.run pins s σ H v u Q I r (i _ _ _ _ q)⟩
theorem PGs.imp {X : Cx} {e : List Expr} {g g' : TGs} (h : PGs X e g) (i : ∀ v σ H Q, g' v σ H Q → g v σ H Q) : PGs X e g' := ⟨fun pins s σ H v u Q I r q => h.run pins s σ H v u Q I r (i _ _ _ _ q)⟩
structure SG (X : Cx) (target : Expr) (t : Tgt) (is : List Nat) : Prop where
  pg : PG X target (TGD X.w X.K t is)
  lk : ∀ d ρ ρ', t d ρ = some ρ' → LkT ρ ρ'
  only : ∀ d ρ ρ', t d ρ = some ρ' → ∀ j, j ∉ is → ρ'[j]? = ρ[j]?
def tgN (i : Nat) : Tgt := fun d ρ => if (ρ.getD i .un).lent = true then none else some (ρ.set i (.fz d))
def tgL : List Tgt → List D → Env → Option Env
  | [], [], ρ => some ρ
  | t :: ts, d :: ds, ρ => (t d ρ).bind (tgL ts ds)
  | _, _, _ => none
def tgT (ts : List Tgt) : Tgt := fun d ρ => match d with
  | .tup ds => tgL ts ds ρ
  | _ => none
section
variable {X : Cx} {pos : Pos}
theorem lkT_fz {ρ : Env} {i : Nat} {d : D} (h : (ρ.getD i .un).lent = false) : LkT ρ (ρ.set i (.fz d)) := by
  by_cases hi : i < ρ.length
  · have e := List.getElem?_eq_getElem hi
    exact Lk.set slT.refl e (slT_free (by rw [getD_of e] at h; exact h) rfl)
  · rw [List.set_eq_of_length_le (by omega)]
    exact LkT.refl ρ
theorem sg_name {i : Nat} {x : Str} (hN : X.N.Nodup) (hi : X.N[i]? = some x) (hx : Loc X.env.scope x) (hf : X.fn x = true ∨ X.env.scope.names.lookup x = some .local) : SG X (.Name x pos) (tgN i) [i] := by
  have neg : ∀ {d : D} {ρ ρ' : Env}, tgN i d ρ = some ρ' → (ρ.getD i .un).lent = false ∧ ρ' = ρ.set i (.fz d) := fun {d ρ ρ'} h => by
    unfold tgN at h
    split at h
    · cases h
    · rename_i z
      exact ⟨by simpa using z, (Option.some.inj h).symm⟩
  refine ⟨PG.imp (pg_name hN hi hx hf) fun v σ H Q ⟨F, ρ, ρ', d, S, r, h, q⟩ => ?_, fun d ρ ρ' h => ?_, fun d ρ ρ' h j hj => ?_⟩
  · obtain ⟨hl, rfl⟩ := neg h
    refine q _ (S.set r fun z => nomatch z) (LS_set hl) (fun b z => ?_) (by simp) fun j hj => List.getElem?_set_ne fun e => hj (by simp [e])
    rcases ownS_put S.len z with z | ⟨z, _⟩
    · exact z
    · cases z
  · obtain ⟨hl, rfl⟩ := neg h
    exact lkT_fz hl
  · obtain ⟨hl, rfl⟩ := neg h
    exact List.getElem?_set_ne fun e => hj (by simp [e])
structure SGs (X : Cx) (es : List Expr) (ts : List Tgt) (is : List Nat) : Prop where
  pg : PGs X es (TGsD X.w X.K (tgL ts) is)
  lk : ∀ ds ρ ρ', tgL ts ds ρ = some ρ' → LkT ρ ρ'
  only : ∀ ds ρ ρ', tgL ts ds ρ = some ρ' → ∀ j, j ∉ is → ρ'[j]? = ρ[j]?
theorem sgs_nil : SGs X [] [] [] := by
  refine ⟨PGs.imp pgs_nil fun vs σ H Q ⟨F, ρ, ρ', ds, S, r, h, q⟩ => ?_, fun ds ρ ρ' h => ?_, fun ds ρ ρ' h j _ => ?_⟩
  · cases r with
    | nil => cases h; exact ⟨rfl, q σ S (fun _ _ _ _ => rfl) (fun _ z => z) rfl fun _ _ => rfl⟩
    | cons _ _ => cases h
  · cases ds with
    | nil => cases h; exact LkT.refl ρ
    | cons _ _ => cases h
  · cases ds with
    | nil => cases h; rfl
    | cons _ _ => cases h
theorem sgs_cons {e : Expr} {es : List Expr} {t : Tgt} {ts : List Tgt} {is js : List Nat} (h1 : SG X e t is) (h2 : SGs X es ts js) (hs : (assignEach (e :: es) X.env).map (·.2) = assign e X.env :: (assignEach es X.env).map (·.2)) : SGs X (e :: es) (t :: ts) (is ++ js) := by
  obtain ⟨p, l, y⟩ := h1
  obtain ⟨p2, l2, yy⟩ := h2
  refine ⟨PGs.imp (pgs_cons p p2 hs) fun vs σ H Q ⟨F, ρ, ρ', ds, S, r, h, q⟩ => ?_, fun ds ρ ρ' h => ?_, fun ds ρ ρ' h j hj => ?_⟩
  · cases r with
    | nil => cases h
    | @cons v d vs ds r1 r2 =>
      have h : (t d ρ).bind (tgL ts ds) = some ρ' := h
      cases e1 : t d ρ with
      | none => rw [e1] at h; cases h
      | some ρ1 =>
        rw [e1] at h
        refine ⟨v, vs, rfl, F, ρ, ρ1, d, S, r1, e1, fun σ1 S1 ls1 o1 n1 y1 => ⟨F, ρ1, ρ', ds, S1, r2, h, fun σ2 S2 ls2 o2 n2 y2 => q σ2 S2 (LS.trans ls1 (l _ _ _ e1) ls2) (fun b z => o1 b (o2 b z)) (n2.trans n1) fun j hj => ?_⟩⟩
        rw [List.mem_append, not_or] at hj
        exact (y2 j hj.2).trans (y1 j hj.1)
  · cases ds with
    | nil => cases h
    | cons d ds =>
      have h : (t d ρ).bind (tgL ts ds) = some ρ' := h
      cases e1 : t d ρ with
      | none => rw [e1] at h; cases h
      | some ρ1 => rw [e1] at h; exact LkT.trans (l _ _ _ e1) (l2 _ _ _ h)
  · cases ds with
    | nil => cases h
    | cons d ds =>
      have h : (t d ρ).bind (tgL ts ds) = some ρ' := h
      rw [List.mem_append, not_or] at hj
      cases e1 : t d ρ with
      | none => rw [e1] at h; cases h
      | some ρ1 => rw [e1] at h; exact (yy _ _ _ h j hj.2).trans (y _ _ _ e1 j hj.1)
theorem sg_tup {es : List Expr} {k : Nat} {ts : List Tgt} {is : List Nat} (hc : X.calm = true) (h : SGs X es ts is) (hn : (assignEach es X.env).length = ts.length) (hst : (assignEach es X.env).findIdx? (·.1) = none) : SG X (.Tuple es k pos) (tgT ts) is := by
  obtain ⟨p, l, y⟩ := h
  have len : ∀ (ts : List Tgt) (ds : List D) (ρ ρ' : Env), tgL ts ds ρ = some ρ' → ds.length = ts.length := by
    intro ts
    induction ts with
    | nil => intro ds ρ ρ' h; cases ds <;> cases h; rfl
    | cons t ts ih =>
      intro ds ρ ρ' h
      cases ds with
      | nil => cases h
      | cons d ds =>
        have h : (t d ρ).bind (tgL ts ds) = some ρ' := h
        cases e1 : t d ρ with
        | none => rw [e1] at h; cases h
        | some ρ1 => rw [e1] at h; exact congrArg (· + 1) (ih ds ρ1 ρ' h)
  refine ⟨PG.imp (pg_tup hc p hn hst) fun v σ H Q ⟨F, ρ, ρ', d, S, r, h, k⟩ => ?_, fun d ρ ρ' h => ?_, fun d ρ ρ' h => ?_⟩
  · cases d <;> first | (cases h; done) | skip
    rename_i ds
    cases r with
    | tup a b => exact ⟨_, _, rfl, SqT_sub S.sub a, b.length.trans (len ts ds ρ ρ' h), F, ρ, ρ', ds, S, b, h, k⟩
  · cases d <;> first | (cases h; done) | skip
    exact l _ _ _ h
  · cases d <;> first | (cases h; done) | skip
    exact y _ _ _ h
end
end WS
/-! Wi: for, list comprehensions. -/
namespace WS
open PySem L2

section
variable {w : World} {K : PySem.W.Frag} {F H F1 H1 : Hp} {σ σ1 : St} {ρ ρ1 : Env}
/-- a turn's thing -/
theorem YR.st {x : V} {d : D} (S : StR w K F H σ ρ) (y : YR w K F H x H1 d) : ∃ F', StR w K F' H1 σ ρ ∧ Rep w K F' x d ∧ Fr F H (ownS σ ρ) F' H1 (ownS σ ρ) := by
  rcases y with ⟨rfl, r⟩ | ⟨p, vs, ds, rfl, hp, rfl, rfl, r⟩
  · exact ⟨F, S, r, Fr.refl⟩
  · have nF := S.sub.fresh hp
    have m : Sub F (upd F p (.tup vs)) := Sub.up nF
    refine ⟨upd F p (.tup vs), S.new (S.sub.upd hp) m (upd_keep hp) fun b z => ?_, .tup (.of upd_same) (r.mono m), ⟨fun b u e _ => upd_keep hp b u e, fun b z => .inl z, fun b u e => ?_, m⟩⟩
    · by_cases hb : b = p
      · subst hb; exact .inr hp
      · exact .inl (by rw [upd_ne hb]; exact z)
    · by_cases hb : b = p
      · subst hb; exact .inr (.inr hp)
      · rw [upd_ne hb] at e; exact .inl e
/-- a result that is walked, behind a turn -/
def held (ρ : Env) (rs : List R) : Prop := ∀ i, R.at i ∈ rs → ∃ d, ρ[i]? = some (.lk d)
theorem held.later {rs : List R} (h : held ρ rs) (l : LkT ρ ρ1) : held ρ1 rs := fun i hi => by
  obtain ⟨d, e⟩ := h i hi
  obtain ⟨b, e1, q⟩ := l.get e
  cases b with
  | lk d' => exact ⟨d', e1⟩
  | _ => exact False.elim q
theorem held.val {rs : List R} (h : held ρ rs) (l : LkT ρ ρ1) : rs.map (val ρ1) = rs.map (val ρ) := by
  refine List.map_congr_left fun r hr => ?_
  cases r with
  | fro d => rfl
  | tmp d => rfl
  | «at» i =>
    obtain ⟨d, e⟩ := h i hr
    obtain ⟨b, e1, q⟩ := l.get e
    cases b with
    | lk d' =>
      have q : d = d' := q
      subst q
      show (ρ1.getD i .un).get = (ρ.getD i .un).get
      rw [getD_of e, getD_of e1]
    | _ => exact False.elim q
theorem ER.turn {v : V} {r : R} {o' : Addr → Prop} (S : StR w K F H σ ρ) (e : ER w K F H σ ρ v r) (hh : ∀ i, r = .at i → ∃ d, ρ[i]? = some (.lk d)) (f : Fr F H (ownS σ ρ) F1 H1 o') (i : ∀ b, ownS σ1 ρ1 b → o' b) (ls : LS σ σ1 ρ) (l : LkT ρ ρ1) : ER w K F1 H1 σ1 ρ1 v r := by
  cases r with
  | fro d => exact Rep.mono f.mono e
  | tmp d =>
    obtain ⟨a, rfl, n, q, no⟩ := e
    obtain ⟨u, hu⟩ := q.there
    refine ⟨a, rfl, ?_, q.mono f.mono fun o h => f.keep a o h no, fun z => ?_⟩
    · cases z : F1 a with
      | none => rfl
      | some y =>
        rcases f.frz a y z with z | z | z
        · rw [n] at z; cases z
        · exact absurd z no
        · rw [hu] at z; cases z
    · rcases f.new a (i a z) with z | z
      · exact no z
      · rw [hu] at z; cases z
  | «at» k =>
    obtain ⟨e1, sl, e2, t⟩ := e
    obtain ⟨d, e3⟩ := hh k rfl
    rw [e2] at e3; cases e3
    obtain ⟨b, e4, q⟩ := l.get e2
    refine ⟨by rw [ls k _ e2 rfl]; exact e1, b, e4, ?_⟩
    cases b with
    | lk d' => rfl
    | _ => exact False.elim q
theorem ERL.turn {o' : Addr → Prop} (S : StR w K F H σ ρ) (f : Fr F H (ownS σ ρ) F1 H1 o') (i : ∀ b, ownS σ1 ρ1 b → o' b) (ls : LS σ σ1 ρ) (l : LkT ρ ρ1) : ∀ {vs : List V} {rs : List R}, held ρ rs → ERL w K F H σ ρ vs rs → ERL w K F1 H1 σ1 ρ1 vs rs
  | _, _, _, .nil => .nil
  | _, _, h, .cons e n t => .cons (e.turn S (fun j hj => h j (by rw [hj]; exact List.mem_cons_self)) f i ls l) n (ERL.turn S f i ls l (fun j hj => h j (List.mem_cons_of_mem _ hj)) t)
end

/-! ### locks -/
def lk1 : Sl → Sl
  | .ow d => .lk d
  | .le d => .lk d
  | s => s
def ul1 : Sl → Sl → Sl
  | .ow _, .lk d => .ow d
  | .le _, .lk d => .le d
  | _, s => s
def isAt (i : Nat) : R → Bool
  | .at k => k == i
  | _ => false
def lock (rs : List R) (ρ : Env) : Env := ρ.mapIdx fun i sl => if rs.any (isAt i) = true then lk1 sl else sl
def unlk (ρ0 ρ : Env) : Env := List.zipWith ul1 ρ0 ρ
def noAt : R → Bool
  | .at _ => false
  | _ => true
def ownAt (ρ : Env) : R → Bool
  | .at i => (ρ.getD i .un).own
  | _ => true
def SOut.turn (o : SOut) (u : Env → Env) (g : SemS) : SOut :=
  match o with
  | .nx ρ => g ρ
  | .ct ρ => g ρ
  | .bk ρ => .nx (u ρ)
  | .rt r ρ => .rt r (u ρ)
  | .exn x ρ => .exn x (u ρ)
  | .bad => .bad
def forL (tg : Tgt) (b : SemS) (u : Env → Env) : List D → SemS
  | [] => fun ρ => .nx (u ρ)
  | d :: ds => fun ρ => match tg d ρ with
    | none => .bad
    | some ρ1 => (b ρ1).turn u (forL tg b u ds)
def sFor (g : SemL) (itm : List D → Option (List D)) (tg : Tgt) (b : SemS) : SemS := fun ρ => (g ρ).sbind fun rs ρ1 => match itm (rs.map (val ρ1)) with
  | none => .bad
  | some items => if rs.all noAt = true then forL tg b id items ρ1 else if rs.all (ownAt ρ1) = true then forL tg b (unlk ρ1) items (lock rs ρ1) else .bad
section
variable {ρ0 ρ : Env} {rs : List R}
theorem lock_get {i : Nat} : (lock rs ρ)[i]? = (ρ[i]?).map fun sl => if rs.any (isAt i) = true then lk1 sl else sl := by
  unfold lock; rw [List.getElem?_mapIdx]
theorem lock_rel {i : Nat} {a b : Sl} (h : ρ[i]? = some a) (h' : (lock rs ρ)[i]? = some b) : b = a ∨ b = lk1 a := by
  rw [lock_get, h] at h'
  have this : (if rs.any (isAt i) = true then lk1 a else a) = b := Option.some.inj h'
  by_cases q : rs.any (isAt i) = true
  · rw [if_pos q] at this; exact .inr this.symm
  · rw [if_neg q] at this; exact .inl this.symm
theorem lk1_own (a : Sl) : (lk1 a).own = a.own := by cases a <;> rfl
theorem lk1_there (a : Sl) : (lk1 a).there = a.there := by cases a <;> rfl
theorem lk1_lent {a : Sl} (h : a.lent = true) : (lk1 a).lent = true := by cases a <;> first | rfl | cases h
theorem lk1_get (a : Sl) : (lk1 a).get = a.get := by cases a <;> rfl
theorem lock_len : (lock rs ρ).length = ρ.length := by unfold lock; simp
theorem lock_at {i : Nat} {a : Sl} (h : ρ[i]? = some a) : ∃ b, (lock rs ρ)[i]? = some b ∧ (b = a ∨ b = lk1 a) := by
  have hl : i < (lock rs ρ).length := by rw [lock_len]; exact (List.getElem?_eq_some_iff.mp h).1
  exact ⟨_, List.getElem?_eq_getElem hl, lock_rel h (List.getElem?_eq_getElem hl)⟩
theorem of_lock {i : Nat} {b : Sl} (h : (lock rs ρ)[i]? = some b) : ∃ a, ρ[i]? = some a ∧ (b = a ∨ b = lk1 a) := by
  have hl : i < ρ.length := by rw [← lock_len (rs := rs)]; exact (List.getElem?_eq_some_iff.mp h).1
  exact ⟨_, List.getElem?_eq_getElem hl, lock_rel (List.getElem?_eq_getElem hl) h⟩
theorem unlk_get {i : Nat} {o : Sl} (h : (unlk ρ0 ρ)[i]? = some o) : ∃ a b, ρ0[i]? = some a ∧ ρ[i]? = some b ∧ o = ul1 a b := by
  unfold unlk at h
  rw [List.getElem?_zipWith] at h
  cases e1 : ρ0[i]? with
  | none => rw [e1] at h; cases h
  | some a =>
    cases e2 : ρ[i]? with
    | none => rw [e1, e2] at h; cases h
    | some b => rw [e1, e2] at h; exact ⟨a, b, rfl, rfl, (Option.some.inj h).symm⟩
theorem ul1_own (a b : Sl) : (ul1 a b).own = b.own := by cases a <;> cases b <;> rfl
theorem ul1_there (a b : Sl) : (ul1 a b).there = b.there := by cases a <;> cases b <;> rfl
variable {w : World} {K : PySem.W.Frag} {F H : Hp} {σ : St}
theorem slR_lk1 {v : V} {a : Sl} (h : slR w K F H v a) : slR w K F H v (lk1 a) := by cases a <;> exact h
theorem slR_ul1 {v : V} {a b : Sl} (h : slR w K F H v b) : slR w K F H v (ul1 a b) := by cases a <;> cases b <;> exact h
theorem StR.lock (S : StR w K F H σ ρ) : StR w K F H σ (lock rs ρ) := by
  have own : ∀ {i : Nat} {b : Sl}, (WS.lock rs ρ)[i]? = some b → b.own = true → ∃ a, ρ[i]? = some a ∧ a.own = true := fun {i b} h t => by
    obtain ⟨a, e, q⟩ := of_lock h
    refine ⟨a, e, ?_⟩
    rcases q with q | q
    · rw [← q]; exact t
    · rw [← lk1_own, ← q]; exact t
  refine ⟨S.sub, by rw [lock_len]; exact S.len, fun i b e t => ?_, fun i j si sj a ei ej ti tj vi vj => ?_⟩
  · obtain ⟨a, e1, q⟩ := of_lock e
    have ta : a.there = true := by
      rcases q with q | q
      · rw [← q]; exact t
      · rw [← lk1_there, ← q]; exact t
    obtain ⟨v, e2, x⟩ := S.slot i a e1 ta
    refine ⟨v, e2, ?_⟩
    rcases q with q | q
    · rw [q]; exact x
    · rw [q]; exact slR_lk1 x
  · obtain ⟨a1, b1, c1⟩ := own ei ti
    obtain ⟨a2, b2, c2⟩ := own ej tj
    exact S.inj i j a1 a2 a b1 b2 c1 c2 vi vj
theorem StR.unlk (S : StR w K F H σ ρ) (hl : ρ0.length = ρ.length) : StR w K F H σ (unlk ρ0 ρ) := by
  refine ⟨S.sub, by unfold WS.unlk; rw [List.length_zipWith]; have := S.len; omega, fun i o e t => ?_, fun i j si sj a ei ej ti tj vi vj => ?_⟩
  · obtain ⟨a, b, e1, e2, rfl⟩ := unlk_get e
    rw [ul1_there] at t
    obtain ⟨v, e3, x⟩ := S.slot i b e2 t
    exact ⟨v, e3, slR_ul1 x⟩
  · obtain ⟨a1, b1, _, e1, rfl⟩ := unlk_get ei
    obtain ⟨a2, b2, _, e2, rfl⟩ := unlk_get ej
    rw [ul1_own] at ti tj
    exact S.inj i j b1 b2 a e1 e2 ti tj vi vj
theorem own_lock {b : Addr} (h : ownS σ ρ b) : ownS σ (lock rs ρ) b := by
  obtain ⟨i, a, e, t, q⟩ := h
  obtain ⟨b, e1, r⟩ := lock_at (rs := rs) e
  refine ⟨i, b, e1, ?_, q⟩
  rcases r with r | r
  · rw [r]; exact t
  · rw [r, lk1_own]; exact t
theorem own_of_lock {b : Addr} (h : ownS σ (lock rs ρ) b) : ownS σ ρ b := by
  obtain ⟨i, s, e, t, q⟩ := h
  obtain ⟨a, e1, r⟩ := of_lock e
  refine ⟨i, a, e1, ?_, q⟩
  rcases r with r | r
  · rw [← r]; exact t
  · rw [← lk1_own, ← r]; exact t
theorem own_of_unlk {b : Addr} (h : ownS σ (unlk ρ0 ρ) b) : ownS σ ρ b := by
  obtain ⟨i, s, e, t, q⟩ := h
  obtain ⟨a, b, _, e2, rfl⟩ := unlk_get e
  rw [ul1_own] at t
  exact ⟨i, b, e2, t, q⟩
/-- from the locked env to the end's, unlocked -/
theorem lk_unlk (l : LkT (lock rs ρ0) ρ) : LkT ρ0 (unlk ρ0 ρ) := by
  have hl : ρ.length = ρ0.length := by rw [l.1, lock_len]
  refine ⟨by unfold unlk; rw [List.length_zipWith]; omega, fun i a o h h' => ?_⟩
  obtain ⟨a', b, e1, e2, rfl⟩ := unlk_get h'
  rw [h] at e1; cases e1
  obtain ⟨m, em, q⟩ := lock_at (rs := rs) h
  have t := l.2 i m b em e2
  rcases q with rfl | rfl
  · cases m <;> cases b <;> simp_all [slT, ul1]
  · cases a <;> cases b <;> simp_all [slT, ul1, lk1]
end

section
variable {X : Cx} {c : XC} {W : WX} {pos : Pos}
theorem okT_forL {tg : Tgt} {b : SemS} {ρ0 : Env} {u : Env → Env} {rel : Env → Prop} (ht : ∀ d ρ ρ', tg d ρ = some ρ' → LkT ρ ρ') (hb : okT b) (hr : ∀ ρ ρ', rel ρ → LkT ρ ρ' → rel ρ') (hu : ∀ ρ, rel ρ → LkT ρ0 (u ρ)) :
    ∀ (ds : List D) (ρ : Env), rel ρ → LkS ρ0 (forL tg b u ds ρ)
  | [], ρ, h => hu ρ h
  | d :: ds, ρ, h => by
    unfold forL
    cases e : tg d ρ with
    | none => trivial
    | some ρ1 =>
      have h1 := hr _ _ h (ht _ _ _ e)
      have a := hb ρ1
      show LkS ρ0 ((b ρ1).turn u (forL tg b u ds))
      cases e2 : b ρ1 <;> rw [e2] at a <;> first
        | trivial
        | exact hu _ (hr _ _ h1 a)
        | exact okT_forL ht hb hr hu ds _ (hr _ _ h1 a)
theorem okT_for {g : SemL} {itm : List D → Option (List D)} {tg : Tgt} {b : SemS} (hg : okE g) (ht : ∀ d ρ ρ', tg d ρ = some ρ' → LkT ρ ρ') (hb : okT b) : okT (sFor g itm tg b) := okT_sbind hg fun rs ρ1 => by
  show LkS ρ1 (match itm (rs.map (val ρ1)) with | none => .bad | some items => if rs.all noAt = true then forL tg b id items ρ1 else if rs.all (ownAt ρ1) = true then forL tg b (unlk ρ1) items (lock rs ρ1) else .bad)
  cases itm (rs.map (val ρ1)) with
  | none => trivial
  | some items =>
    show LkS ρ1 (if rs.all noAt = true then forL tg b id items ρ1 else if rs.all (ownAt ρ1) = true then forL tg b (unlk ρ1) items (lock rs ρ1) else .bad)
    by_cases h1 : rs.all noAt = true
    · rw [if_pos h1]
      exact okT_forL (rel := fun ρ => LkT ρ1 ρ) ht hb (fun ρ ρ' a b => LkT.trans a b) (fun ρ a => a) items ρ1 (LkT.refl ρ1)
    · rw [if_neg h1]
      by_cases h2 : rs.all (ownAt ρ1) = true
      · rw [if_pos h2]
        exact okT_forL (rel := fun ρ => LkT (lock rs ρ1) ρ) ht hb (fun ρ ρ' a b => LkT.trans a b) (fun ρ a => lk_unlk a) items _ (LkT.refl _)
      · rw [if_neg h2]; trivial
/-- the turns, from a state on -/
theorem for_turns {tg : Tgt} {is : List Nat} {b : SemS} {body : List Stmt} {J : It} {vs : List V} {rs : List R} {ds items : List D} {D : Ends} {u : Env → Env} {ρ0 : Env}
    (ht : ∀ d ρ ρ', tg d ρ = some ρ' → LkT ρ ρ') (hb : SSs X c W body b) {F0 : Hp} (wk : Wk X.w X.K F0 J vs ds items)
    (hu : ∀ (F H : Hp) (σ : St) (ρ : Env), LkT ρ0 ρ → StR X.w X.K F H σ ρ → StR X.w X.K F H σ (u ρ) ∧ ∀ b, ownS σ (u ρ) b → ownS σ ρ b) (huA : ∀ (ρ : Env) (i : Nat) sl, LkT ρ0 ρ → ρ[i]? = some sl → sl.there = true → ∃ sl', (u ρ)[i]? = some sl' ∧ sl'.there = true)
    {F H : Hp} {σ : St} {ρ : Env} (sF : Sub F0 F) (S : StR X.w X.K F H σ ρ) (l : LkT ρ0 ρ) (e : ERL X.w X.K F H σ ρ vs rs) (hh : held ρ rs) (hv : rs.map (val ρ) = ds) (h : PostS X.w X.K c W σ F H ρ (forL tg b u items ρ) D) :
    ∃ Wt : Nat → Nat → St → Hp → Prop, (∃ m, Wt 0 m σ H) ∧ ∀ i m σ H, Wt i m σ H →
      (J.stop i H ∧ D.nx σ H) ∨ (J.go i H ∧ ∃ N : St → Hp → Prop, (∀ σ' H', N σ' H' → ∃ m', m' < m ∧ Wt (i + 1) m' σ' H') ∧ ∀ x H', J.yld i H x H' → TGD X.w X.K tg is x σ H' fun σ2 H2 => TSD X.w X.K c W b { D with nx := N, ct := N, bk := D.nx } σ2 H2) := by
  refine ⟨fun i m σ H => m = items.length - i ∧ i ≤ items.length ∧ ∃ F ρ, Sub F0 F ∧ StR X.w X.K F H σ ρ ∧ LkT ρ0 ρ ∧ ERL X.w X.K F H σ ρ vs rs ∧ held ρ rs ∧ rs.map (val ρ) = ds ∧ PostS X.w X.K c W σ F H ρ (forL tg b u (items.drop i) ρ) D, ⟨items.length, rfl, Nat.zero_le _, F, ρ, sF, S, l, e, hh, hv, h⟩, ?_⟩
  rintro i m σ H ⟨rfl, hi, F, ρ, sF, S, l, e, hh, hv, h⟩
  obtain ⟨w1, w2, w3⟩ := wk F H sF S.sub (by rw [← hv]; exact e.tops S)
  by_cases hlt : i < items.length
  · refine .inr ⟨w1 i hlt, fun σ' H' => i + 1 ≤ items.length ∧ ∃ F ρ, Sub F0 F ∧ StR X.w X.K F H' σ' ρ ∧ LkT ρ0 ρ ∧ ERL X.w X.K F H' σ' ρ vs rs ∧ held ρ rs ∧ rs.map (val ρ) = ds ∧ PostS X.w X.K c W σ' F H' ρ (forL tg b u (items.drop (i + 1)) ρ) D, fun σ' H' z => ⟨items.length - (i + 1), by omega, rfl, z.1, z.2⟩, fun x H' y => ?_⟩
    have hx : items[i]? = some items[i] := List.getElem?_eq_getElem hlt
    have y := w3 i x H' _ y hx
    rw [List.drop_eq_getElem_cons hlt] at h
    unfold forL at h
    obtain ⟨F1, S1, r1, f1⟩ := y.st S
    cases et : tg items[i] ρ with
    | none => rw [et] at h; exact False.elim h
    | some ρ1 =>
      rw [et] at h
      have h : PostS X.w X.K c W σ F H ρ ((b ρ1).turn u (forL tg b u (items.drop (i + 1)))) D := h
      refine ⟨F1, ρ, ρ1, _, S1, r1, et, fun σ2 S2 ls2 o2 _ _ => ?_⟩
      have l2 : LkT ρ ρ1 := ht _ _ _ et
      have fr2 : Fr F H (ownS σ ρ) F1 H' (ownS σ2 ρ1) := f1.imp o2
      refine ⟨F1, ρ1, S2, ?_⟩
      have ob := hb.ok ρ1
      have next : ∀ (ρ2 : Env), LkT ρ1 ρ2 → PostS X.w X.K c W σ F H ρ (forL tg b u (items.drop (i + 1)) ρ2) D → ∀ σ' F' H'', StR X.w X.K F' H'' σ' ρ2 → LS σ2 σ' ρ1 → Fr F1 H' (ownS σ2 ρ1) F' H'' (ownS σ' ρ2) → i + 1 ≤ items.length ∧ ∃ F ρ, Sub F0 F ∧ StR X.w X.K F H'' σ' ρ ∧ LkT ρ0 ρ ∧ ERL X.w X.K F H'' σ' ρ vs rs ∧ held ρ rs ∧ rs.map (val ρ) = ds ∧ PostS X.w X.K c W σ' F H'' ρ (forL tg b u (items.drop (i + 1)) ρ) D :=
        fun ρ2 l3 h σ' F' H'' S' ls' f' => by
          have ls := ls2.trans l2 ls'
          have lt := LkT.trans l2 l3
          have fr := fr2.trans f' fun _ z => z
          exact ⟨hlt, F', ρ2, sF.trans fr.mono, S', LkT.trans l lt, ERL.turn S fr (fun _ z => z) ls lt hh e, hh.later lt, (hh.val lt).trans hv, PostS.step (out := forL tg b u (items.drop (i + 1)) ρ2) fr (fun _ z => z) ls lt h⟩
      cases eb : b ρ1 with
      | bad => rw [eb] at h; exact h
      | nx ρ2 => rw [eb] at h ob; exact fun σ' F' H'' S' ls' f' => next ρ2 ob h σ' F' H'' S' ls' f'
      | ct ρ2 => rw [eb] at h ob; exact fun σ' F' H'' S' ls' f' => next ρ2 ob h σ' F' H'' S' ls' f'
      | bk ρ2 =>
        rw [eb] at h ob
        intro σ' F' H'' S' ls' f'
        have lt : LkT ρ0 ρ2 := LkT.trans l (LkT.trans l2 ob)
        obtain ⟨Su, ou⟩ := hu F' H'' σ' ρ2 lt S'
        exact h σ' F' H'' Su (ls2.trans l2 ls') ((fr2.trans f' fun _ z => z).imp ou)
      | exn x ρ2 =>
        rw [eb] at h ob
        intro cls d σ' F' H'' S' ls' x' f'
        have lt : LkT ρ0 ρ2 := LkT.trans l (LkT.trans l2 ob)
        obtain ⟨Su, ou⟩ := hu F' H'' σ' ρ2 lt S'
        exact h cls d σ' F' H'' Su (ls2.trans l2 ls') x' ((fr2.trans f' fun _ z => z).imp ou)
      | rt r ρ2 =>
        rw [eb] at h ob
        intro v σ' F' H'' S' ls' e' f'
        have lt : LkT ρ0 ρ2 := LkT.trans l (LkT.trans l2 ob)
        obtain ⟨Su, ou⟩ := hu F' H'' σ' ρ2 lt S'
        refine h v σ' F' H'' Su (ls2.trans l2 ls') ?_ ((fr2.trans f' fun _ z => z).imp fun b z => ?_)
        · cases r with
          | fro d => exact e'
          | tmp d => obtain ⟨a, z, n, q, no⟩ := e'; exact ⟨a, z, n, q, fun z => no (ou a z)⟩
          | «at» j =>
            obtain ⟨e1, sl, e2, t⟩ := e'
            obtain ⟨sl', e3, t'⟩ := huA ρ2 j sl lt e2 t
            exact ⟨e1, sl', e3, t'⟩
        · rcases z with z | z
          · exact .inl (ou b z)
          · exact .inr z
  · have hi' : i = items.length := by omega
    subst hi'
    rw [List.drop_length] at h
    obtain ⟨Su, ou⟩ := hu F H σ ρ l S
    exact .inl ⟨w2, h σ F H Su (fun _ _ _ _ => rfl) (Fr.refl.imp ou)⟩
theorem ERL.lock {w : World} {K : PySem.W.Frag} {F H : Hp} {σ : St} {ρ : Env} {rs0 : List R} : ∀ {vs : List V} {rs : List R}, ERL w K F H σ ρ vs rs → ERL w K F H σ (WS.lock rs0 ρ) vs rs
  | _, _, .nil => .nil
  | _, _, .cons (r := r) e n t => by
    refine .cons ?_ n (ERL.lock t)
    cases r with
    | fro d => exact e
    | tmp d => obtain ⟨a, z, n, q, no⟩ := e; exact ⟨a, z, n, q, fun z => no (own_of_lock z)⟩
    | «at» i =>
      obtain ⟨e1, sl, e2, t⟩ := e
      obtain ⟨b, e3, q⟩ := lock_at (rs := rs0) e2
      refine ⟨e1, b, e3, ?_⟩
      rcases q with q | q
      · rw [q]; exact t
      · rw [q, lk1_there]; exact t
theorem ss_for {target iter : Expr} {body : List Stmt} {g : SemL} {itm : List D → Option (List D)} {tg : Tgt} {is : List Nat} {b : SemS} (hp : PassesOwn (model X.prog X.w) X.A X.env X.xe) (hc : X.calm = true) (hi : SI X c W target iter g itm) (ht : SG X target tg is) (hb : SSs X c W body b) (hs : ∀ x, foldedSetIterable iter X.env x = pure x) :
    SS X c W (.For target iter body [] pos) (sFor g itm tg b) := by
  obtain ⟨pg, hl, _⟩ := ht
  refine ⟨PS.imp (ps_for hp hc hi.pi pg hb.ps hs) fun D σ H ⟨F, ρ, S, q⟩ => ?_, okT_for hi.ok hl hb.ok⟩
  refine ⟨F, ρ, S, ?_⟩
  unfold sFor at q
  have lg := hi.ok ρ
  cases e : g ρ with
  | bad => rw [e] at q; exact q
  | exn x ρ1 => rw [e] at q; exact fun cls d F' H' s x f => q cls d σ F' H' s (fun _ _ _ _ => rfl) x f
  | ok rs ρ1 =>
    rw [e] at q lg
    have q : PostS X.w X.K c W σ F H ρ (match itm (rs.map (val ρ1)) with | none => .bad | some items => if rs.all noAt = true then forL tg b id items ρ1 else if rs.all (ownAt ρ1) = true then forL tg b (unlk ρ1) items (lock rs ρ1) else .bad) D := q
    cases ei : itm (rs.map (val ρ1)) with
    | none => rw [ei] at q; exact False.elim q
    | some items =>
      rw [ei] at q
      refine ⟨items, ei, fun vs F1 H1 S1 r1 f1 J wk => ?_⟩
      have q : PostS X.w X.K c W σ F H ρ (if rs.all noAt = true then forL tg b id items ρ1 else if rs.all (ownAt ρ1) = true then forL tg b (unlk ρ1) items (lock rs ρ1) else .bad) D := q
      by_cases h1 : rs.all noAt = true
      · rw [if_pos h1] at q
        refine for_turns (u := id) (ρ0 := ρ1) hl hb wk (fun F H σ ρ l S => ⟨S, fun _ z => z⟩) (fun ρ i sl _ e t => ⟨sl, e, t⟩) (Sub.refl _) S1 (LkT.refl ρ1) r1 (fun i hi => ?_) rfl (PostS.step (out := forL tg b id items ρ1) f1 (fun b z => .inl z) (fun _ _ _ _ => rfl) (Lk.slT lg) q)
        have := List.all_eq_true.mp h1 _ hi
        cases this
      · rw [if_neg h1] at q
        by_cases h2 : rs.all (ownAt ρ1) = true
        rotate_left
        · rw [if_neg h2] at q; exact False.elim q
        rw [if_pos h2] at q
        have hv : rs.map (val (lock rs ρ1)) = rs.map (val ρ1) := List.map_congr_left fun r hr => by
          cases r with
          | fro d => rfl
          | tmp d => rfl
          | «at» i =>
            show ((lock rs ρ1).getD i .un).get = (ρ1.getD i .un).get
            cases e : ρ1[i]? with
            | none =>
              have e2 : (lock rs ρ1)[i]? = none := by rw [lock_get, e]; rfl
              rw [List.getD_eq_getElem?_getD, List.getD_eq_getElem?_getD, e, e2]
            | some a =>
              obtain ⟨b, e2, z⟩ := lock_at (rs := rs) e
              rw [getD_of e, getD_of e2]
              rcases z with z | z
              · rw [z]
              · rw [z, lk1_get]
        have lsl : ∀ σ', LS σ σ' (lock rs ρ1) → LS σ σ' ρ := fun σ' h => by
          have h2 : LS σ σ' ρ1 := fun i sl e t => by
            obtain ⟨b, e2, z⟩ := lock_at (rs := rs) e
            refine h i b e2 ?_
            rcases z with z | z
            · rw [z]; exact t
            · rw [z]; exact lk1_lent t
          exact LS.trans (fun _ _ _ _ => rfl) (Lk.slT lg) h2
        have q2 : PostS X.w X.K c W σ F1 H1 (lock rs ρ1) (forL tg b (unlk ρ1) items (lock rs ρ1)) D := by
          have tr : ∀ {F' H' : Hp} {o2 : Addr → Prop}, Fr F1 H1 (ownS σ (lock rs ρ1)) F' H' o2 → Fr F H (ownS σ ρ) F' H' o2 := fun f => f1.trans f fun b z => .inl (own_of_lock z)
          revert q
          cases forL tg b (unlk ρ1) items (lock rs ρ1) with
          | bad => exact fun q => q
          | nx ρ' => exact fun q σ' F' H' s l f => q σ' F' H' s (lsl _ l) (tr f)
          | bk ρ' => exact fun q σ' F' H' s l f => q σ' F' H' s (lsl _ l) (tr f)
          | ct ρ' => exact fun q σ' F' H' s l f => q σ' F' H' s (lsl _ l) (tr f)
          | rt r ρ' => exact fun q v σ' F' H' s l e f => q v σ' F' H' s (lsl _ l) e (tr f)
          | exn x ρ' => exact fun q cls d σ' F' H' s l e f => q cls d σ' F' H' s (lsl _ l) e (tr f)
        refine for_turns (u := unlk ρ1) (ρ0 := lock rs ρ1) hl hb (by rw [← hv] at wk; exact wk) (fun F H σ ρ l S => ⟨S.unlk (by rw [l.1, lock_len]), fun _ z => own_of_unlk z⟩) (fun ρ i sl l e t => ?_) (Sub.refl _) S1.lock (LkT.refl _) r1.lock (fun i hi => ?_) rfl q2
        · have hl : i < ρ1.length := by rw [← lock_len (rs := rs), ← l.1]; exact (List.getElem?_eq_some_iff.mp e).1
          refine ⟨ul1 ρ1[i] sl, ?_, by rw [ul1_there]; exact t⟩
          unfold unlk
          rw [List.getElem?_zipWith, List.getElem?_eq_getElem hl, e]
        · have o := List.all_eq_true.mp h2 _ hi
          have o : (ρ1.getD i .un).own = true := o
          cases ea : ρ1[i]? with
          | none => rw [List.getD_eq_getElem?_getD, ea] at o; cases o
          | some a =>
            rw [getD_of ea] at o
            have any : rs.any (isAt i) = true := List.any_eq_true.mpr ⟨_, hi, by show (i == i) = true; simp⟩
            rw [lock_get, ea]
            simp only [Option.map_some, any, if_true]
            cases a <;> first | (cases o; done) | exact ⟨_, rfl⟩
end
end WS
/-! Wj: list comprehensions. -/
namespace WS
open PySem L2

def wipeE (ρ : Env) : List Nat → Env
  | [] => ρ
  | i :: is => (wipeE ρ is).set i .un
/-- the comprehension's own slots, as they were -/
def back (ρ : Env) : List Nat → Env → Env
  | [], ρ' => ρ'
  | i :: is, ρ' => (back ρ is ρ').set i (ρ.getD i .un)
theorem wipeE_len (ρ : Env) : ∀ is : List Nat, (wipeE ρ is).length = ρ.length
  | [] => rfl
  | i :: is => by unfold wipeE; rw [List.length_set, wipeE_len ρ is]
theorem back_len (ρ ρ' : Env) : ∀ is : List Nat, (back ρ is ρ').length = ρ'.length
  | [] => rfl
  | i :: is => by unfold back; rw [List.length_set, back_len ρ ρ' is]
theorem wipeE_out {ρ : Env} {j : Nat} : ∀ {is : List Nat}, j ∉ is → (wipeE ρ is)[j]? = ρ[j]?
  | [], _ => rfl
  | i :: is, h => by
    unfold wipeE
    rw [List.getElem?_set_ne fun e => h (by rw [e]; exact List.mem_cons_self)]
    exact wipeE_out fun m => h (List.mem_cons_of_mem _ m)
theorem wipeE_in {ρ : Env} {j : Nat} {sl : Sl} : ∀ {is : List Nat}, j ∈ is → (wipeE ρ is)[j]? = some sl → sl = .un
  | i :: is, h, e => by
    unfold wipeE at e
    by_cases hj : i = j
    · subst hj
      have hl : i < (wipeE ρ is).length := by have := (List.getElem?_eq_some_iff.mp e).1; simpa using this
      rw [List.getElem?_set_self hl] at e
      exact (Option.some.inj e).symm
    · rw [List.getElem?_set_ne hj] at e
      exact wipeE_in ((List.mem_cons.mp h).resolve_left fun z => hj z.symm) e
theorem back_out {ρ ρ' : Env} {j : Nat} : ∀ {is : List Nat}, j ∉ is → (back ρ is ρ')[j]? = ρ'[j]?
  | [], _ => rfl
  | i :: is, h => by
    unfold back
    rw [List.getElem?_set_ne fun e => h (by rw [e]; exact List.mem_cons_self)]
    exact back_out fun m => h (List.mem_cons_of_mem _ m)
theorem back_in {ρ ρ' : Env} {j : Nat} {sl : Sl} : ∀ {is : List Nat}, j ∈ is → (back ρ is ρ')[j]? = some sl → sl = ρ.getD j .un
  | i :: is, h, e => by
    unfold back at e
    by_cases hj : i = j
    · subst hj
      have hl : i < (back ρ is ρ').length := by have := (List.getElem?_eq_some_iff.mp e).1; simpa using this
      rw [List.getElem?_set_self hl] at e
      exact (Option.some.inj e).symm
    · rw [List.getElem?_set_ne hj] at e
      exact back_in ((List.mem_cons.mp h).resolve_left fun z => hj z.symm) e
theorem wipe_in {σ : St} {j : Nat} : ∀ {is : List Nat}, j ∈ is → j < σ.length → (wipe σ is)[j]? = some none
  | i :: is, h, hl => by
    unfold wipe
    by_cases hj : i = j
    · subst hj
      rw [List.getElem?_set_self (by rw [wipe_length]; exact hl)]
    · rw [List.getElem?_set_ne hj]
      exact wipe_in ((List.mem_cons.mp h).resolve_left fun z => hj z.symm) hl
/-- a stretch that must not raise -/
def Out.bindN {α β : Type} (o : Out α) (k : α → Env → Out β) : Out β :=
  match o with
  | .ok a ρ => k a ρ
  | _ => .bad
def compL (tg : Tgt) (is : List Nat) (tt : SemT) (te : SemE) : List D → List D → Env → Out (List D)
  | [], acc, ρ => .ok acc ρ
  | d :: ds, acc, ρ => match tg d (wipeE ρ is) with
    | none => .bad
    | some ρ1 => (tt ρ1).bindN fun b ρ2 => if b = true then (te ρ2).bindN fun r ρ3 => (frz ρ3 r).bindN fun y ρ4 => if lim (acc.length + 1) = true then compL tg is tt te ds (acc ++ [y]) (back ρ is ρ4) else .bad
      else compL tg is tt te ds acc (back ρ is ρ2)
def plainAt (ρ : Env) (i : Nat) : Bool := !(ρ.getD i .un).own && !(ρ.getD i .un).lent
def compE (u : Env → Env) (o : Out (List D)) : Out R :=
  match o with
  | .ok acc ρ => .ok (.tmp (.lst acc)) (u ρ)
  | _ => .bad
def eComp (g : SemL) (itm : List D → Option (List D)) (tg : Tgt) (is : List Nat) (tt : SemT) (te : SemE) : SemE := fun ρ => (g ρ).bind fun rs ρ1 => match itm (rs.map (val ρ1)) with
  | none => .bad
  | some items => if is.all (plainAt ρ1) = true then
      (if rs.all noAt = true then compE id (compL tg is tt te items [] ρ1) else if rs.all (ownAt ρ1) = true then compE (unlk ρ1) (compL tg is tt te items [] (lock rs ρ1)) else .bad) else .bad
theorem plain_slE {a : Sl} (h : a.own = false) (h2 : a.lent = false) : ∀ b, b = a → slE a b := fun b e => by rw [e]; exact slE.refl a
section
variable {tg : Tgt} {is : List Nat} {tt : SemT} {te : SemE}
theorem lk_back {ρ ρ1 ρ2 : Env} (ht : ∀ j, j ∉ is → ρ1[j]? = (wipeE ρ is)[j]?) (hl : ρ1.length = ρ.length) (l : LkE ρ1 ρ2) : LkE ρ (back ρ is ρ2) := by
  refine ⟨by rw [back_len, l.1, hl], fun j a b h h' => ?_⟩
  by_cases hj : j ∈ is
  · rw [back_in hj h', getD_of h]
    exact slE.refl a
  · rw [back_out hj] at h'
    exact l.2 j a b (by rw [ht j hj, wipeE_out hj]; exact h) h'
theorem ok_compL (ho : ∀ d ρ ρ', tg d ρ = some ρ' → ∀ j, j ∉ is → ρ'[j]? = ρ[j]?) (hk : ∀ d ρ ρ', tg d ρ = some ρ' → LkT ρ ρ') (h1 : okE tt) (h2 : okE te) : ∀ (ds acc : List D) (ρ ρ' : Env) (acc' : List D), compL tg is tt te ds acc ρ = .ok acc' ρ' → LkE ρ ρ'
  | [], acc, ρ, ρ', acc', h => by cases h; exact LkE.refl ρ
  | d :: ds, acc, ρ, ρ', acc', h => by
    unfold compL at h
    cases e : tg d (wipeE ρ is) with
    | none => rw [e] at h; cases h
    | some ρ1 =>
      rw [e] at h
      dsimp only at h
      have hl : ρ1.length = ρ.length := by rw [(hk _ _ _ e).1, wipeE_len]
      have ho1 := ho _ _ _ e
      have l1 := h1 ρ1
      cases e1 : tt ρ1 with
      | bad => rw [e1] at h; cases h
      | exn x ρ2 => rw [e1] at h; cases h
      | ok b ρ2 =>
        rw [e1] at h l1
        simp only [Out.bindN] at h
        cases b with
        | false =>
          simp only [Bool.false_eq_true, if_false] at h
          exact LkE.trans (lk_back ho1 hl l1) (ok_compL ho hk h1 h2 ds acc _ ρ' acc' h)
        | true =>
          simp only [if_true] at h
          have l2 := h2 ρ2
          cases e2 : te ρ2 with
          | bad => rw [e2] at h; cases h
          | exn x ρ3 => rw [e2] at h; cases h
          | ok r ρ3 =>
            rw [e2] at h l2
            simp only at h
            have l3 := okE_frz r ρ3
            dsimp only at l3
            cases e3 : frz ρ3 r with
            | bad => rw [e3] at h; cases h
            | exn x ρ4 => rw [e3] at h; cases h
            | ok y ρ4 =>
              rw [e3] at h l3
              simp only at h
              split at h
              · exact LkE.trans (lk_back ho1 hl (LkE.trans l1 (LkE.trans l2 l3))) (ok_compL ho hk h1 h2 ds _ _ ρ' acc' h)
              · cases h
theorem lkE_unlk {rs : List R} {ρ0 ρ : Env} (l : LkE (lock rs ρ0) ρ) : LkE ρ0 (unlk ρ0 ρ) := by
  have hl : ρ.length = ρ0.length := by rw [l.1, lock_len]
  refine ⟨by unfold unlk; rw [List.length_zipWith]; omega, fun i a o h h' => ?_⟩
  obtain ⟨a', b, e1, e2, rfl⟩ := unlk_get h'
  rw [h] at e1; cases e1
  obtain ⟨m, em, q⟩ := lock_at (rs := rs) h
  have t := l.2 i m b em e2
  rcases q with rfl | rfl
  · cases m <;> cases b <;> simp_all [slE, ul1]
  · cases a <;> cases b <;> simp_all [slE, ul1, lk1]
theorem okE_comp {g : SemL} {itm : List D → Option (List D)} (hg : okE g) (ho : ∀ d ρ ρ', tg d ρ = some ρ' → ∀ j, j ∉ is → ρ'[j]? = ρ[j]?) (hk : ∀ d ρ ρ', tg d ρ = some ρ' → LkT ρ ρ') (h1 : okE tt) (h2 : okE te) : okE (eComp g itm tg is tt te) := okE_bind hg fun rs ρ1 => by
  cases itm (rs.map (val ρ1)) with
  | none => trivial
  | some items =>
    dsimp only
    by_cases p : is.all (plainAt ρ1) = true
    rotate_left
    · rw [if_neg p]; trivial
    rw [if_pos p]
    by_cases q1 : rs.all noAt = true
    · rw [if_pos q1]
      cases e : compL tg is tt te items [] ρ1 with
      | bad => trivial
      | exn x ρ => trivial
      | ok acc ρ => exact ok_compL ho hk h1 h2 _ _ _ _ _ e
    · rw [if_neg q1]
      by_cases q2 : rs.all (ownAt ρ1) = true
      · rw [if_pos q2]
        cases e : compL tg is tt te items [] (lock rs ρ1) with
        | bad => trivial
        | exn x ρ => trivial
        | ok acc ρ => exact lkE_unlk (ok_compL ho hk h1 h2 _ _ _ _ _ e)
      · rw [if_neg q2]; trivial
end
section
variable {w : World} {K : PySem.W.Frag} {F H : Hp} {σ : St} {ρ : Env}
theorem StR.wiped (S : StR w K F H σ ρ) (is : List Nat) : StR w K F H (wipe σ is) (wipeE ρ is) := by
  have key : ∀ (j : Nat) sl, (wipeE ρ is)[j]? = some sl → sl ≠ .un → ρ[j]? = some sl ∧ (wipe σ is)[j]? = σ[j]? := fun j sl e n => by
    by_cases hj : j ∈ is
    · exact absurd (wipeE_in hj e) n
    · rw [wipeE_out hj] at e
      exact ⟨e, wipe_out hj⟩
  have nu : ∀ {sl : Sl}, sl.own = true → sl ≠ .un := fun {sl} h z => by subst z; cases h
  refine ⟨S.sub, by rw [wipe_length, wipeE_len]; exact S.len, fun j sl e t => ?_, fun j k sj sk a ej ek tj tk vj vk => ?_⟩
  · obtain ⟨a, b⟩ := key j sl e (by rintro rfl; cases t)
    rw [b]; exact S.slot j sl a t
  · obtain ⟨a1, b1⟩ := key j sj ej (nu tj)
    obtain ⟨a2, b2⟩ := key k sk ek (nu tk)
    rw [b1] at vj
    rw [b2] at vk
    exact S.inj j k sj sk a a1 a2 tj tk vj vk
theorem own_wiped {is : List Nat} {b : Addr} (h : ownS (wipe σ is) (wipeE ρ is) b) : ownS σ ρ b := by
  obtain ⟨j, sl, e, t, q⟩ := h
  by_cases hj : j ∈ is
  · rw [wipeE_in hj e] at t; cases t
  · rw [wipeE_out hj] at e
    rw [wipe_out hj] at q
    exact ⟨j, sl, e, t, q⟩
/-- behind a turn's inner part: the outer slots again -/
theorem StR.backed {F4 H4 : Hp} {σ2 : St} {ρ4 : Env} {is : List Nat} (S : StR w K F H σ ρ) (S4 : StR w K F4 H4 σ2 ρ4) (m : Sub F F4) (hs : ∀ j, j ∉ is → σ2[j]? = (wipe σ is)[j]?) (hl : ρ4.length = ρ.length) (hp : ∀ i ∈ is, (ρ.getD i .un).own = false) : StR w K F4 H4 σ (back ρ is ρ4) := by
  have key : ∀ (j : Nat) sl, (back ρ is ρ4)[j]? = some sl → (j ∈ is ∧ sl = ρ.getD j .un) ∨ (j ∉ is ∧ ρ4[j]? = some sl ∧ σ2[j]? = σ[j]?) := fun j sl e => by
    by_cases hj : j ∈ is
    · exact .inl ⟨hj, back_in hj e⟩
    · rw [back_out hj] at e
      exact .inr ⟨hj, e, by rw [hs j hj, wipe_out hj]⟩
  have ow : ∀ (j : Nat) sl, (back ρ is ρ4)[j]? = some sl → sl.own = true → ρ4[j]? = some sl ∧ σ2[j]? = σ[j]? := fun j sl e t => by
    rcases key j sl e with ⟨a, b⟩ | ⟨_, a, b⟩
    · rw [b, hp j a] at t; cases t
    · exact ⟨a, b⟩
  refine ⟨S4.sub, by rw [back_len, hl]; exact S.len, fun j sl e t => ?_, fun j k sj sk a ej ek tj tk vj vk => ?_⟩
  · rcases key j sl e with ⟨a, b⟩ | ⟨_, a, b⟩
    · have e0 : ρ[j]? = some sl := by
        rw [List.getD_eq_getElem?_getD] at b
        cases q : ρ[j]? with
        | none => rw [q] at b; rw [b] at t; cases t
        | some s => rw [q] at b; rw [b]; rfl
      obtain ⟨v, e1, x⟩ := S.slot j sl e0 t
      refine ⟨v, e1, ?_⟩
      have no := hp j a
      rw [← b] at no
      cases sl with
      | un => trivial
      | fz d => exact Rep.mono m x
      | lf d => exact Rep.mono m x
      | _ => cases no
    · rw [← b]; exact S4.slot j sl a t
  · obtain ⟨a1, b1⟩ := ow j sj ej tj
    obtain ⟨a2, b2⟩ := ow k sk ek tk
    rw [← b1] at vj
    rw [← b2] at vk
    exact S4.inj j k sj sk a a1 a2 tj tk vj vk
theorem own_backed {σ2 : St} {ρ4 : Env} {is : List Nat} {b : Addr} (hs : ∀ j, j ∉ is → σ2[j]? = (wipe σ is)[j]?) (hp : ∀ i ∈ is, (ρ.getD i .un).own = false) (h : ownS σ (back ρ is ρ4) b) : ownS σ2 ρ4 b := by
  obtain ⟨j, sl, e, t, q⟩ := h
  by_cases hj : j ∈ is
  · rw [back_in hj e, hp j hj] at t; cases t
  · rw [back_out hj] at e
    exact ⟨j, sl, e, t, by rw [hs j hj, wipe_out hj]; exact q⟩
/-- the new list is changed: the state stands -/
theorem StR.upd {a : Addr} {o : HO} (S : StR w K F H σ ρ) (nF : F a = none) (no : ¬ ownS σ ρ a) : StR w K F (upd H a o) σ ρ := by
  refine ⟨fun b u e => ?_, S.len, fun j s e t => ?_, S.inj⟩
  · rw [upd_ne (ne_of_none e nF)]; exact S.sub b u e
  · obtain ⟨v, e1, x⟩ := S.slot j s e t
    refine ⟨v, e1, ?_⟩
    have g : ∀ d, s.own = true → (∃ b, v = .ref b ∧ F b = none ∧ Own w K F H b d) → ∃ b, v = .ref b ∧ F b = none ∧ Own w K F (L2.upd H a o) b d := by
      rintro d ho ⟨b, rfl, n, q⟩
      refine ⟨b, rfl, n, q.mono (Sub.refl F) fun u h => ?_⟩
      rw [upd_ne]
      · exact h
      · rintro rfl
        exact no ⟨j, s, e, ho, e1⟩
    cases s with
    | un => trivial
    | fz d => exact x
    | lf d => exact x
    | ow d => exact g d rfl x
    | le d => exact g d rfl x
    | lk d => exact g d rfl x
end
section
variable {X : Cx} {c : XC} {W : WX} {pos : Pos}
abbrev W0 : WX := fun _ _ _ _ => False
/-- what is wanted behind the new list at L -/
def PostC (X : Cx) (σ : St) (F H : Hp) (ρ : Env) (L : Addr) (out : Out (List D)) (Q : VK) : Prop :=
  match out with
  | .ok acc ρ' => ∀ F' H' va, StR X.w X.K F' H' σ ρ' → F' L = none → H' L = some (.lst va) → RepL X.w X.K F' va acc → ¬ ownS σ ρ' L → Fr F H (fun b => ownS σ ρ b ∨ b = L) F' H' (fun b => ownS σ ρ' b ∨ b = L) → Q (.ref L) H'
  | _ => False
theorem ERL.updL {w : World} {K : PySem.W.Frag} {F H : Hp} {σ : St} {ρ : Env} {L : Addr} {o : HO} : ∀ {vs : List V} {rs : List R}, ERL w K F H σ ρ vs rs → (∀ (j : Nat) d, rs[j]? = some (R.tmp d) → vs[j]? ≠ some (.ref L)) → ERL w K F (upd H L o) σ ρ vs rs
  | _, _, .nil, _ => .nil
  | _, _, .cons (r := r) e n t, h => by
    refine .cons ?_ n (ERL.updL t fun j d hr => by simpa using h (j + 1) d (by simpa using hr))
    cases r with
    | fro d => exact e
    | «at» i => exact e
    | tmp d =>
      obtain ⟨a, z, nf, q, no⟩ := e
      have : a ≠ L := by
        rintro rfl
        exact h 0 d rfl (by rw [z]; rfl)
      exact ⟨a, z, nf, q.mono (Sub.refl F) fun u hu => by rw [upd_ne this]; exact hu, no⟩
theorem comp_turns {tg : Tgt} {is : List Nat} {tt : SemT} {te : SemE} {J : It} {vs : List V} {rs : List R} {ds items : List D} {ρ0 : Env} {qt : TT}
    (ht : ∀ d ρ ρ', tg d ρ = some ρ' → LkT ρ ρ') (ho : ∀ d ρ ρ', tg d ρ = some ρ' → ∀ j, j ∉ is → ρ'[j]? = ρ[j]?) (o1 : okE tt) (o2 : okE te)
    (hqt : ∀ σ H Q, TT' X.w X.K c W0 tt σ H Q → qt σ H Q) {F0 : Hp} (wk : Wk X.w X.K F0 J vs ds items) {L : Addr} {σ : St} {Q : VK} (hp : ∀ i ∈ is, (ρ0.getD i .un).own = false)
    {F H : Hp} {va : List V} {acc : List D} {ρ : Env} (sF : Sub F0 F) (S : StR X.w X.K F H σ ρ) (l : LkE ρ0 ρ) (e : ERL X.w X.K F H σ ρ vs rs) (hh : held ρ rs) (hv : rs.map (val ρ) = ds) (nF : F L = none) (hL : H L = some (.lst va)) (ra : RepL X.w X.K F va acc) (nL : ¬ ownS σ ρ L)
    (nT : ∀ (j : Nat) d, rs[j]? = some (R.tmp d) → vs[j]? ≠ some (.ref L)) (h : PostC X σ F H ρ L (compL tg is tt te items acc ρ) Q) :
    ∃ Wt : Nat → Nat → Hp → Prop, (∃ m, Wt 0 m H) ∧ ∀ i m H, Wt i m H →
      (J.stop i H ∧ Q (.ref L) H) ∨ (J.go i H ∧ ∃ Nx : Hp → Prop, (∀ H', Nx H' → ∃ m', m' < m ∧ Wt (i + 1) m' H') ∧ ∀ x H', J.yld i H x H' → TGD X.w X.K tg is x (wipe σ is) H' fun σ2 H2 => wipe σ2 is = wipe σ is ∧ qt σ2 H2 fun b H3 =>
        if b = true then TD X.w X.K c W0 te σ2 H3 fun y H4 => ∃ acc, H4 L = some (.lst acc) ∧ acc.length < sizeLine ∧ Nx (upd H4 L (.lst (acc ++ [y]))) else Nx H3) := by
  refine ⟨fun i m H => m = items.length - i ∧ i ≤ items.length ∧ ∃ F ρ va acc, Sub F0 F ∧ StR X.w X.K F H σ ρ ∧ LkE ρ0 ρ ∧ ERL X.w X.K F H σ ρ vs rs ∧ held ρ rs ∧ rs.map (val ρ) = ds ∧ F L = none ∧ H L = some (.lst va) ∧ RepL X.w X.K F va acc ∧ ¬ ownS σ ρ L ∧ PostC X σ F H ρ L (compL tg is tt te (items.drop i) acc ρ) Q,
    ⟨items.length, rfl, Nat.zero_le _, F, ρ, va, acc, sF, S, l, e, hh, hv, nF, hL, ra, nL, h⟩, ?_⟩
  rintro i m H ⟨rfl, hi, F, ρ, va, acc, sF, S, l, e, hh, hv, nF, hL, ra, nL, h⟩
  obtain ⟨w1, w2, w3⟩ := wk F H sF S.sub (by rw [← hv]; exact e.tops S)
  have hpρ : ∀ i ∈ is, (ρ.getD i .un).own = false := fun i hi => by
    have h0 := hp i hi
    cases q : ρ[i]? with
    | none => rw [List.getD_eq_getElem?_getD, q]; rfl
    | some s =>
      have hl : i < ρ0.length := by rw [← l.1]; exact (List.getElem?_eq_some_iff.mp q).1
      have q0 := List.getElem?_eq_getElem hl
      have r := l.2 i _ _ q0 q
      rw [getD_of q0] at h0
      rw [getD_of q]
      generalize ρ0[i] = s0 at r h0
      cases s0 <;> cases s <;> simp_all [slE, Sl.own]
  by_cases hlt : i < items.length
  · refine .inr ⟨w1 i hlt, fun H' => i + 1 ≤ items.length ∧ ∃ F ρ va acc, Sub F0 F ∧ StR X.w X.K F H' σ ρ ∧ LkE ρ0 ρ ∧ ERL X.w X.K F H' σ ρ vs rs ∧ held ρ rs ∧ rs.map (val ρ) = ds ∧ F L = none ∧ H' L = some (.lst va) ∧ RepL X.w X.K F va acc ∧ ¬ ownS σ ρ L ∧ PostC X σ F H' ρ L (compL tg is tt te (items.drop (i + 1)) acc ρ) Q,
      fun H' z => ⟨items.length - (i + 1), by omega, rfl, z.1, z.2⟩, fun x H' y => ?_⟩
    have hx : items[i]? = some items[i] := List.getElem?_eq_getElem hlt
    have y := w3 i x H' _ y hx
    rw [List.drop_eq_getElem_cons hlt] at h
    unfold compL at h
    obtain ⟨F1, S1, r1, f1⟩ := y.st S
    cases et : tg items[i] (wipeE ρ is) with
    | none => rw [et] at h; exact False.elim h
    | some ρ1 =>
      rw [et] at h
      dsimp only at h
      have hl1 : ρ1.length = ρ.length := by rw [(ht _ _ _ et).1, wipeE_len]
      refine ⟨F1, wipeE ρ is, ρ1, _, S1.wiped is, r1, et, fun σ2 S2 ls2 w2' n2 y2 => ⟨?_, ?_⟩⟩
      · refine List.ext_getElem? fun j => ?_
        by_cases hj : j ∈ is
        · have hl2 : σ2.length = σ.length := by rw [n2, wipe_length]
          by_cases hjl : j < σ.length
          · rw [wipe_in hj (by omega), wipe_in hj hjl]
          · rw [List.getElem?_eq_none (by rw [wipe_length]; omega), List.getElem?_eq_none (by rw [wipe_length]; omega)]
        · rw [wipe_out hj, y2 j hj]
      have fr1 : Fr F H (ownS σ ρ) F1 H' (ownS σ2 ρ1) := f1.imp fun b z => own_wiped (w2' b z)
      -- what a turn's end owes, from the inner state at its end
      have fin : ∀ (F4 H4 : Hp) (ρ4 : Env) (va' : List V) (acc' : List D) (Hn : Hp), LkE ρ1 ρ4 → StR X.w X.K F4 H4 σ2 ρ4 → Fr F H (ownS σ ρ) F4 H4 (ownS σ2 ρ4) → (Hn = H4 ∧ va' = va ∧ acc' = acc ∨ (∃ y d, va' = va ++ [y] ∧ acc' = acc ++ [d] ∧ Rep X.w X.K F4 y d ∧ Hn = upd H4 L (.lst va'))) →
          PostC X σ F H ρ L (compL tg is tt te (items.drop (i + 1)) acc' (back ρ is ρ4)) Q → i + 1 ≤ items.length ∧ ∃ F ρ va acc, Sub F0 F ∧ StR X.w X.K F Hn σ ρ ∧ LkE ρ0 ρ ∧ ERL X.w X.K F Hn σ ρ vs rs ∧ held ρ rs ∧ rs.map (val ρ) = ds ∧ F L = none ∧ Hn L = some (.lst va) ∧ RepL X.w X.K F va acc ∧ ¬ ownS σ ρ L ∧ PostC X σ F Hn ρ L (compL tg is tt te (items.drop (i + 1)) acc ρ) Q := by
        intro F4 H4 ρ4 va' acc' Hn l4 S4 f4 hn hq
        have ob : ∀ b, ownS σ (back ρ is ρ4) b → ownS σ2 ρ4 b := fun b z => own_backed y2 hpρ z
        have S5 : StR X.w X.K F4 H4 σ (back ρ is ρ4) := S.backed S4 f4.mono y2 (by rw [l4.1, hl1]) hpρ
        have le : LkE ρ (back ρ is ρ4) := lk_back (fun j hj => by rw [ho _ _ _ et j hj]) hl1 l4
        have lt := Lk.slT le
        have nF4 : F4 L = none := by
          cases z : F4 L with
          | none => rfl
          | some u =>
            rcases f4.frz L u z with z | z | z
            · rw [nF] at z; cases z
            · exact absurd z nL
            · rw [hL] at z; cases z
        have hL4 : H4 L = some (.lst va) := f4.keep L _ hL nL
        have nL4 : ¬ ownS σ (back ρ is ρ4) L := fun z => by
          rcases f4.new L (ob L z) with z | z
          · exact nL z
          · rw [hL] at z; cases z
        have f5 : Fr F H (ownS σ ρ) F4 H4 (ownS σ (back ρ is ρ4)) := f4.imp ob
        have e5 := ERL.turn S f5 (fun _ z => z) (fun _ _ _ _ => rfl) lt hh e
        rcases hn with ⟨rfl, rfl, rfl⟩ | ⟨y, d, rfl, rfl, ry, rfl⟩
        · refine ⟨hlt, F4, back ρ is ρ4, _, _, sF.trans f4.mono, S5, LkE.trans l le, e5, hh.later lt, (hh.val lt).trans hv, nF4, hL4, ra.mono f4.mono, nL4, ?_⟩
          revert hq
          cases compL tg is tt te (items.drop (i + 1)) acc' (back ρ is ρ4) with
          | ok a ρ' => exact fun h F' H' va s n hv rp no f => h F' H' va s n hv rp no ((Fr.trans (o1 := fun b => ownS σ (back ρ is ρ4) b ∨ b = L) ⟨fun b u e no => f5.keep b u e fun z => no (.inl z), fun b z => z.elim (fun z => (f5.new b z).imp .inl id) fun z => .inl (.inr z), fun b u e => (f5.frz b u e).imp id fun z => z.imp .inl id, f5.mono⟩ f fun _ z => z))
          | _ => exact fun h => h
        · refine ⟨hlt, F4, back ρ is ρ4, _, _, sF.trans f4.mono, S5.upd nF4 nL4, LkE.trans l le, ?_, hh.later lt, (hh.val lt).trans hv, nF4, upd_same, (ra.mono f4.mono).append (.cons ry .nil), nL4, ?_⟩
          · exact ERL.updL e5 nT
          · revert hq
            cases compL tg is tt te (items.drop (i + 1)) (acc ++ [d]) (back ρ is ρ4) with
            | ok a ρ' => exact fun h F' H' va s n hv rp no f => h F' H' va s n hv rp no ((Fr.trans (o1 := fun b => ownS σ (back ρ is ρ4) b ∨ b = L) ⟨fun b u e no => by rw [upd_ne fun z => no (.inr z)]; exact f5.keep b u e fun z => no (.inl z), fun b z => z.elim (fun z => (f5.new b z).imp .inl id) fun z => .inl (.inr z), fun b u e => (f5.frz b u e).imp id fun z => z.imp .inl id, f5.mono⟩ f fun _ z => z))
            | _ => exact fun h => h
      refine hqt _ _ _ ⟨F1, ρ1, S2, ?_⟩
      have l1 := o1 ρ1
      cases e1 : tt ρ1 with
      | bad => rw [e1] at h; exact False.elim h
      | exn x ρ2 => rw [e1] at h; exact False.elim h
      | ok b ρ2 =>
        rw [e1] at h l1
        simp only [Out.bindN] at h
        intro F3 H3 S3 f3
        have fr3 := fr1.trans f3 fun _ z => z
        cases b with
        | false =>
          simp only [Bool.false_eq_true, if_false] at h ⊢
          exact fin F3 H3 ρ2 va acc H3 l1 S3 fr3 (.inl ⟨rfl, rfl, rfl⟩) h
        | true =>
          simp only [if_true] at h ⊢
          refine ⟨F3, ρ2, S3, ?_⟩
          have l2 := o2 ρ2
          cases e2 : te ρ2 with
          | bad => rw [e2] at h; exact False.elim h
          | exn x ρ3 => rw [e2] at h; exact False.elim h
          | ok r ρ3 =>
            rw [e2] at h l2
            simp only at h
            intro y F4 H4 S4 r4 f4
            have l3 := okE_frz r ρ3
            dsimp only at l3
            cases e3 : frz ρ3 r with
            | bad => rw [e3] at h; exact False.elim h
            | exn x ρ4 => rw [e3] at h; exact False.elim h
            | ok d ρ4 =>
              rw [e3] at h l3
              simp only at h
              by_cases hlim : lim (acc.length + 1) = true
              rotate_left
              · rw [if_neg hlim] at h; exact False.elim h
              rw [if_pos hlim] at h
              obtain ⟨F5, f5, q5⟩ := frz_one S4 r4 e3
              have fr4 : Fr F H (ownS σ ρ) F4 H4 (ownR σ2 ρ3 y r) := fr3.trans f4 fun _ z => z
              have fr5 : Fr F H (ownS σ ρ) F5 H4 (ownS σ2 ρ4) := ⟨fr4.keep, fun b z => fr4.new b (.inl (f5.own b z)), fun b u z => by
                rcases f5.frz b u z with z | ⟨z1, z2⟩
                · exact fr4.frz b u z
                · refine .inr (fr4.new b ?_)
                  rcases z2 with z2 | ⟨d2, z2⟩
                  · exact .inl z2
                  · exact .inr ⟨d2, z2, z1⟩, fr4.mono.trans f5.mono⟩
              have hL4 : H4 L = some (.lst va) := fr4.keep L _ hL nL
              have hva := ra.length
              exact ⟨va, hL4, by have := lim_le hlim; omega, fin F5 H4 ρ4 (va ++ [y]) (acc ++ [d]) _ (LkE.trans l1 (LkE.trans l2 l3)) f5.st fr5 (.inr ⟨y, d, rfl, rfl, q5, rfl⟩) h⟩
  · have hi' : i = items.length := by omega
    subst hi'
    rw [List.drop_length] at h
    exact .inl ⟨w2, h F H va S nF hL ra nL (Fr.refl)⟩
/-- the tests of a comprehension: none, or one -/
inductive SIf (X : Cx) (c : XC) : List Expr → SemT → TT → Prop
  | none : SIf X c [] (fun ρ => .ok true ρ) tYes
  | one {e : Expr} {t : SemT} : ST X c W0 e t → SIf X c [e] t (TT' X.w X.K c W0 t)
theorem comp_imp {elt target iter : Expr} {ifs : List Expr} {scope : Scope} {own : List (Str × Nat)} {g : SemL} {itm : List D → Option (List D)} {tg : Tgt} {tt : SemT} {te : SemE} {is : List Nat} {qt : TT} (hc : X.calm = true) (hN : X.N.Nodup) (hi : SI X c W target iter g itm) (ok : BlkOk X.N X.env.scope scope own) (his : own.map (·.2) = is)
    (hg : ∀ (s : Shared) (H : Hp) (C : Addr) (cl : List (Str × Addr)) (fp : List Addr), SG (X.blk s H scope (compEnvC scope cl C X.env) fp) target tg is)
    (ht : ∀ (s : Shared) (H : Hp) (C : Addr) (cl : List (Str × Addr)) (fp : List Addr), SIf (X.blk s H scope (compEnvC scope cl C X.env) fp) c ifs tt qt)
    (he : ∀ (s : Shared) (H : Hp) (C : Addr) (cl : List (Str × Addr)) (fp : List Addr), SE (X.blk s H scope (compEnvC scope cl C X.env) fp) c W0 elt te) (hs : ∀ x, foldedSetIterable iter X.env x = pure x) (x0 : Shared) (x1 : Addr) :
    (∀ σ H Q, TD X.w X.K c W (eComp g itm tg is tt te) σ H Q → tLc (TID X.w X.K c W g itm) (TGD X.w X.K tg is) qt (TD X.w X.K c W0 te) (own.map (·.2)) σ H Q) ∧ okE (eComp g itm tg is tt te) ∧ ∀ (s : Shared) (H : Hp) (C : Addr) (cl : List (Str × Addr)) (fp : List Addr), PTs (X.blk s H scope (compEnvC scope cl C X.env) fp) ifs qt := by
  have tgk := (hg x0 (fun _ => none) x1 [] []).lk
  have tgo := (hg x0 (fun _ => none) x1 [] []).only
  have oke := (he x0 (fun _ => none) x1 [] []).ok
  have okt : okE tt := by
    cases ht x0 (fun _ => none) x1 [] [] with
    | none => exact okE_ok true
    | one h => exact h.ok
  have hqt : ∀ σ H Q, TT' X.w X.K c W0 tt σ H Q → qt σ H Q := by
    cases ht x0 (fun _ => none) x1 [] [] with
    | none => exact fun σ H Q ⟨F, ρ, S, h⟩ => h F H S Fr.refl
    | one h => exact fun σ H Q h => h
  have pts : ∀ (s : Shared) (H : Hp) (C : Addr) (cl : List (Str × Addr)) (fp : List Addr), PTs (X.blk s H scope (compEnvC scope cl C X.env) fp) ifs qt := fun s H C cl fp => by
    cases ht s H C cl fp with
    | none => exact pts_nil
    | one h => exact pts_one h.pt
  refine ⟨fun σ H Q ⟨F, ρ, S, q⟩ => ?_, okE_comp hi.ok tgo tgk okt oke, pts⟩
  rw [his]
  refine ⟨F, ρ, S, ?_⟩
  unfold eComp at q
  cases e : g ρ with
  | bad => rw [e] at q; exact q
  | exn x ρ1 => rw [e] at q; exact q
  | ok rs ρ1 =>
    rw [e] at q
    simp only [Out.bind] at q
    cases ei : itm (rs.map (val ρ1)) with
    | none => rw [ei] at q; exact False.elim q
    | some items =>
      rw [ei] at q
      dsimp only at q
      by_cases p : is.all (plainAt ρ1) = true
      rotate_left
      · rw [if_neg p] at q; exact False.elim q
      rw [if_pos p] at q
      have plain : ∀ i ∈ is, (ρ1.getD i .un).own = false := fun i hi => by
        have := List.all_eq_true.mp p i hi
        unfold plainAt at this
        simp only [Bool.and_eq_true, Bool.not_eq_true'] at this
        exact this.1
      refine ⟨items, ei, fun vs F1 H1 S1 r1 f1 J wk L hL => ?_⟩
      have nF := S1.sub.fresh hL
      have nS : ¬ ownS σ ρ1 L := fun z => by obtain ⟨o, h⟩ := S1.ownThere z; rw [hL] at h; cases h
      have nT : ∀ (j : Nat) d, rs[j]? = some (R.tmp d) → vs[j]? ≠ some (.ref L) := fun j d hj hv => by
        obtain ⟨v, h1, h2⟩ := r1.get hj
        rw [hv] at h1; cases h1
        obtain ⟨a, z, _, q, _⟩ := h2
        cases z
        obtain ⟨u, hu⟩ := q.there
        rw [hL] at hu; cases hu
      have S2 : StR X.w X.K F1 (upd H1 L (.lst [])) σ ρ1 := S1.upd nF nS
      have e2 := ERL.updL (o := .lst []) r1 nT
      have wrap : ∀ (u : Env → Env) (ρ2 : Env) (out : Out (List D)), (∀ b, ownS σ ρ2 b → ownS σ ρ1 b) → (∀ F H ρ, out = .ok [] ρ ∨ True → ∀ acc, out = .ok acc ρ → StR X.w X.K F H σ ρ → StR X.w X.K F H σ (u ρ) ∧ ∀ b, ownS σ (u ρ) b → ownS σ ρ b) → Post X.w X.K c W σ F H ρ (compE u out) Q → PostC X σ F1 (upd H1 L (.lst [])) ρ2 L out Q := by
        intro u ρ2 out hsub hu q
        cases out with
        | bad => exact q
        | exn x ρ' => exact q
        | ok acc ρ' =>
          intro F' H' va S' nF' hL' ra nS' f'
          obtain ⟨Su, ou⟩ := hu F' H' ρ' (.inr trivial) acc rfl S'
          refine q (.ref L) F' H' Su ⟨L, rfl, nF', ⟨va, hL', ra⟩, fun z => nS' (ou L z)⟩ ?_
          have lim : ∀ b, ownS σ ρ2 b ∨ b = L → ownS σ ρ b ∨ H b = none := fun b z => by
            rcases z with z | z
            · exact f1.new b (.inl (hsub b z))
            · subst z
              cases hb : H b with
              | none => exact .inr rfl
              | some o =>
                refine .inl (Classical.byContradiction fun n => ?_)
                rw [f1.keep b o hb n] at hL; cases hL
          have back : ∀ b, upd H1 L (.lst []) b = none → ownS σ ρ b ∨ H b = none := fun b z => by
            cases hb : H b with
            | none => exact .inr rfl
            | some o =>
              refine .inl (Classical.byContradiction fun n => ?_)
              have h1 := f1.keep b o hb n
              have : b ≠ L := by rintro rfl; rw [hL] at h1; cases h1
              rw [upd_ne this, h1] at z; cases z
          refine ⟨fun b o hb no => ?_, fun b z => ?_, fun b o z => ?_, f1.mono.trans f'.mono⟩
          · have h1 := f1.keep b o hb no
            have hb2 : b ≠ L := by rintro rfl; rw [hL] at h1; cases h1
            refine f'.keep b o (by rw [upd_ne hb2]; exact h1) fun z => ?_
            rcases lim b z with z | z
            · exact no z
            · rw [hb] at z; cases z
          · have z : ownS σ ρ' b ∨ b = L := by
              rcases z with z | ⟨d, z, z2⟩
              · exact .inl (ou b z)
              · cases z2; exact .inr rfl
            rcases f'.new b z with z | z
            · exact lim b z
            · exact back b z
          · rcases f'.frz b o z with z | z | z
            · exact f1.frz b o z
            · exact .inr (lim b z)
            · exact .inr (back b z)
      by_cases h1 : rs.all noAt = true
      · rw [if_pos h1] at q
        refine comp_turns (c := c) (ρ0 := ρ1) (F := F1) (va := []) (acc := []) (ρ := ρ1) tgk tgo okt oke hqt wk plain (Sub.refl _) S2 (LkE.refl ρ1) e2 (fun i hi => ?_) rfl nF upd_same .nil nS nT (wrap id ρ1 _ (fun _ z => z) (fun F H ρ _ acc _ S => ⟨S, fun _ z => z⟩) q)
        have := List.all_eq_true.mp h1 _ hi
        cases this
      · rw [if_neg h1] at q
        by_cases h2 : rs.all (ownAt ρ1) = true
        rotate_left
        · rw [if_neg h2] at q; exact False.elim q
        rw [if_pos h2] at q
        have hv : rs.map (val (lock rs ρ1)) = rs.map (val ρ1) := List.map_congr_left fun r hr => by
          cases r with
          | fro d => rfl
          | tmp d => rfl
          | «at» i =>
            show ((lock rs ρ1).getD i .un).get = (ρ1.getD i .un).get
            cases e : ρ1[i]? with
            | none =>
              have e2 : (lock rs ρ1)[i]? = none := by rw [lock_get, e]; rfl
              rw [List.getD_eq_getElem?_getD, List.getD_eq_getElem?_getD, e, e2]
            | some a =>
              obtain ⟨b, e2, z⟩ := lock_at (rs := rs) e
              rw [getD_of e, getD_of e2]
              rcases z with z | z
              · rw [z]
              · rw [z, lk1_get]
        refine comp_turns (c := c) (ρ0 := lock rs ρ1) (F := F1) (va := []) (acc := []) (ρ := lock rs ρ1) tgk tgo okt oke hqt (by rw [← hv] at wk; exact wk) (fun i hi => ?_) (Sub.refl _) S2.lock (LkE.refl _) (ERL.updL (o := .lst []) r1.lock nT) (fun i hi => ?_) rfl nF upd_same .nil (fun z => nS (own_of_lock z)) nT
          (wrap (unlk ρ1) (lock rs ρ1) _ (fun _ z => own_of_lock z) (fun F H ρ _ acc he S => ?_) q)
        · have pl := plain i hi
          cases ea : (lock rs ρ1)[i]? with
          | none => rw [List.getD_eq_getElem?_getD, ea]; rfl
          | some a =>
            obtain ⟨b, e3, z⟩ := of_lock ea
            rw [getD_of e3] at pl
            rw [getD_of ea]
            rcases z with z | z
            · rw [z]; exact pl
            · rw [z, lk1_own]; exact pl
        · have o := List.all_eq_true.mp h2 _ hi
          have o : (ρ1.getD i .un).own = true := o
          cases ea : ρ1[i]? with
          | none => rw [List.getD_eq_getElem?_getD, ea] at o; cases o
          | some a =>
            rw [getD_of ea] at o
            have any : rs.any (isAt i) = true := List.any_eq_true.mpr ⟨_, hi, by show (i == i) = true; simp⟩
            rw [lock_get, ea]
            simp only [Option.map_some, any, if_true]
            cases a <;> first | (cases o; done) | exact ⟨_, rfl⟩
        · exact ⟨S.unlk (by rw [(ok_compL tgo tgk okt oke _ _ _ _ _ he).1, lock_len]), fun _ z => own_of_unlk z⟩
theorem se_comp {elt target iter : Expr} {ifs : List Expr} {scope : Scope} {own : List (Str × Nat)} {g : SemL} {itm : List D → Option (List D)} {tg : Tgt} {tt : SemT} {te : SemE} {is : List Nat} {qt : TT} (hc : X.calm = true) (hN : X.N.Nodup) (hi : SI X c W target iter g itm) (ok : BlkOk X.N X.env.scope scope own) (his : own.map (·.2) = is)
    (hg : ∀ (s : Shared) (H : Hp) (C : Addr) (cl : List (Str × Addr)) (fp : List Addr), SG (X.blk s H scope (compEnvC scope cl C X.env) fp) target tg is)
    (ht : ∀ (s : Shared) (H : Hp) (C : Addr) (cl : List (Str × Addr)) (fp : List Addr), SIf (X.blk s H scope (compEnvC scope cl C X.env) fp) c ifs tt qt)
    (he : ∀ (s : Shared) (H : Hp) (C : Addr) (cl : List (Str × Addr)) (fp : List Addr), SE (X.blk s H scope (compEnvC scope cl C X.env) fp) c W0 elt te) (hs : ∀ x, foldedSetIterable iter X.env x = pure x) (x0 : Shared) (x1 : Addr) :
    SE X c W (.ListComp elt [⟨target, iter, ifs, 0⟩] scope pos) (eComp g itm tg is tt te) := by
  have z := comp_imp hc hN hi ok his hg ht he hs x0 x1
  exact ⟨PE.imp (pe_lc (g := TGD X.w X.K tg is) (tt := qt) (te := TD X.w X.K c W0 te) hc hN hi.pi ok (fun s H C cl fp => (hg s H C cl fp).pg) z.2.2 (fun s H C cl fp => (he s H C cl fp).pe) hs) z.1, z.2.1⟩
theorem ss_setLc {elt target iter : Expr} {ifs : List Expr} {scope : Scope} {own : List (Str × Nat)} {g : SemL} {itm : List D → Option (List D)} {tg : Tgt} {tt : SemT} {te : SemE} {is : List Nat} {qt : TT} {i : Nat} {y : Str} {py spos : Pos} (hc : X.calm = true) (hN : X.N.Nodup) (hi : SI X c W target iter g itm) (ok : BlkOk X.N X.env.scope scope own) (his : own.map (·.2) = is)
    (hg : ∀ (s : Shared) (H : Hp) (C : Addr) (cl : List (Str × Addr)) (fp : List Addr), SG (X.blk s H scope (compEnvC scope cl C X.env) fp) target tg is)
    (ht : ∀ (s : Shared) (H : Hp) (C : Addr) (cl : List (Str × Addr)) (fp : List Addr), SIf (X.blk s H scope (compEnvC scope cl C X.env) fp) c ifs tt qt)
    (he : ∀ (s : Shared) (H : Hp) (C : Addr) (cl : List (Str × Addr)) (fp : List Addr), SE (X.blk s H scope (compEnvC scope cl C X.env) fp) c W0 elt te) (hs : ∀ x, foldedSetIterable iter X.env x = pure x) (x0 : Shared) (x1 : Addr) :
    X.N[i]? = some y → X.env.scope.names.lookup y = some .local → swapsWith (.ListComp elt [⟨target, iter, ifs, 0⟩] scope pos) (some (.Name y py)) spos.line X.env = pure true →
    SS X c W (.Assign [.Name y py] (.ListComp elt [⟨target, iter, ifs, 0⟩] scope pos) spos) (sSet i (eComp g itm tg is tt te)) := by
  intro hy hyl hsw
  have z := comp_imp hc hN hi ok his hg ht he hs x0 x1
  refine ⟨PS.imp (ps_setLc (g := TGD X.w X.K tg is) (tt := qt) (te := TD X.w X.K c W0 te) hc hN hy hyl hsw hi.pi ok (fun s H C cl fp => (hg s H C cl fp).pg) z.2.2 (fun s H C cl fp => (he s H C cl fp).pe) hs) fun D σ H ⟨F, ρ, S, q⟩ => ?_, okT_sbind z.2.1 (okT_put i)⟩
  exact z.1 σ H _ (ts_bind z.2.1 S q fun v r ρ1 F1 H1 S1 e1 f1 l h1 => put_ok S1 e1 f1 l h1)
end
end WS
/-! Wk: comparisons, subscripts, built-ins. -/
namespace WS
open PySem L2

/-! ### data as the library has it -/
mutual
def toPy : D → PyData
  | .non => .none
  | .bl b => .bool b
  | .int i => .int i
  | .str s => .str (mkS s)
  | .tup xs => .tuple (toPys xs)
  | .lst xs => .list (toPys xs)
  | .dct _ => .none
  | .scr _ => .none
  | .err _ _ => .none
def toPys : List D → List PyData
  | [] => []
  | x :: xs => toPy x :: toPys xs
end
mutual
/-- how deep it is; nothing with a dict in it -/
def dp : D → Nat
  | .tup xs => dps xs + 1
  | .lst xs => dps xs + 1
  | .dct _ => 1000
  | .scr _ => 1000
  | .err _ _ => 1000
  | _ => 0
def dps : List D → Nat
  | [] => 0
  | x :: xs => max (dp x) (dps xs)
end
mutual
/-- == -/
def eqD : D → D → Bool
  | .non, .non => true
  | .bl a, .bl b => a == b
  | .bl a, .int j => (if a then 1 else 0) == j
  | .int i, .bl b => i == (if b then 1 else 0)
  | .int i, .int j => i == j
  | .str x, .str y => decide (x = y)
  | .tup xs, .tup ys => eqDs xs ys
  | .lst xs, .lst ys => eqDs xs ys
  | _, _ => false
def eqDs : List D → List D → Bool
  | [], [] => true
  | x :: xs, y :: ys => eqD x y && eqDs xs ys
  | _, _ => false
end
def ok64 (d : D) : Bool := decide (dp d ≤ 64)
theorem toPys_map : ∀ xs : List D, toPys xs = xs.map toPy
  | [] => rfl
  | x :: xs => by simp only [toPys, List.map_cons, toPys_map xs]
theorem mkS_inj {a b : List Nat} : (mkS a == mkS b) = decide (a = b) := by
  rw [Bool.eq_iff_iff, decide_eq_true_iff, beq_iff_eq]
  constructor
  · intro h
    have := congrArg (fun s : Str => s.cps.toList) h
    simpa using this
  · intro h; rw [h]
mutual
theorem eqD_py : ∀ d e : D, dp d ≤ 64 → dp e ≤ 64 → PyData.eqv (toPy d) (toPy e) = eqD d e
  | .dct _, _, h, _ => by simp [dp] at h
  | .scr _, _, h, _ => by simp [dp] at h
  | .err _ _, _, h, _ => by simp [dp] at h
  | .non, e, _, h => by cases e <;> first | rfl | simp [dp] at h
  | .bl _, e, _, h => by cases e <;> first | rfl | simp [dp] at h
  | .int _, e, _, h => by cases e <;> first | rfl | simp [dp] at h
  | .str x, .str y, _, _ => by simp only [toPy, PyData.eqv, eqD]; exact mkS_inj
  | .str _, .non, _, _ => rfl
  | .str _, .bl _, _, _ => rfl
  | .str _, .int _, _, _ => rfl
  | .str _, .tup _, _, _ => rfl
  | .str _, .lst _, _, _ => rfl
  | .str _, .dct _, _, h => by simp [dp] at h
  | .str _, .scr _, _, h => by simp [dp] at h
  | .str _, .err _ _, _, h => by simp [dp] at h
  | .tup xs, .tup ys, h1, h2 => by
    simp only [dp] at h1 h2
    simp only [toPy, PyData.eqv, eqD]
    exact eqDs_py xs ys (by omega) (by omega)
  | .tup _, .non, _, _ => rfl
  | .tup _, .bl _, _, _ => rfl
  | .tup _, .int _, _, _ => rfl
  | .tup _, .str _, _, _ => rfl
  | .tup _, .lst _, _, _ => rfl
  | .tup _, .dct _, _, h => by simp [dp] at h
  | .tup _, .scr _, _, h => by simp [dp] at h
  | .tup _, .err _ _, _, h => by simp [dp] at h
  | .lst xs, .lst ys, h1, h2 => by
    simp only [dp] at h1 h2
    simp only [toPy, PyData.eqv, eqD]
    exact eqDs_py xs ys (by omega) (by omega)
  | .lst _, .non, _, _ => rfl
  | .lst _, .bl _, _, _ => rfl
  | .lst _, .int _, _, _ => rfl
  | .lst _, .str _, _, _ => rfl
  | .lst _, .tup _, _, _ => rfl
  | .lst _, .dct _, _, h => by simp [dp] at h
  | .lst _, .scr _, _, h => by simp [dp] at h
  | .lst _, .err _ _, _, h => by simp [dp] at h
theorem eqDs_py : ∀ xs ys : List D, dps xs ≤ 64 → dps ys ≤ 64 → PyData.eqvAll (toPys xs) (toPys ys) = eqDs xs ys
  | [], [], _, _ => rfl
  | [], _ :: _, _, _ => rfl
  | _ :: _, [], _, _ => rfl
  | x :: xs, y :: ys, h1, h2 => by
    simp only [dps] at h1 h2
    simp only [toPys, PyData.eqvAll, eqDs]
    rw [eqD_py x y (by omega) (by omega), eqDs_py xs ys (by omega) (by omega)]
end
section
variable {w : World} {K : PySem.W.Frag} {F H : Hp}
mutual
theorem Rep.dp : ∀ {d : D} {v : V}, Rep w K F v d → WS.dp d ≤ 64 → Dp K F v (toPy d)
  | .non, _, h, _ => by cases h; exact .non
  | .bl _, _, h, _ => by cases h; exact .bl _
  | .int _, _, h, _ => by cases h; exact .int _
  | .str _, _, h, _ => by cases h; exact .str _
  | .tup xs, _, h, l => by
    simp only [WS.dp] at l
    cases h with | tup a b => exact .tup a (RepL.dp b (by omega))
  | .lst xs, _, h, l => by
    simp only [WS.dp] at l
    cases h with | lst a b => exact .lst (.of a) (RepL.dp b (by omega))
  | .dct _, _, _, l => by simp [WS.dp] at l
  | .scr _, _, _, l => by simp [WS.dp] at l
  | .err _ _, _, _, l => by simp [WS.dp] at l
theorem RepL.dp : ∀ {ds : List D} {vs : List V}, RepL w K F vs ds → dps ds ≤ 64 → DpAll K F vs (toPys ds)
  | [], _, h, _ => by cases h; exact .nil
  | d :: ds, _, h, l => by
    simp only [dps] at l
    cases h with | cons a b => exact .cons (Rep.dp a (by omega)) (RepL.dp b (by omega))
end
mutual
theorem Rep.lay : ∀ {d : D} {v : V}, Rep w K F v d → WS.dp d ≤ 64 → (toPy d).canLay0 = true ∧ (toPy d).depth = WS.dp d
  | .non, _, _, _ => by simp [toPy, PyData.canLay0, PyData.depth, WS.dp]
  | .bl _, _, _, _ => by simp [toPy, PyData.canLay0, PyData.depth, WS.dp]
  | .int _, _, _, _ => by simp [toPy, PyData.canLay0, PyData.depth, WS.dp]
  | .str _, _, h, _ => by
    cases h with
    | str _ a b => exact ⟨by simp only [toPy, PyData.canLay0]; exact okS_ok a, by simp [toPy, PyData.depth, WS.dp]⟩
  | .tup xs, _, h, l => by
    simp only [WS.dp] at l
    cases h with
    | tup a b =>
      obtain ⟨p, q⟩ := RepL.lay b (by omega)
      exact ⟨by simp only [toPy, PyData.canLay0]; exact p, by simp only [toPy, PyData.depth, WS.dp]; rw [q]⟩
  | .lst xs, _, h, l => by
    simp only [WS.dp] at l
    cases h with
    | lst a b =>
      obtain ⟨p, q⟩ := RepL.lay b (by omega)
      exact ⟨by simp only [toPy, PyData.canLay0]; exact p, by simp only [toPy, PyData.depth, WS.dp]; rw [q]⟩
  | .dct _, _, _, l => by simp [WS.dp] at l
  | .scr _, _, _, l => by simp [WS.dp] at l
  | .err _ _, _, _, l => by simp [WS.dp] at l
theorem RepL.lay : ∀ {ds : List D} {vs : List V}, RepL w K F vs ds → dps ds ≤ 64 → PyData.canLayAll0 (toPys ds) = true ∧ PyData.depthAll (toPys ds) = dps ds
  | [], _, _, _ => by simp [toPys, PyData.canLayAll0, PyData.depthAll, dps]
  | d :: ds, _, h, l => by
    simp only [dps] at l
    cases h with
    | cons a b =>
      obtain ⟨p, q⟩ := Rep.lay a (by omega)
      obtain ⟨p2, q2⟩ := RepL.lay b (by omega)
      exact ⟨by simp only [toPys, PyData.canLayAll0, p, p2, Bool.and_self], by simp only [toPys, PyData.depthAll, dps]; rw [q, q2]⟩
end
theorem Top.shaped {v : V} {d : D} (s : Sub F H) (t : Top w K F H v d) (h : ok64 d = true) : Dp K H v (toPy d) ∧ SeqAt.shaped (toPy d) = true := by
  have l : dp d ≤ 64 := of_decide_eq_true h
  have r := t.rep s
  obtain ⟨a, b⟩ := r.lay l
  refine ⟨r.dp l, ?_⟩
  unfold SeqAt.shaped
  rw [a, b, Bool.true_and]
  exact decide_eq_true l
end

/-! ### == and != -/
def gEq (d e : D) : Option PR := if (ok64 d && ok64 e) = true then some (.sc (.bl (eqD d e))) else none
def gNe (d e : D) : Option PR := if (ok64 d && ok64 e) = true then some (.sc (.bl (!eqD d e))) else none
section
variable {X : Cx}
theorem opG_eq (hu : X.A.units + 65 < cLine) : OpG X (compareOp .Eq) gEq := by
  refine ⟨_, op_eqD (by omega), fun F H x y d1 d2 p Q s t1 t2 e q => ?_⟩
  unfold gEq at e
  split at e
  · rename_i h
    rw [Bool.and_eq_true] at h
    cases e
    obtain ⟨a1, b1⟩ := t1.shaped s h.1
    obtain ⟨a2, b2⟩ := t2.shaped s h.2
    refine ⟨_, _, a1, a2, b1, b2, ?_⟩
    rw [eqD_py d1 d2 (of_decide_eq_true h.1) (of_decide_eq_true h.2)]
    exact q _ (.bl _)
  · cases e
theorem opG_ne (hu : X.A.units + 65 < cLine) : OpG X (compareOp .NotEq) gNe := by
  refine ⟨_, op_neD (by omega), fun F H x y d1 d2 p Q s t1 t2 e q => ?_⟩
  unfold gNe at e
  split at e
  · rename_i h
    rw [Bool.and_eq_true] at h
    cases e
    obtain ⟨a1, b1⟩ := t1.shaped s h.1
    obtain ⟨a2, b2⟩ := t2.shaped s h.2
    refine ⟨_, _, a1, a2, b1, b2, ?_⟩
    rw [eqD_py d1 d2 (of_decide_eq_true h.1) (of_decide_eq_true h.2)]
    exact q _ (.bl _)
  · cases e
/-! ### order of ints, of texts -/
def strLt (a b : List Nat) : Bool := decide (a < b)
def gLt : D → D → Option PR
  | .int a, .int b => some (.sc (.bl (decide (a < b))))
  | .str a, .str b => some (.sc (.bl (strLt a b)))
  | _, _ => none
def gLe : D → D → Option PR
  | .int a, .int b => some (.sc (.bl (decide (a ≤ b))))
  | _, _ => none
def gGt : D → D → Option PR
  | .int a, .int b => some (.sc (.bl (decide (b < a))))
  | _, _ => none
def gGe : D → D → Option PR
  | .int a, .int b => some (.sc (.bl (decide (b ≤ a))))
  | _, _ => none
theorem opG_lt : OpG X (compareOp .Lt) gLt := by
  refine ⟨_, op_lt.or op_lt_str, fun F H x y d1 d2 p Q s t1 t2 e q => ?_⟩
  cases d1 <;> cases d2 <;> simp only [gLt] at e <;> try (cases e; done)
  · cases e
    rw [t1.int, t2.int]
    exact .inl ⟨_, _, rfl, rfl, q _ (.bl _)⟩
  · cases e
    obtain ⟨rfl, _, _⟩ := t1.str
    obtain ⟨rfl, _, _⟩ := t2.str
    exact .inr ⟨_, _, rfl, rfl, q _ (.bl _)⟩
theorem opG_le : OpG X (compareOp .LtE) gLe := opG_int0 (gd := fun i j => .bl (decide (i ≤ j))) op_le (fun i j F => .bl _) fun d1 d2 p e => by
  cases d1 <;> cases d2 <;> simp only [gLe] at e <;> cases e
  exact ⟨_, _, rfl, rfl, rfl⟩
theorem opG_gt : OpG X (compareOp .Gt) gGt := opG_int0 (gd := fun i j => .bl (decide (j < i))) op_gt (fun i j F => .bl _) fun d1 d2 p e => by
  cases d1 <;> cases d2 <;> simp only [gGt] at e <;> cases e
  exact ⟨_, _, rfl, rfl, rfl⟩
theorem opG_ge : OpG X (compareOp .GtE) gGe := opG_int0 (gd := fun i j => .bl (decide (j ≤ i))) op_ge (fun i j F => .bl _) fun d1 d2 p e => by
  cases d1 <;> cases d2 <;> simp only [gGe] at e <;> cases e
  exact ⟨_, _, rfl, rfl, rfl⟩
/-! ### is None -/
def isN : D → Bool
  | .non => true
  | _ => false
def gIs (d e : D) : Option PR := if isN e = true then some (.sc (.bl (isN d))) else none
def gIsNot (d e : D) : Option PR := if isN e = true then some (.sc (.bl (!isN d))) else none
theorem isN_top {w : World} {K : PySem.W.Frag} {F H : Hp} {v : V} {d : D} (t : Top w K F H v d) : decide (v = .non) = isN d := by
  rcases t with t | ⟨a, rfl, t⟩
  · cases t <;> first | rfl | simp [isN]
  · cases d <;> first | exact (show False from t).elim | rfl | simp [isN]
theorem opG_is : OpG X (compareOp .Is) gIs := by
  refine ⟨_, op_isN, fun F H x y d1 d2 p Q s t1 t2 e q => ?_⟩
  unfold gIs at e
  split at e
  · rename_i h
    cases e
    cases d2 <;> first | (cases h; done) | skip
    exact ⟨t2.non, by rw [isN_top t1]; exact q _ (.bl _)⟩
  · cases e
theorem opG_isnot : OpG X (compareOp .IsNot) gIsNot := by
  refine ⟨_, op_notN, fun F H x y d1 d2 p Q s t1 t2 e q => ?_⟩
  unfold gIsNot at e
  split at e
  · rename_i h
    cases e
    cases d2 <;> first | (cases h; done) | skip
    exact ⟨t2.non, by rw [isN_top t1]; exact q _ (.bl _)⟩
  · cases e
/-! ### in -/
def inStr (x : D) (s : List Nat) : Option Bool := match x with
  | .str [c] => some (decide (c ∈ s))
  | _ => none
def inSeq (x : D) (ds : List D) : Option Bool := if (ok64 x && ok64 (.lst ds)) = true then some (ds.any fun z => eqD z x) else none
def inD (x : D) : D → Option Bool
  | .str s => inStr x s
  | .lst ds => inSeq x ds
  | .tup ds => inSeq x ds
  | _ => none
theorem inStr_some {x : D} {s : List Nat} {b : Bool} (h : inStr x s = some b) : ∃ n, x = .str [n] ∧ b = decide (n ∈ s) := by
  unfold inStr at h
  split at h
  · exact ⟨_, rfl, (Option.some.inj h).symm⟩
  · cases h
theorem inSeq_some {x : D} {ds : List D} {b : Bool} (h : inSeq x ds = some b) : ok64 x = true ∧ ok64 (.lst ds) = true ∧ b = ds.any fun z => eqD z x := by
  unfold inSeq at h
  split at h
  · rename_i q
    rw [Bool.and_eq_true] at q
    exact ⟨q.1, q.2, (Option.some.inj h).symm⟩
  · cases h
def gIn (x y : D) : Option PR := (inD x y).map fun b => .sc (.bl b)
def gNotIn (x y : D) : Option PR := (inD x y).map fun b => .sc (.bl (!b))
def rInT (K : PySem.W.Frag) (neg : Bool) : R2 := fun x y H Q => ∃ d ds, Dp K H x d ∧ Dp K H y (.tuple ds) ∧ SeqAt.shaped d = true ∧ SeqAt.shaped (.tuple ds) = true ∧ Q (.bl (if neg = true then !(ds.any fun z => PyData.eqv z d) else ds.any fun z => PyData.eqv z d)) H
theorem op_inT (hu : X.A.units + 65 < cLine) : OpR X (compareOp .In) (rInT X.K false) := by
  intro pins s σ H x y v u Q I rx ry ⟨d, ds, hd, he, sd, se, q⟩
  obtain ⟨as, r1⟩ := Dp.reads I d x v hd rx
  obtain ⟨bs, r2⟩ := Dp.reads I (.tuple ds) y u he ry
  exact SeqAt.in_tuple_reads r2 r1 (SeqAt.canLay_of_shaped se) (SeqAt.canLay_of_shaped sd) (PyProof.Rows.room_in_shaped sd hu) ⟨.bl _, H, I, rfl, q⟩
theorem op_notInT (hu : X.A.units + 65 < cLine) : OpR X (compareOp .NotIn) (rInT X.K true) := by
  intro pins s σ H x y v u Q I rx ry ⟨d, ds, hd, he, sd, se, q⟩
  obtain ⟨as, r1⟩ := Dp.reads I d x v hd rx
  obtain ⟨bs, r2⟩ := Dp.reads I (.tuple ds) y u he ry
  exact SeqAt.notIn_tuple_reads r2 r1 (SeqAt.canLay_of_shaped se) (SeqAt.canLay_of_shaped sd) (PyProof.Rows.room_in_shaped sd hu) ⟨.bl _, H, I, rfl, q⟩
theorem any_py {ds : List D} {d : D} (h1 : ok64 (.lst ds) = true) (h2 : ok64 d = true) : ((toPys ds).any fun z => PyData.eqv z (toPy d)) = ds.any fun z => eqD z d := by
  have hl : dps ds ≤ 64 := by
    have := of_decide_eq_true h1; simp only [dp] at this; omega
  have hd : dp d ≤ 64 := of_decide_eq_true h2
  clear h1
  induction ds with
  | nil => rfl
  | cons x xs ih =>
    simp only [dps] at hl
    simp only [toPys, List.any_cons]
    rw [eqD_py x d (by omega) hd, ih (by omega)]
theorem opG_in (hu : X.A.units + 65 < cLine) : OpG X (compareOp .In) gIn := by
  refine ⟨_, op_in_str.or ((op_inD hu).or (op_inT hu)), fun F H x y d1 d2 p Q s t1 t2 e q => ?_⟩
  unfold gIn at e
  cases h : inD d1 d2 with
  | none => rw [h] at e; cases e
  | some b =>
    rw [h] at e; cases e
    cases d2 <;> first | (cases h; done) | skip
    · obtain ⟨rfl, _, _⟩ := t2.str
      obtain ⟨n, rfl, rfl⟩ := inStr_some h
      obtain ⟨rfl, _, _⟩ := t1.str
      refine .inl ⟨_, _, rfl, rfl, ?_⟩
      rw [StrLaws.found_one]
      exact q _ (.bl _)
    · obtain ⟨h1, h2, rfl⟩ := inSeq_some h
      obtain ⟨a1, b1⟩ := t1.shaped s h1
      obtain ⟨a2, b2⟩ := t2.shaped s (show ok64 (.tup _) = true from h2)
      refine .inr (.inr ⟨_, _, a1, a2, b1, b2, ?_⟩)
      show Q (.bl (((toPys _).any fun z => PyData.eqv z (toPy d1)))) H
      rw [any_py h2 h1]
      exact q _ (.bl _)
    · obtain ⟨h1, h2, rfl⟩ := inSeq_some h
      obtain ⟨a1, b1⟩ := t1.shaped s h1
      obtain ⟨a2, b2⟩ := t2.shaped s h2
      refine .inr (.inl ⟨_, _, a1, a2, b1, b2, ?_⟩)
      rw [any_py h2 h1]
      exact q _ (.bl _)
theorem opG_notin (hu : X.A.units + 65 < cLine) : OpG X (compareOp .NotIn) gNotIn := by
  refine ⟨_, op_notin_str.or ((op_notInD hu).or (op_notInT hu)), fun F H x y d1 d2 p Q s t1 t2 e q => ?_⟩
  unfold gNotIn at e
  cases h : inD d1 d2 with
  | none => rw [h] at e; cases e
  | some b =>
    rw [h] at e; cases e
    cases d2 <;> first | (cases h; done) | skip
    · obtain ⟨rfl, _, _⟩ := t2.str
      obtain ⟨n, rfl, rfl⟩ := inStr_some h
      obtain ⟨rfl, _, _⟩ := t1.str
      refine .inl ⟨_, _, rfl, rfl, ?_⟩
      rw [StrLaws.found_one]
      exact q _ (.bl _)
    · obtain ⟨h1, h2, rfl⟩ := inSeq_some h
      obtain ⟨a1, b1⟩ := t1.shaped s h1
      obtain ⟨a2, b2⟩ := t2.shaped s (show ok64 (.tup _) = true from h2)
      refine .inr (.inr ⟨_, _, a1, a2, b1, b2, ?_⟩)
      show Q (.bl (!((toPys _).any fun z => PyData.eqv z (toPy d1)))) H
      rw [any_py h2 h1]
      exact q _ (.bl _)
    · obtain ⟨h1, h2, rfl⟩ := inSeq_some h
      obtain ⟨a1, b1⟩ := t1.shaped s h1
      obtain ⟨a2, b2⟩ := t2.shaped s h2
      refine .inr (.inl ⟨_, _, a1, a2, b1, b2, ?_⟩)
      rw [any_py h2 h1]
      exact q _ (.bl _)
end
end WS
/-! Wl: chains, subscripts, slices, len, abs, isinstance, all, any, str, int. -/
namespace WS
open PySem L2

section
variable {X : Cx} {c : XC} {W : WX} {pos : Pos}
/-! ### a op b op c -/
def chK (o : Option PR) (k : SemE) : SemE := match o with
  | some (.sc (.bl b)) => fun ρ => if b = true then k ρ else .ok (.fro (.bl false)) ρ
  | _ => fun _ => .bad
def eChain (g g' : D → D → Option PR) (fa fb fc : SemE) : SemE := fun ρ => (fa ρ).bind fun ra ρ1 => (fb ρ1).bind fun rb ρ2 => chK (g (val ρ2 ra) (val ρ2 rb)) (fun ρ2 => (fc ρ2).bind fun rc ρ3 => outP ρ3 (g' (val ρ3 rb) (val ρ3 rc))) ρ2
theorem okE_chK {k : SemE} (h : okE k) (o : Option PR) : okE (chK o k) := fun ρ => by
  unfold chK
  cases o with
  | none => trivial
  | some p =>
    cases p with
    | nl ds => trivial
    | nt ds => trivial
    | nd ds => trivial
    | sc d =>
      cases d <;> first | trivial | skip
      rename_i b
      cases b with
      | true => exact h ρ
      | false => exact LkE.refl ρ
theorem okE_chain {g g' : D → D → Option PR} {fa fb fc : SemE} (h1 : okE fa) (h2 : okE fb) (h3 : okE fc) : okE (eChain g g' fa fb fc) := okE_bind h1 fun ra => okE_bind h2 fun rb ρ =>
  okE_chK (okE_bind h3 fun rc ρ => okE_outP (g' (val ρ rb) (val ρ rc)) ρ) (g (val ρ ra) (val ρ rb)) ρ
theorem td_chain {fa fb fc : SemE} {g g' : D → D → Option PR} {r r' : R2} (h1 : okE fa) (h2 : okE fb) (h3 : okE fc)
    (hr : ∀ F H x y d1 d2 p Q, Sub F H → Top X.w X.K F H x d1 → Top X.w X.K F H y d2 → g d1 d2 = some p → PRQ X.w X.K F H p Q → r x y H Q)
    (hr' : ∀ F H x y d1 d2 p Q, Sub F H → Top X.w X.K F H x d1 → Top X.w X.K F H y d2 → g' d1 d2 = some p → PRQ X.w X.K F H p Q → r' x y H Q) {σ : St} {H : Hp} {Q : VK} (h : TD X.w X.K c W (eChain g g' fa fb fc) σ H Q) :
    tChain r r' (TD X.w X.K c W fa) (TD X.w X.K c W fb) (TD X.w X.K c W fc) σ H Q := by
  obtain ⟨F, ρ, S, h⟩ := h
  refine td_bind h1 S h fun x ra ρ1 F1 H1 l1 S1 e1 q1 => ?_
  refine ⟨F1, ρ1, S1, ?_⟩
  have l2 := h2 ρ1
  cases e : fb ρ1 with
  | bad => rw [e] at q1; exact q1
  | exn x ρ2 => rw [e] at q1; exact q1
  | ok rb ρ2 =>
    rw [e] at q1 l2
    intro y F2 H2 S2 e2 f2
    have ea := e1.later S1 f2 ownR_slots l2
    have q2 := q1.step f2 ownR_slots
    have q2 : Post X.w X.K c W σ F2 H2 ρ2 (chK (g (val ρ2 ra) (val ρ2 rb)) (fun ρ2 => (fc ρ2).bind fun rc ρ3 => outP ρ3 (g' (val ρ3 rb) (val ρ3 rc))) ρ2) Q := q2
    cases eg : g (val ρ2 ra) (val ρ2 rb) with
    | none => rw [eg] at q2; exact False.elim q2
    | some p =>
      rw [eg] at q2
      cases p with
      | nl ds => exact False.elim q2
      | nt ds => exact False.elim q2
      | nd ds => exact False.elim q2
      | sc d =>
        cases d <;> first | exact False.elim q2 | skip
        rename_i b
        refine hr F2 H2 x y _ _ _ _ S2.sub (ea.top S2) (e2.top S2) eg fun v rv => ?_
        cases rv
        refine ⟨b, rfl, ?_⟩
        cases b with
        | false => exact fro_q S2 q2 (.bl false)
        | true =>
          show (if true = true then _ else _)
          rw [if_pos rfl]
          refine ⟨F2, ρ2, S2, ?_⟩
          have q2 : Post X.w X.K c W σ F2 H2 ρ2 ((fc ρ2).bind fun rc ρ3 => outP ρ3 (g' (val ρ3 rb) (val ρ3 rc))) Q := q2
          have l3 := h3 ρ2
          cases e3 : fc ρ2 with
          | bad => rw [e3] at q2; exact q2
          | exn x ρ3 => rw [e3] at q2; exact q2
          | ok rc ρ3 =>
            rw [e3] at q2 l3
            intro z F3 H3 S3 er3 f3
            have eb := e2.later S2 f3 ownR_slots l3
            obtain ⟨p, hp, hq⟩ := out_prq S3 (Post.step (out := outP ρ3 (g' (val ρ3 rb) (val ρ3 rc))) f3 ownR_slots q2)
            exact hr' F3 H3 y z _ _ p Q S3.sub (eb.top S3) (er3.top S3) hp hq
theorem se_chain {a b e : Expr} {op op' : CmpOp} {fa fb fc : SemE} {g g' : D → D → Option PR} (ho : OpG X (compareOp op) g) (ho' : OpG X (compareOp op') g') (ha : SE X c W a fa) (hb : SE X c W b fb) (hc : SE X c W e fc) (hm : lastMarks [op, op'] [b, e] = false) :
    SE X c W (.Compare a [op, op'] [b, e] pos) (eChain g g' fa fb fc) := by
  obtain ⟨r, h1, h2⟩ := ho
  obtain ⟨r', h1', h2'⟩ := ho'
  exact ⟨PE.imp (pe_chain h1 h1' ha.pe hb.pe hc.pe hm) fun σ H Q h => td_chain ha.ok hb.ok hc.ok h2 h2' h, okE_chain ha.ok hb.ok hc.ok⟩
theorem st_chain {a b e : Expr} {op op' : CmpOp} {fa fb fc : SemE} {g g' : D → D → Option PR} (ho : OpG X (compareOp op) g) (ho' : OpG X (compareOp op') g') (ha : SE X c W a fa) (hb : SE X c W b fb) (hc : SE X c W e fc) (hm : lastMarks [op, op'] [b, e] = false) :
    ST X c W (.Compare a [op, op'] [b, e] pos) (tBl (eChain g g' fa fb fc)) := by
  obtain ⟨r, h1, h2⟩ := ho
  obtain ⟨r', h1', h2'⟩ := ho'
  exact ⟨PT.imp (pt_chain h1 h1' ha.pe hb.pe hc.pe hm) fun σ H Q h => td_chain ha.ok hb.ok hc.ok h2 h2' (td_bl (okE_chain ha.ok hb.ok hc.ok) h), okE_bl (okE_chain ha.ok hb.ok hc.ok)⟩

/-! ### a[i] -/
def atD (ds : List D) (i : Int) : Option D := atI ds i
def gIx : D → D → Option PR
  | .lst ds, .int i => (atI ds i).map .sc
  | .tup ds, .int i => (atI ds i).map .sc
  | .str s, .int i => (atI s i).map fun n => .sc (.str [n])
  | .scr ns, .int i => (atI ns i).map fun n => .sc (.int n)
  | _, _ => none
/-- what a subscript must bear -/
def IxG (X : Cx) (g : D → D → Option PR) : Prop :=
  ∃ r, IxR X r ∧ ∀ F H x y d1 d2 p Q, Sub F H → Top X.w X.K F H x d1 → Top X.w X.K F H y d2 → g d1 d2 = some p → PRQ X.w X.K F H p Q → r x y H Q
theorem se_ix {a b : Expr} {fa fb : SemE} {g : D → D → Option PR} (ho : IxG X g) (ha : SE X c W a fa) (hb : SE X c W b fb) (hs : PlainIx b) : SE X c W (.Subscript a b pos) (eOp g fa fb) := by
  obtain ⟨r, h1, h2⟩ := ho
  exact ⟨PE.imp (pe_ix h1 ha.pe hb.pe hs) fun σ H Q h => td_two ha.ok hb.ok h2 h, okE_op ha.ok hb.ok⟩
theorem atI_rep {w : World} {K : PySem.W.Frag} {F : Hp} {vs : List V} {ds : List D} {i : Int} {d : D} (r : RepL w K F vs ds) (h : atI ds i = some d) : ∃ v, atI vs i = some v ∧ Rep w K F v d := by
  unfold atI at *
  rw [r.length]
  cases e : ixN ds.length i with
  | none => rw [e] at h; cases h
  | some j => rw [e] at h; exact r.get h
theorem ixG : IxG X gIx := by
  refine ⟨_, ix_seq, fun F H x y d1 d2 p Q s t1 t2 e q => ?_⟩
  unfold gIx at e
  split at e
  · rename_i ds i
    cases h : atI ds i with
    | none => rw [h] at e; cases e
    | some d =>
      rw [h] at e; cases e
      obtain ⟨a, vs, rfl, h1, r1⟩ := t1.lst s
      obtain ⟨v, hv, rv⟩ := atI_rep r1 h
      exact .inl ⟨a, vs, i, v, rfl, t2.int, .of h1, hv, q v rv⟩
  · rename_i ds i
    cases h : atI ds i with
    | none => rw [h] at e; cases e
    | some d =>
      rw [h] at e; cases e
      obtain ⟨a, vs, rfl, h1, r1⟩ := t1.tup s
      obtain ⟨v, hv, rv⟩ := atI_rep r1 h
      exact .inr (.inl ⟨a, vs, i, v, rfl, t2.int, h1, hv, q v rv⟩)
  · rename_i z i
    cases h : atI z i with
    | none => rw [h] at e; cases e
    | some n =>
      rw [h] at e; cases e
      obtain ⟨rfl, o, l⟩ := t1.str
      refine .inr (.inr ⟨mkS z, i, n, rfl, t2.int, by rw [mkS_length]; exact l, h, q _ (.str [n] ?_ (by show 1 ≤ sizeLine; decide))⟩)
      obtain ⟨j, _, hj, _⟩ := atI_get h
      have := List.all_eq_true.mp o n (List.mem_of_getElem? hj)
      simpa [okS] using this
  · rename_i ns i
    cases h : atI ns i with
    | none => rw [h] at e; cases e
    | some n =>
      rw [h] at e; cases e
      obtain ⟨a, rfl, h1⟩ := t1.scr s
      refine .inl ⟨a, _, i, .int n, rfl, t2.int, h1, ?_, q _ (.int n)⟩
      unfold atI at *
      rw [List.length_map]
      cases e : ixN ns.length i with
      | none => rw [e] at h; cases h
      | some j =>
        rw [e] at h
        show (ns.map V.int)[j]? = _
        have h : ns[j]? = some n := h
        rw [List.getElem?_map, h]; rfl
  · cases e

/-! ### a[lo:hi] -/
def cutL {α : Type} (xs : List α) (lo hi : Option Int) : List α := (xs.drop (HT.sIx xs.length 0 lo)).take (HT.sIx xs.length xs.length hi - HT.sIx xs.length 0 lo)
def gSl (d : D) (lo hi : Option Int) : Option PR := match d with
  | .str s => some (.sc (.str (cutL s lo hi)))
  | .lst ds => some (.nl (cutL ds lo hi))
  | .tup ds => some (.nt (cutL ds lo hi))
  | .scr ns => some (.nl ((cutL ns lo hi).map .int))
  | _ => none
def outI (ρ : Env) : D → Out (Option Int)
  | .int i => .ok (some i) ρ
  | _ => .bad
def part : Option SemE → Env → Out (Option Int)
  | none, ρ => .ok none ρ
  | some f, ρ => (f ρ).bind fun r ρ1 => outI ρ1 (val ρ1 r)
def eSl (fe : SemE) (lo hi : Option SemE) : SemE := fun ρ => (fe ρ).bind fun r ρ1 => (part lo ρ1).bind fun a ρ2 => (part hi ρ2).bind fun b ρ3 => outP ρ3 (gSl (val ρ3 r) a b)
theorem okE_outI (d : D) : okE fun ρ => outI ρ d := fun ρ => by cases d <;> first | exact LkE.refl ρ | trivial
theorem okE_part {o : Option SemE} (h : ∀ f, o = some f → okE f) : okE (part o) := by
  cases o with
  | none => exact okE_ok none
  | some f => exact okE_bind (h f rfl) fun r ρ => okE_outI (val ρ r) ρ
theorem okE_sl {fe : SemE} {lo hi : Option SemE} (h : okE fe) (h1 : okE (part lo)) (h2 : okE (part hi)) : okE (eSl fe lo hi) := okE_bind h fun r => okE_bind h1 fun a => okE_bind h2 fun b ρ => okE_outP (gSl (val ρ r) a b) ρ
structure SO (X : Cx) (c : XC) (W : WX) (o : Option Expr) (f : Option SemE) : Prop where
  ex : ∃ t, PO X o t ∧ ∀ σ H (Z : Option Int → Hp → Prop), (∃ F ρ, StR X.w X.K F H σ ρ ∧ match part f ρ with
    | .ok a ρ1 => ∀ F' H', StR X.w X.K F' H' σ ρ1 → Fr F H (ownS σ ρ) F' H' (ownS σ ρ1) → Z a H'
    | .exn x ρ1 => ∀ cls d F' H', StR X.w X.K F' H' σ ρ1 → XR X.w X.K c x cls d F' H' → Fr F H (ownS σ ρ) F' H' (ownS σ ρ1) → W cls d σ H'
    | .bad => False) → t σ H Z
  ok : okE (part f)
theorem so_none : SO X c W none none := ⟨⟨tNoPart, po_none, fun σ H Z ⟨F, ρ, S, h⟩ => h F H S Fr.refl⟩, okE_ok none⟩
theorem so_some {e : Expr} {f : SemE} (h : SE X c W e f) : SO X c W (some e) (some f) := by
  refine ⟨⟨_, po_some h.pe, fun σ H Z ⟨F, ρ, S, q⟩ => ?_⟩, okE_part fun g hg => by cases hg; exact h.ok⟩
  refine ⟨F, ρ, S, ?_⟩
  dsimp only [part] at q
  cases e : f ρ with
  | bad => rw [e] at q; exact q
  | exn x ρ1 => rw [e] at q; exact q
  | ok r ρ1 =>
    rw [e] at q
    simp only [Out.bind] at q
    intro v F1 H1 S1 e1 f1
    have t := e1.top S1
    generalize val ρ1 r = d at q t
    cases d <;> first | exact False.elim q | skip
    rename_i i
    exact ⟨i, t.int, q F1 H1 S1 (f1.imp ownR_slots)⟩
theorem RepL.cut {w : World} {K : PySem.W.Frag} {F : Hp} {vs : List V} {ds : List D} (r : RepL w K F vs ds) (lo hi : Option Int) : RepL w K F (cutV vs lo hi) (cutL ds lo hi) := by
  unfold cutV cutL
  rw [r.length]
  exact (r.drop _).take _
theorem okS_cut {s : List Nat} (h : okS s = true) (lo hi : Option Int) : okS (cutL s lo hi) = true := by
  unfold okS at *
  rw [List.all_eq_true] at *
  intro x hx
  exact h x (List.mem_of_mem_drop (List.mem_of_mem_take hx))
theorem cutL_length {α : Type} (xs : List α) (lo hi : Option Int) : (cutL xs lo hi).length ≤ xs.length := by
  unfold cutL
  rw [List.length_take, List.length_drop]
  omega
theorem sIx_all {n : Nat} {lo hi : Option Int} {α : Type} {xs : List α} (hn : xs.length = n) (h : HT.sIx n 0 lo = 0 ∧ HT.sIx n n hi = n) : cutL xs lo hi = xs := by
  unfold cutL
  rw [hn, h.1, h.2]
  simp [← hn]
theorem se_slice {e : Expr} {lo hi : Option Expr} {p2 : Pos} {fe : SemE} {fl fh : Option SemE} (he : SE X c W e fe) (hl : SO X c W lo fl) (hh : SO X c W hi fh) : SE X c W (.Subscript e (.Slice lo hi none p2) pos) (eSl fe fl fh) := by
  obtain ⟨⟨tl, pl, kl⟩, ol⟩ := hl
  obtain ⟨⟨th, ph, kh⟩, oh⟩ := hh
  refine ⟨PE.imp (pe_slice (sl_str.or (sl_list.or sl_tupA)) he.pe pl ph) fun σ H Q ⟨F, ρ, S, h⟩ => ?_, okE_sl he.ok ol oh⟩
  refine td_bind he.ok S h fun v r ρ1 F1 H1 l1 S1 e1 q1 => kl σ H1 _ ⟨F1, ρ1, S1, ?_⟩
  have m1 := ol ρ1
  cases ea : part fl ρ1 with
  | bad => rw [ea] at q1; exact q1
  | exn x ρ2 => rw [ea] at q1; exact q1
  | ok a ρ2 =>
    rw [ea] at q1 m1
    intro F2 H2 S2 f2
    have q2 := q1.step f2 fun _ z => z
    have er2 := e1.later S1 f2 (fun _ z => z) m1
    refine kh σ H2 _ ⟨F2, ρ2, S2, ?_⟩
    have m2 := oh ρ2
    simp only [Out.bind] at q2
    cases eb : part fh ρ2 with
    | bad => rw [eb] at q2; exact q2
    | exn x ρ3 => rw [eb] at q2; exact q2
    | ok b ρ3 =>
      rw [eb] at q2 m2
      intro F3 H3 S3 f3
      have er3 := er2.later S2 f3 (fun _ z => z) m2
      obtain ⟨p, hp, hq⟩ := out_prq S3 (Post.step (out := outP ρ3 (gSl (val ρ3 r) a b)) f3 (fun _ z => z) q2)
      have t := er3.top S3
      generalize val ρ3 r = d at hp t
      cases d <;> first | (cases hp; done) | skip
      · cases hp
        obtain ⟨rfl, o, l⟩ := t.str
        refine .inl ⟨_, rfl, by rw [mkS_length]; exact l, ?_⟩
        rename_i z
        have : L2.cutS (mkS z) a b = mkS (cutL z a b) := by
          show (⟨_⟩ : Str) = _
          rfl
        rw [this]
        exact hq _ (.str _ (okS_cut o a b) (Nat.le_trans (cutL_length _ _ _) l))
      · cases hp
        obtain ⟨ad, vs, rfl, h1, r1⟩ := t.tup S3.sub
        refine .inr (.inr ⟨ad, vs, rfl, h1, fun z => ?_, fun _ p n => hq.2 p _ n (r1.cut a b)⟩)
        rcases t with t | ⟨_, _, t⟩
        · have := hq.1 (.ref ad)
          rw [sIx_all r1.length.symm z] at this
          exact this t
        · exact False.elim t
      · cases hp
        obtain ⟨ad, vs, rfl, h1, r1⟩ := t.lst S3.sub
        exact .inr (.inl ⟨ad, vs, rfl, .of h1, fun p n => hq p _ n (r1.cut a b)⟩)
      · cases hp
        rename_i ns
        obtain ⟨ad, rfl, h1⟩ := t.scr S3.sub
        have ec : cutV (ns.map V.int) a b = (cutL ns a b).map V.int := by
          unfold cutV cutL
          rw [List.length_map, List.map_take, List.map_drop]
        have er : ∀ ms : List Int, RepL X.w X.K F3 (ms.map V.int) (ms.map WS.D.int) := fun ms => by
          induction ms with
          | nil => exact .nil
          | cons m ms ih => exact .cons (.int m) ih
        exact .inr (.inl ⟨ad, _, rfl, h1, fun p n => by rw [ec]; exact hq p _ n (er _)⟩)
end
end WS
/-! Wm: isinstance, built-ins by values. -/
namespace WS
open PySem L2

def tyN : D → String
  | .non => "NoneType"
  | .bl _ => "bool"
  | .int _ => "int"
  | .str _ => "str"
  | .tup _ => "tuple"
  | .lst _ => "list"
  | .dct _ => "dict"
  | .scr _ => "list"
  | .err _ _ => ""
def isNm (T n : String) : Bool := n == T || (T == "int" && n == "bool")
def isT (T : String) (d : D) : Bool := isNm T (tyN d)
def kAll (T : String) : Bool := names7.contains T && names7.all fun n => decide (kitB n T = some (isNm T n))
/-- the value of d's class -/
def ClsV (K : PySem.W.Frag) (d : D) (t : Value) : Prop := match d with
  | .err n _ => ∃ C, clsIs K n C ∧ t = .ref C
  | d => t = .type (tyN d)
theorem kAll_one {K : PySem.W.Frag} {T : String} (h : kAll T = true) (d : D) {t : Value} (ht : ClsV K d t) : PySem.W.kitOne K t (.type T) = some (isT T d) := by
  unfold kAll at h
  rw [Bool.and_eq_true] at h
  have hT : T ∈ names7 := by simpa using h.1
  have go : ∀ n ∈ names7, PySem.W.kitOne K (.type n) (.type T) = some (isNm T n) := fun n hn => kit_ty (of_decide_eq_true (List.all_eq_true.mp h.2 _ hn))
  cases d with
  | err n fs =>
    obtain ⟨C, hc, rfl⟩ := ht
    rw [hc.2.k7 T hT]
    simp only [names7, List.mem_cons, List.not_mem_nil, or_false] at hT
    rcases hT with rfl | rfl | rfl | rfl | rfl | rfl | rfl <;> rfl
  | _ => cases ht; exact go _ (by simp [tyN, names7])
theorem k_str : kAll "str" = true := by decide +kernel
theorem k_int : kAll "int" = true := by decide +kernel
theorem k_bool : kAll "bool" = true := by decide +kernel
theorem k_tuple : kAll "tuple" = true := by decide +kernel
theorem k_list : kAll "list" = true := by decide +kernel
theorem k_dict : kAll "dict" = true := by decide +kernel

section
variable {X : Cx} {c : XC} {W : WX} {pos : Pos}
theorem Top.kit {pins : List (Addr × Obj)} {σ : St} {F H : Hp} {s : Shared} {x : V} {u : Value} {d : D} (I : Inv X pins σ H s) (sb : Sub F H) (t : Top X.w X.K F H x d) (rx : RelV x u) :
    ∃ (t : Value) (P : Heap → Prop), ClsV X.K d t ∧ PySem.W.KitX X.K u t P ∧ P s.heap ∧ u ≠ .builtin "__main__.__loader__#opaque" := by
  cases d with
  | non => have := t.non; subst this; cases (show u = Value.none from rx); exact ⟨_, _, rfl, PySem.W.kitx_none, True.intro, fun z => nomatch z⟩
  | bl b => have := t.bl; subst this; cases (show u = Value.bool b from rx); exact ⟨_, _, rfl, PySem.W.kitx_bool, True.intro, fun z => nomatch z⟩
  | int i => have := t.int; subst this; obtain ⟨q, e⟩ := (show ∃ t, u = Value.int i t from rx); cases e; exact ⟨_, _, rfl, PySem.W.kitx_int, True.intro, fun z => nomatch z⟩
  | str z => obtain ⟨e, _⟩ := t.str; subst e; obtain ⟨q, e⟩ := (show ∃ t, u = Value.str (mkS z) t from rx); cases e; exact ⟨_, _, rfl, PySem.W.kitx_str, True.intro, fun z => nomatch z⟩
  | tup ds =>
    obtain ⟨a, vs, rfl, h, _⟩ := t.tup sb
    cases (show u = Value.ref a from rx)
    obtain ⟨its, _, ⟨o, e, h2, _⟩, _⟩ := I.tuple h
    exact ⟨_, _, rfl, PySem.W.kitx_tuple, ⟨o, e, h2⟩, fun z => nomatch z⟩
  | lst ds =>
    obtain ⟨a, vs, rfl, h, _⟩ := t.lst sb
    cases (show u = Value.ref a from rx)
    obtain ⟨_, _, n, _, h1⟩ := (show ObjOk X.prog X.w H s.heap a (.lst vs) from I.hok a _ h)
    exact ⟨_, _, rfl, PySem.W.kitx_list, ⟨_, h1, rfl⟩, fun z => nomatch z⟩
  | scr ns =>
    obtain ⟨a, rfl, h⟩ := t.scr sb
    cases (show u = Value.ref a from rx)
    obtain ⟨_, _, ⟨o, n, e, h1, _⟩, _⟩ := I.list h
    exact ⟨_, _, rfl, PySem.W.kitx_list, ⟨o, e, h1⟩, fun z => nomatch z⟩
  | dct kvs =>
    obtain ⟨a, ep, es, rfl, h, _⟩ := t.dct sb
    cases (show u = Value.ref a from rx)
    obtain ⟨⟨_, _, o, e, h1, _⟩, _⟩ := (show ObjOk X.prog X.w H s.heap a (dO a ep es) from I.hok a _ h)
    exact ⟨_, _, rfl, PySem.W.kitx_dict, ⟨o, e, h1.1⟩, fun z => nomatch z⟩
  | err n fs =>
    obtain ⟨a, C, dx, rfl, hc, h, hr⟩ := t.err sb
    cases (show u = Value.ref a from rx)
    obtain ⟨⟨oe, vs, e, z, hd⟩, _⟩ := (show ObjOk X.prog X.w H s.heap a (exT (.ref C) dx a) from I.hok a _ h)
    obtain ⟨g, hg⟩ := hc.2.gt
    have no : PySem.W.notCls oe = true := by unfold PySem.W.notCls; rw [hd]
    have z2 : oe.dict = dx := z.2
    cases hr with
    | nil => exact ⟨_, _, ⟨C, hc, rfl⟩, PySem.W.kitx_exc (ox := oe) (od := none) hc.2.cl hc.2.ga hg hc.2.sb hc.2.ca hc.2.sp hc.2.tk hc.2.mo, ⟨e, z.1, no, by rw [z2]; trivial⟩, fun z => nomatch z⟩
    | one fx _ =>
      obtain ⟨od, ho⟩ := objOk_get (I.hok _ _ (sb _ _ fx))
      exact ⟨_, _, ⟨C, hc, rfl⟩, PySem.W.kitx_exc (ox := oe) (od := some od) hc.2.cl hc.2.ga hg hc.2.sb hc.2.ca hc.2.sp hc.2.tk hc.2.mo, ⟨e, z.1, no, by rw [z2]; exact ho⟩, fun z => nomatch z⟩

/-- isinstance(x, T) -/
def gIsi (T : String) (d : D) : Option PR := some (.sc (.bl (isT T d)))
def rIsD (w : World) (K : PySem.W.Frag) : List V → Hp → VK → Prop := fun xs H Q => ∃ x F d T, xs = [x, .ty T] ∧ Sub F H ∧ Top w K F H x d ∧ kAll T = true ∧ Q (.bl (isT T d)) H
theorem cr_isi : CallR X (.builtin "isinstance") (rIsD X.w X.K) := by
  intro pins s σ H xs us Q I r h
  obtain ⟨x, F, d, T, rfl, sb, t, k, q⟩ := h
  obtain ⟨u1, u2, rfl, r1, r2⟩ := vals2 r
  cases (show u2 = Value.type T from r2)
  obtain ⟨t', P, ct, Z, p, hx⟩ := t.kit I sb r1
  exact PySem.W.kia_one Z I.kIn p (kAll_one k d ct) hx fun tk => ⟨.bl _, H, I.tok tk, rfl, q⟩
theorem se_isi {T : Str} {Tn : String} {p p' : Pos} {e : Expr} {f : SemE} (he : SE X c W e f) (hk : kAll Tn = true) (hg : Gl X "isinstance") (hm : X.mg "isinstance" = none) (hg' : Gl X T) (hm' : X.mg T = none) (hv' : bootBuiltins T = some (.type Tn)) (hn : T ≠ "__name__") (hd : (T == ("__debug__" : Str)) = false)
    (hs : starEach [e, .Name T p'] X.env = (false, eval e X.env) :: starEach [.Name T p'] X.env) : SE X c W (.Call (.Name "isinstance" p) [e, .Name T p'] [] pos) (eUn (gIsi Tn) f) := by
  refine ⟨PE.imp (pe_callB cr_isi hg hm (by decide +kernel) (pa_cons he.pe (pa_cons (pe_bltn (v := .ty Tn) hg' hm' hv' rfl hn hd) pa_nil) hs) (by decide) (by decide) hs) fun σ H Q h => ?_, okE_un he.ok⟩
  refine td_one (r := fun x H Q => rIsD X.w X.K [x, .ty Tn] H Q) he.ok (fun F H x d1 p Q s t e q => ?_) h
  cases e
  exact ⟨x, F, d1, Tn, rfl, s, t, hk, q _ (.bl _)⟩
/-- isinstance(x, (T, ..)) -/
def isTs (Ts : List String) (d : D) : Bool := Ts.any fun T => isT T d
def gIss (Ts : List String) (d : D) : Option PR := some (.sc (.bl (isTs Ts d)))
/-- isinstance(x, the tuple of vs): vs can only be us, and these answer b of d's class -/
def rIsRow (w : World) (K : PySem.W.Frag) : List V → Hp → VK → Prop := fun xs H Q => ∃ (x : V) (F : Hp) (d : D) (vs : List V) (us : List Value) (b : Bool) (tp : Addr),
  xs = [x, .ref tp] ∧ H tp = some (.tup vs) ∧ Sub F H ∧ Top w K F H x d ∧ (∀ us', Vals vs us' → us' = us) ∧ (∀ t, ClsV K d t → PySem.W.kitAny K t us = some b) ∧ Q (.bl b) H
theorem cr_isRow : CallR X (.builtin "isinstance") (rIsRow X.w X.K) := by
  rintro pins s σ H _ _ Q I rs ⟨x, F, d, vs, us, b, tp, rfl, at_, sub, top, only, ans, q⟩
  rcases vals2 rs with ⟨ux, _, rfl, rx, rfl⟩
  have obj := (I.hok tp _ at_ : ObjOk X.prog X.w H s.heap tp (.tup vs)).2
  rcases obj with ⟨items, same, ⟨_, _, _, _⟩, get, rfl, len, rfl⟩
  rcases only items same with rfl
  rcases top.kit I sub rx with ⟨cls, P, isCls, kit, pre, notLoader⟩
  exact PySem.W.kia_tup kit I.kIn pre get (ans cls isCls) notLoader fun tk => ⟨V.bl b, H, I.tok tk, rfl, q⟩
theorem kitAny_all {K : PySem.W.Frag} {d : D} {t : Value} (ct : ClsV K d t) : ∀ {Ts : List String}, (∀ T ∈ Ts, kAll T = true) → PySem.W.kitAny K t (Ts.map Value.type) = some (isTs Ts d)
  | [], _ => kitAny_nil
  | T :: Ts, h => by
    have h1 := kAll_one (K := K) (h T (List.mem_cons_self ..)) d ct
    refine kitAny_cons h1 (fun e => ?_) fun e => ?_
    · rw [kitAny_all ct fun T hT => h T (List.mem_cons_of_mem _ hT)]
      simp only [isTs, List.any_cons, e, Bool.false_or]
    · simp only [isTs, List.any_cons, e, Bool.true_or]
theorem types_vals : ∀ {Ts : List String} {us : List Value}, Vals (Ts.map V.ty) us → us = Ts.map Value.type
  | [], _, .nil => rfl
  | T :: Ts, _, .cons r t => by
    rw [List.map_cons, types_vals t]
    exact congrArg (· :: _) (show _ = Value.type T from r)
/-- a row of type names -/
inductive TyRow (X : Cx) : List Expr → List String → Prop
  | nil : TyRow X [] []
  | cons {T : Str} {Tn : String} {p : Pos} {es : List Expr} {Ts : List String} : kAll Tn = true → Gl X T → X.mg T = none → bootBuiltins T = some (.type Tn) → T ≠ "__name__" → (T == ("__debug__" : Str)) = false → starEach (.Name T p :: es) X.env = (false, eval (.Name T p) X.env) :: starEach es X.env →
      TyRow X es Ts → TyRow X (.Name T p :: es) (Tn :: Ts)
theorem TyRow.pa : ∀ {es : List Expr} {Ts : List String}, TyRow X es Ts → PA X es fun σ H Q => Q (Ts.map V.ty) H
  | _, _, .nil => pa_nil
  | _, _, .cons _ hg hm hv hn hd hs t => PA.imp (pa_cons (pe_bltn (v := .ty _) hg hm hv rfl hn hd) t.pa hs) fun σ H Q h => h
theorem TyRow.all : ∀ {es : List Expr} {Ts : List String}, TyRow X es Ts → ∀ T ∈ Ts, kAll T = true
  | _, _, .nil, _, h => nomatch h
  | _, _, .cons k _ _ _ _ _ _ t, T, h => by
    rcases List.mem_cons.mp h with rfl | h
    · exact k
    · exact t.all T h
theorem TyRow.len : ∀ {es : List Expr} {Ts : List String}, TyRow X es Ts → Ts.length = es.length
  | _, _, .nil => rfl
  | _, _, .cons _ _ _ _ _ _ _ t => congrArg (· + 1) t.len
theorem se_iss {Ts : List String} {p p' : Pos} {e : Expr} {es : List Expr} {ct} {f : SemE} (he : SE X c W e f) (ht : TyRow X es Ts) (hl : decide (es.length ≤ 1000) = true) (hg : Gl X "isinstance") (hm : X.mg "isinstance" = none)
    (hs : starEach [e, .Tuple es ct p'] X.env = (false, eval e X.env) :: starEach [.Tuple es ct p'] X.env) : SE X c W (.Call (.Name "isinstance" p) [e, .Tuple es ct p'] [] pos) (eUn (gIss Ts) f) := by
  refine ⟨PE.imp (pe_callB cr_isRow hg hm (by decide +kernel) (pa_cons he.pe (pa_cons (pe_tup ht.pa) pa_nil) hs) (by decide) (by decide) hs) fun σ H Q ⟨F, ρ, S, h⟩ => ?_, okE_un he.ok⟩
  refine td_bind he.ok S h fun x ra ρ1 F1 H1 l1 S1 e1 h1 => ?_
  have h1 : Post X.w X.K c W σ F1 H1 ρ1 (.ok (.fro (.bl (isTs Ts (val ρ1 ra)))) ρ1) Q := h1
  refine ⟨by rw [List.length_map, ht.len]; exact n1000 hl, fun q hq => ?_⟩
  have t1 := e1.top S1
  have kp := upd_keep (u := .tup (Ts.map V.ty)) hq
  have S2 : StR X.w X.K F1 (upd H1 q (.tup (Ts.map V.ty))) σ ρ1 := S1.new (S1.sub.new hq) (Sub.refl _) kp fun b z => .inl z
  refine ⟨x, F1, val ρ1 ra, _, Ts.map Value.type, _, q, rfl, upd_same, S2.sub, ?_, fun _ r => types_vals r, fun _ ct => kitAny_all ct ht.all, h1 _ F1 _ S2 (.bl _) ⟨fun b u z _ => kp b u z, fun b z => ?_, fun b u z => .inl z, Sub.refl _⟩⟩
  · rcases t1 with t1 | ⟨a, rfl, t1⟩
    · exact .inl t1
    · exact .inr ⟨a, rfl, t1.mono (Sub.refl _) (kp a)⟩
  · rcases z with z | ⟨d, z, _⟩
    · exact .inl z
    · cases z

/-! ### built-ins of one value -/
theorem vals_one {F H : Hp} {vs : List V} {ds : List D} {d : D} (h : Paired (Top X.w X.K F H) vs ds) (e : ds = [d]) : ∃ v, vs = [v] ∧ Top X.w X.K F H v d := by
  subst e
  cases h with
  | cons r t => cases t; exact ⟨_, rfl, r⟩
theorem vals_two {F H : Hp} {vs : List V} {ds : List D} {d d' : D} (h : Paired (Top X.w X.K F H) vs ds) (e : ds = [d, d']) : ∃ v v', vs = [v, v'] ∧ Top X.w X.K F H v d ∧ Top X.w X.K F H v' d' := by
  subst e
  cases h with
  | cons r t => cases t with | cons r2 t2 => cases t2; exact ⟨_, _, rfl, r, r2⟩
def g1 (g : D → Option PR) : List D → Option PR
  | [d] => g d
  | _ => none
theorem g1_some {g : D → Option PR} {ds : List D} {p : PR} (h : g1 g ds = some p) : ∃ d, ds = [d] ∧ g d = some p := by
  unfold g1 at h
  split at h
  · exact ⟨_, rfl, h⟩
  · cases h
def g2 (g : D → D → Option PR) : List D → Option PR
  | [d, e] => g d e
  | _ => none
theorem g2_some {g : D → D → Option PR} {ds : List D} {p : PR} (h : g2 g ds = some p) : ∃ d e, ds = [d, e] ∧ g d e = some p := by
  unfold g2 at h
  split at h
  · exact ⟨_, _, rfl, h⟩
  · cases h
/-- len -/
def gLen : D → Option PR
  | .str s => some (.sc (.int s.length))
  | .lst ds => some (.sc (.int ds.length))
  | .tup ds => some (.sc (.int ds.length))
  | .scr ns => some (.sc (.int ns.length))
  | .dct kvs => some (.sc (.int kvs.length))
  | _ => none
def rLenD (K : PySem.W.Frag) : List V → Hp → VK → Prop := fun xs H Q => (∃ x n, xs = [x] ∧ LenV K x H n ∧ Q (.int n) H) ∨ ∃ a ep es, xs = [.ref a] ∧ H a = some (dO a ep es) ∧ Q (.int es.length) H
theorem dO_here {pins : List (Addr × Obj)} {σ : St} {H : Hp} {s : Shared} {a : Addr} {n : Nat} {es : List DictEntry} (I : Inv X pins σ H s) (h : H a = some (dO a n es)) : (a == sysModules) = false ∧ es.length ≤ sizeLine ∧ ∃ o, s.heap.get? a = some o ∧ o.ExactDict ∧ o.data = .dict es.toArray n :=
  (show ObjOk X.prog X.w H s.heap a (dO a n es) from I.hok a _ h).1
theorem dO_at {pins : List (Addr × Obj)} {σ : St} {H : Hp} {s : Shared} {a : Addr} {n : Nat} {es : List DictEntry} (I : Inv X pins σ H s) (h : H a = some (dO a n es)) : (a == sysModules) = false ∧ es.length ≤ sizeLine ∧ ∃ ep, s.heap.DictRaw a es.toArray ep := by
  obtain ⟨h1, h2, o, e, h3, h4⟩ := dO_here I h
  exact ⟨h1, h2, n, ⟨o, e, h3, h4⟩⟩
theorem cr_len : CallR X (.builtin "len") (rLenD X.K) := by
  intro pins s σ H xs us Q I r h
  rcases h with h | ⟨a, ep0, es, rfl, ha, q⟩
  · exact call_len pins s σ H xs us Q I r h
  · obtain ⟨u, rfl, ru⟩ := vals1 r
    cases (show u = Value.ref a from ru)
    obtain ⟨h1, h2, ep, dr⟩ := dO_at I ha
    have h3 : ((es.toArray.size : Nat) : Int) < 2 ^ 63 := by have := line63; rw [List.size_toArray]; omega
    refine Calls.call_function_entry kind_len plain_len entry_len (args_len1 _) ?_
    unfold Builtin.«len»
    refine wpAny_bind (m := oneArg "len" _) (wpAny_pure (wpAny_bind (m := callSpecial? (.ref a) (Str.ofString "__len__")) ?_))
    refine wpAny_callSpecial?_slot (name := Str.ofString "__len__") dr.typeIs F.slot_dict_len (call_len_raw h1 dr ?_)
    refine wpAny_bind (wpAny_holding (wpAny_pure (wpAny_bind (wpAny_letGo ?_))))
    show wpAny _ _ (if ((es.toArray.size : Nat) : Int) < 0 then _ else _) _ _ _
    rw [if_neg (by omega)]
    show wpAny _ _ (if ((es.toArray.size : Nat) : Int) ≥ 2 ^ 63 then _ else _) _ _ _
    rw [if_neg (by omega)]
    exact wpAny_bind (wpAny_mkInt (wpAny_pure ⟨_, rfl, ⟨.int es.length, H, I.tok _, ⟨_, rfl⟩, q⟩⟩))
theorem RepE.length {w : World} {K : PySem.W.Frag} {F : Hp} : ∀ {kvs : List (D × D)} {es : List DictEntry}, RepE w K F es kvs → es.length = kvs.length
  | [], _, h => by cases h; rfl
  | (_, _) :: _, _, h => by cases h with | cons _ _ _ _ _ _ t => exact congrArg (· + 1) (RepE.length t)
theorem fn_len : FnG X (.builtin "len") (g1 gLen) := by
  refine ⟨_, cr_len, fun F H vs ds p Q s t e q => ?_⟩
  obtain ⟨d, rfl, e⟩ := g1_some e
  obtain ⟨v, rfl, tv⟩ := vals_one t rfl
  cases d with
  | str z =>
    obtain ⟨rfl, _, l⟩ := tv.str
    cases e
    exact .inl ⟨_, z.length, rfl, ⟨by rw [mkS_length]; exact l, (mkS_length _).symm⟩, q _ (.int _)⟩
  | lst ds =>
    obtain ⟨a, vs, rfl, h, r⟩ := tv.lst s
    cases e
    exact .inl ⟨_, vs.length, rfl, .inl ⟨vs, .of h, rfl⟩, by rw [r.length]; exact q _ (.int _)⟩
  | tup ds =>
    obtain ⟨a, vs, rfl, h, r⟩ := tv.tup s
    cases e
    exact .inl ⟨_, vs.length, rfl, .inr ⟨vs, h, rfl⟩, by rw [r.length]; exact q _ (.int _)⟩
  | scr ns =>
    obtain ⟨a, rfl, h⟩ := tv.scr s
    cases e
    exact .inl ⟨_, ns.length, rfl, .inl ⟨_, h, (List.length_map ..).symm⟩, q _ (.int _)⟩
  | dct kvs =>
    obtain ⟨a, ep, es, rfl, h, r, _⟩ := tv.dct s
    cases e
    exact .inr ⟨a, ep, es, rfl, h, by rw [r.length]; exact q _ (.int _)⟩
  | _ => cases e
/-- abs -/
def gAbs : D → Option PR
  | .int i => some (.sc (.int (if i < 0 then -i else i)))
  | _ => none
theorem fn_abs : FnG X (.builtin "abs") (g1 gAbs) := by
  refine ⟨_, call_abs, fun F H vs ds p Q s t e q => ?_⟩
  obtain ⟨d, rfl, e⟩ := g1_some e
  obtain ⟨v, rfl, tv⟩ := vals_one t rfl
  cases d with
  | int i => cases e; have := tv.int; subst this; exact ⟨i, rfl, q _ (.int _)⟩
  | _ => cases e
/-- int -/
def gInt : D → Option PR
  | .int i => some (.sc (.int i))
  | .bl b => some (.sc (.int (if b then 1 else 0)))
  | _ => none
theorem fn_int : FnG X (.type "int") (g1 gInt) := by
  refine ⟨_, call_int1, fun F H vs ds p Q s t e q => ?_⟩
  obtain ⟨d, rfl, e⟩ := g1_some e
  obtain ⟨v, rfl, tv⟩ := vals_one t rfl
  cases d with
  | int i => cases e; have := tv.int; subst this; exact .inl ⟨i, rfl, q _ (.int _)⟩
  | bl b => cases e; have := tv.bl; subst this; exact .inr ⟨b, rfl, q _ (.int _)⟩
  | _ => cases e
/-- min, max of two numbers -/
def gMin : D → D → Option PR
  | .int i, .int j => some (.sc (.int (if j < i then j else i)))
  | _, _ => none
def gMax : D → D → Option PR
  | .int i, .int j => some (.sc (.int (if j > i then j else i)))
  | _, _ => none
theorem fn_min (hc : X.calm = true) : FnG X (.builtin "min") (g2 gMin) := by
  refine ⟨_, call_min2 hc, fun F H vs ds p Q s t e q => ?_⟩
  obtain ⟨d, d', rfl, e⟩ := g2_some e
  cases d with
  | int i =>
    cases d' with
    | int j =>
      obtain ⟨v, v', rfl, tv, tv'⟩ := vals_two t rfl
      cases e; have := tv.int; subst this; have := tv'.int; subst this; exact ⟨_, _, rfl, q _ (.int _)⟩
    | _ => cases e
  | _ => cases e
theorem fn_max (hc : X.calm = true) : FnG X (.builtin "max") (g2 gMax) := by
  refine ⟨_, call_max2 hc, fun F H vs ds p Q s t e q => ?_⟩
  obtain ⟨d, d', rfl, e⟩ := g2_some e
  cases d with
  | int i =>
    cases d' with
    | int j =>
      obtain ⟨v, v', rfl, tv, tv'⟩ := vals_two t rfl
      cases e; have := tv.int; subst this; have := tv'.int; subst this; exact ⟨_, _, rfl, q _ (.int _)⟩
    | _ => cases e
  | _ => cases e
/-- all, any of a list of truths -/
def bls : List D → Option (List Bool)
  | [] => some []
  | .bl b :: ds => (bls ds).map (b :: ·)
  | _ :: _ => none
def gAll : D → Option PR
  | .lst ds => (bls ds).map fun bs => .sc (.bl (bs.all id))
  | _ => none
def gAny : D → Option PR
  | .lst ds => (bls ds).map fun bs => .sc (.bl (bs.any id))
  | _ => none
theorem bls_rep {w : World} {K : PySem.W.Frag} {F : Hp} : ∀ {ds : List D} {bs : List Bool} {vs : List V}, bls ds = some bs → RepL w K F vs ds → vs = bs.map V.bl
  | [], _, _, h, r => by cases h; cases r; rfl
  | d :: ds, bs, _, h, r => by
    cases r with
    | cons r1 r2 =>
      cases d with
      | bl b =>
        cases r1
        unfold bls at h
        cases e : bls ds with
        | none => rw [e] at h; cases h
        | some bs' =>
          rw [e] at h; cases h
          rw [bls_rep e r2]; rfl
      | _ => cases h
theorem fn_all (hc : X.calm = true) : FnG X (.builtin "all") (g1 gAll) := by
  refine ⟨_, cr_all hc, fun F H vs ds p Q s t e q => ?_⟩
  obtain ⟨d, rfl, e⟩ := g1_some e
  obtain ⟨v, rfl, tv⟩ := vals_one t rfl
  cases d with
  | lst ds =>
    obtain ⟨a, vs, rfl, h, r⟩ := tv.lst s
    have e : (bls ds).map (fun bs => PR.sc (.bl (bs.all id))) = some p := e
    cases eb : bls ds with
    | none => rw [eb] at e; cases e
    | some bs =>
      rw [eb] at e; cases e
      have := bls_rep eb r
      subst this
      exact ⟨a, bs, rfl, .of h, q _ (.bl _)⟩
  | _ => cases e
theorem fn_any (hc : X.calm = true) : FnG X (.builtin "any") (g1 gAny) := by
  refine ⟨_, cr_any hc, fun F H vs ds p Q s t e q => ?_⟩
  obtain ⟨d, rfl, e⟩ := g1_some e
  obtain ⟨v, rfl, tv⟩ := vals_one t rfl
  cases d with
  | lst ds =>
    obtain ⟨a, vs, rfl, h, r⟩ := tv.lst s
    have e : (bls ds).map (fun bs => PR.sc (.bl (bs.any id))) = some p := e
    cases eb : bls ds with
    | none => rw [eb] at e; cases e
    | some bs =>
      rw [eb] at e; cases e
      have := bls_rep eb r
      subst this
      exact ⟨a, bs, rfl, .of h, q _ (.bl _)⟩
  | _ => cases e
/-- list(..), tuple(..) of a list or a tuple -/
def gListOf : D → Option PR
  | .lst ds => some (.nl ds)
  | .tup ds => some (.nl ds)
  | _ => none
def gTupOf : D → Option PR
  | .lst ds => some (.nt ds)
  | .tup ds => some (.nt ds)
  | _ => none
theorem fn_list : FnG X (.type "list") (g1 gListOf) := by
  refine ⟨_, call_list_of, fun F H vs ds p Q s t e q => ?_⟩
  obtain ⟨d, rfl, e⟩ := g1_some e
  obtain ⟨v, rfl, tv⟩ := vals_one t rfl
  cases d with
  | lst ds =>
    obtain ⟨a, vs, rfl, h, r⟩ := tv.lst s
    cases e
    exact ⟨a, vs, rfl, .inl (.of h), fun l hl => q l vs hl r⟩
  | tup ds =>
    obtain ⟨a, vs, rfl, h, r⟩ := tv.tup s
    cases e
    exact ⟨a, vs, rfl, .inr h, fun l hl => q l vs hl r⟩
  | _ => cases e
theorem fn_tup : FnG X (.type "tuple") (g1 gTupOf) := by
  refine ⟨_, call_tuple_of, fun F H vs ds p Q s t e q => ?_⟩
  obtain ⟨d, rfl, e⟩ := g1_some e
  obtain ⟨v, rfl, tv⟩ := vals_one t rfl
  cases d with
  | lst ds =>
    obtain ⟨a, vs, rfl, h, r⟩ := tv.lst s
    cases e
    exact ⟨a, vs, rfl, .inl ⟨.of h, fun l hl => q.2 l vs hl r⟩⟩
  | tup ds =>
    cases e
    rcases tv with tv | ⟨a, _, tv⟩
    · cases tv with
      | tup h r => exact ⟨_, _, rfl, .inr ⟨SqT_sub s h, q.1 _ (.tup h r)⟩⟩
    · exact False.elim tv
  | _ => cases e
end
end WS
/-! Wn: dicts whose keys are of mixed kinds, by their raw entries. -/
namespace WS
open PySem L2

section
variable {prog : Program} {w : World} {A : Around} {E : Value → Shared → Prop} {s : Shared}
/-- the entries of a dict and their keys -/
structure KDi (w : World) (h : Heap) (d : Addr) (es : List DictEntry) (ks : List NestedKey) : Prop where
  raw : ∃ ep, h.DictRaw d es.toArray ep
  len : es.length = ks.length
  it : ∀ (j : Nat) e k, es[j]? = some e → ks[j]? = some k → NestedIs h k e.key ∧ k.depth ≤ 8 ∧ e.hash = k.hash w
  nd : ks.Nodup
theorem KDi.typ {d : Addr} {es : List DictEntry} {ks : List NestedKey} (x : KDi w s.heap d es ks) : s.TypeIs (.ref d) "dict" := by
  obtain ⟨_, r⟩ := x.raw
  exact r.typeIs
theorem nd_get {α : Type} {l : List α} (h : l.Nodup) {i j : Nat} {x : α} (hi : l[i]? = some x) (hj : l[j]? = some x) : i = j :=
  (List.getElem?_inj (List.getElem?_eq_some_iff.mp hi).1 h).mp (hi.trans hj.symm)
theorem KDi.at {d : Addr} {es : List DictEntry} {ks : List NestedKey} (x : KDi w s.heap d es ks) {j : Nat} {e : DictEntry} (h : es[j]? = some e) : ∃ k, ks[j]? = some k ∧ NestedIs s.heap k e.key ∧ k.depth ≤ 8 ∧ e.hash = k.hash w := by
  have hj : j < ks.length := by rw [← x.len]; exact (List.getElem?_eq_some_iff.mp h).1
  exact ⟨ks[j], List.getElem?_eq_getElem hj, x.it j e _ h (List.getElem?_eq_getElem hj)⟩
theorem KDi.of {d : Addr} {es : List DictEntry} {ks : List NestedKey} (x : KDi w s.heap d es ks) {j : Nat} {k : NestedKey} (h : ks[j]? = some k) : ∃ e, es[j]? = some e ∧ NestedIs s.heap k e.key ∧ k.depth ≤ 8 ∧ e.hash = k.hash w := by
  have hj : j < es.length := by rw [x.len]; exact (List.getElem?_eq_some_iff.mp h).1
  exact ⟨es[j], List.getElem?_eq_getElem hj, x.it j _ k (List.getElem?_eq_getElem hj) h⟩
/-- where a key may stand -/
def spots (es : List DictEntry) (h : Int) : List Nat := placesWithHash es.toArray.size (fun i => es.toArray[i]?.map (·.hash)) h
theorem spots_mem {es : List DictEntry} {h : Int} {j : Nat} : j ∈ spots es h ↔ ∃ e, es[j]? = some e ∧ e.hash = h := by
  unfold spots placesWithHash
  rw [List.mem_filter, List.mem_range]
  constructor
  · rintro ⟨h1, h2⟩
    have h1' : j < es.length := by simpa using h1
    refine ⟨es[j], List.getElem?_eq_getElem h1', ?_⟩
    simpa [h1'] using h2
  · rintro ⟨e, h1, h2⟩
    obtain ⟨h3, h4⟩ := List.getElem?_eq_some_iff.mp h1
    exact ⟨by simpa using h3, by simp [h1, h2]⟩
theorem spots_nd {es : List DictEntry} {h : Int} : (spots es h).Nodup := List.Nodup.sublist List.filter_sublist List.nodup_range
theorem KDi.spot {d : Addr} {es : List DictEntry} {ks : List NestedKey} (x : KDi w s.heap d es ks) {k : NestedKey} (h : k ∈ ks) : ∃ j, j ∈ spots es (k.hash w) ∧ ks[j]? = some k := by
  obtain ⟨j, hj⟩ := List.mem_iff_getElem?.mp h
  obtain ⟨e, h1, _, _, h2⟩ := x.of hj
  exact ⟨j, spots_mem.mpr ⟨e, h1, h2⟩, hj⟩
theorem NestedIs.val_depth {h : Heap} {k : NestedKey} {v : Value} (hv : carriedByValue v = true) (hk : NestedIs h k v) : k.depth = 0 := by
  cases hk with
  | tup => cases hv
  | _ => rfl
/-- the walk over keys that are plain values -/
theorem walk_plain {d : Addr} {es : List DictEntry} {ks : List NestedKey} {k : NestedKey} {key : Value} {Q : Option Nat → Shared → Prop} (x : KDi w s.heap d es ks) (hk : NestedIs s.heap k key) (hd : k.depth ≤ 8) (hu : A.units + 8 < cLine)
    (h1 : ∀ j, ks[j]? = some k → Q (some j) s) (h0 : k ∉ ks → Q none s) : wpAny (model prog w) A (dictWalkPlain d key (k.hash w) es.toArray (spots es (k.hash w))) Q E s := by
  obtain ⟨ep, o, ho, hx, hdt⟩ := x.raw
  refine wpAny_bind (wpAny_forIn_list _ (fun rest b s' => s' = s ∧ b = (none, ()) ∧ ∃ pre, spots es (k.hash w) = pre ++ rest ∧ ∀ j ∈ pre, ks[j]? ≠ some k) _ ?_ ?_ _ _ ⟨rfl, rfl, [], rfl, fun _ z => nomatch z⟩)
  · rintro i rest b s' ⟨rfl, rfl, pre, e1, no⟩
    obtain ⟨e, he, hh⟩ := spots_mem.mp (show i ∈ spots es (k.hash w) by rw [e1]; simp)
    obtain ⟨k', hk', n', dp', _⟩ := x.at he
    have he' : es.toArray[i]? = some e := by simpa using he
    have nxt : k' ≠ k → ∃ pre', spots es (k.hash w) = pre' ++ rest ∧ ∀ j ∈ pre', ks[j]? ≠ some k := fun hne => by
      refine ⟨pre ++ [i], by rw [e1, List.append_assoc]; rfl, fun j hj => ?_⟩
      rcases List.mem_append.mp hj with hj | hj
      · exact no j hj
      · rw [List.mem_singleton.mp hj, hk']
        exact fun z => hne (Option.some.inj z)
    simp only [he']
    rw [if_pos (by simpa using hh)]
    refine wpAny_bind (wpAny_dictEpoch ho hdt (wpAny_bind (eqAt_key k' k A _ _ _ n' hk (by omega) _ _ _ _ (wpAny_bind (wpAny_dictEpoch ho hdt ?_)))))
    rw [if_neg (by simp), ← NestedKey.decide_eq]
    by_cases hkk : k' = k
    · subst hkk
      rw [decide_eq_true rfl]
      exact wpAny_bind (wpAny_rule (wpAny_pure (wpAny_pure (h1 i hk'))))
    · rw [decide_eq_false hkk]
      exact wpAny_bind (wpAny_rule (wpAny_pure ⟨rfl, rfl, nxt hkk⟩))
  · rintro b s' ⟨rfl, rfl, pre, e1, no⟩
    refine wpAny_pure (h0 fun hm => ?_)
    obtain ⟨j, hj, hj'⟩ := x.spot hm
    rw [e1, List.append_nil] at hj
    exact no j hj hj'
theorem tells_quiet {k : NestedKey} {key : Value} {stored : List Value} {Q : Bool → Shared → Prop} (hk : NestedIs s.heap k key) (hd : k.depth ≤ 8) (hs : ∀ v ∈ stored, ∃ k', NestedIs s.heap k' v ∧ k'.depth ≤ 8) (h : Q false s) :
    wpAny (model prog w) A (tableMayTell key stored) Q E s := by
  unfold tableMayTell
  split
  · exact wpAny_pure h
  · refine wpAny_bind (quiet_key k _ 8 s hk hd A E _ ?_)
    simp only [Bool.not_true, Bool.false_eq_true, if_false]
    refine wpAny_bind (wpAny_forIn_list _ (fun rest r s' => s' = s ∧ r = (none, ()) ∧ ∀ v ∈ rest, ∃ k', NestedIs s.heap k' v ∧ k'.depth ≤ 8) _ ?_ ?_ _ _ ⟨rfl, rfl, hs⟩)
    · rintro y rest r s' ⟨rfl, rfl, hr⟩
      obtain ⟨k', n', d'⟩ := hr y (List.mem_cons_self ..)
      refine wpAny_bind (quiet_key k' _ 8 _ n' d' A E _ ?_)
      simp only [Bool.not_true, Bool.false_eq_true, if_false]
      exact wpAny_pure ⟨rfl, rfl, fun v hv => hr v (List.mem_cons_of_mem _ hv)⟩
    · rintro r s' ⟨rfl, rfl, _⟩
      exact wpAny_pure h
/-- a key is looked up -/
theorem dfind {d : Addr} {es : List DictEntry} {ks : List NestedKey} {k : NestedKey} {key : Value} {Q : Option Nat → Shared → Prop} (x : KDi w s.heap d es ks) (hk : NestedIs s.heap k key) (hd : k.depth ≤ 8) (hu : A.units + 8 < cLine)
    (h1 : ∀ j, ks[j]? = some k → Q (some j) s) (h0 : k ∉ ks → Q none s) : wpAny (model prog w) A (dictFind d key (k.hash w)) Q E s := by
  obtain ⟨ep, o, ho, hx, hdt⟩ := id x.raw
  by_cases hstr : (isExactStrKey key && es.toArray.all fun e => isExactStrKey e.key) = true
  · rw [Bool.and_eq_true] at hstr
    cases hk with
    | text z t =>
      refine PyProof.Rows.KTD.kt_dictFind_strs ho hdt hstr.2 ?_
      cases hf : es.toArray.findIdx? fun e => e.key.isStr z with
      | none =>
        refine h0 fun hm => ?_
        obtain ⟨j, hj⟩ := List.mem_iff_getElem?.mp hm
        obtain ⟨e, he, n, _⟩ := x.of hj
        have := Array.findIdx?_eq_none_iff.mp hf e (by simpa using List.mem_of_getElem? he)
        cases hq : e.key with
        | str y u => rw [hq] at n this; cases n; simp [Value.isStr] at this
        | _ => rw [hq] at n; cases n
      | some i =>
        obtain ⟨hlt, hi, _⟩ := Array.findIdx?_eq_some_iff_getElem.mp hf
        have hl : i < es.length := by simpa using hlt
        obtain ⟨k', hk', n, _⟩ := x.at (List.getElem?_eq_getElem hl)
        refine h1 i ?_
        rw [hk']
        obtain ⟨t', ht⟩ := PyProof.Rows.KTD.kt_isStr hi
        have ht : es[i].key = .str z t' := by simpa using ht
        rw [ht] at n
        cases n; rfl
    | _ => cases hstr.1
  have hst : ∀ v ∈ (spots es (k.hash w)).filterMap (fun i => es.toArray[i]?.map (·.key)), ∃ k', NestedIs s.heap k' v ∧ k'.depth ≤ 8 := by
    intro v hv
    obtain ⟨i, _, hi⟩ := List.mem_filterMap.mp hv
    cases he : es.toArray[i]? with
    | none => rw [he] at hi; cases hi
    | some e =>
      rw [he] at hi
      have hi : e.key = v := by simpa using hi
      obtain ⟨k', _, n, d', _⟩ := x.at (j := i) (e := e) (by simpa using he)
      exact ⟨k', hi ▸ n, d'⟩
  have stale : ¬ (es.toArray.any fun e => e.key == key && e.hash != k.hash w) = true := by
    rw [← Array.any_toList, List.any_eq_true]
    rintro ⟨e, hin, hc⟩
    obtain ⟨i, hi⟩ := List.mem_iff_getElem?.mp hin
    obtain ⟨k', _, n, _, hh⟩ := x.at (j := i) (e := e) (by simpa using hi)
    rw [Bool.and_eq_true] at hc
    have e1 : e.key = key := by simpa using hc.1
    rw [e1] at n
    rw [NestedIs.inj _ _ _ n hk] at hh
    have := hc.2
    rw [hh] at this
    simp at this
  have plain := walk_plain (prog := prog) (Q := Q) x hk hd hu h1 h0 (E := E)
  have hsp : placesWithHash es.toArray.size (fun i => es.toArray[i]?.map (·.hash)) (k.hash w) = spots es (k.hash w) := rfl
  unfold dictFind
  try with_reducible refine wpAny_holding ?_
  refine wpAny_bind (wpAny_dictEntries ho hdt ?_)
  rw [hsp]
  cases key
  all_goals
    dsimp only
    try rw [if_neg (by simpa [isExactStrKey] using hstr)]
    refine wpAny_ite_split (fun _ => plain) fun _ => ?_
    try rw [if_neg stale]
    generalize hst' : (spots es (k.hash w)).filterMap (fun i => es.toArray[i]?.map (·.key)) = stored at hst ⊢
    refine wpAny_ite_split (fun _ => wpAny_bind (wpAny_pure ?_)) fun _ => wpAny_bind (tells_quiet hk hd hst ?_)
  all_goals
    rw [if_neg (by simp)]
    refine wpAny_bind (wpAny_forIn_list _ (fun rest b s' => s' = s ∧ ∃ hit, b = (none, hit) ∧ ∃ pre, spots es (k.hash w) = pre ++ rest ∧ ((hit = none ∧ ∀ j ∈ pre, ks[j]? ≠ some k) ∨ ∃ j ∈ pre, hit = some j ∧ ks[j]? = some k)) _ ?_ ?_ _ _ ⟨rfl, none, rfl, [], rfl, .inl ⟨rfl, fun _ z => nomatch z⟩⟩)
    · rintro i rest b s' ⟨rfl, hit, rfl, pre, e1, hH⟩
      obtain ⟨e, he, hh⟩ := spots_mem.mp (show i ∈ spots es (k.hash w) by rw [e1]; simp)
      obtain ⟨k', hk', n', dp', _⟩ := x.at he
      have he' : es.toArray[i]? = some e := by simpa using he
      have e2 : spots es (k.hash w) = (pre ++ [i]) ++ rest := by rw [e1, List.append_assoc]; rfl
      have ni : ∀ j ∈ pre, j ≠ i := fun j hj z => by
        have nd := spots_nd (es := es) (h := k.hash w)
        rw [e1, List.nodup_append] at nd
        exact nd.2.2 j hj i (List.mem_cons_self ..) z
      have keep : k' ≠ k → (hit = none ∧ ∀ j ∈ pre ++ [i], ks[j]? ≠ some k) ∨ ∃ j ∈ pre ++ [i], hit = some j ∧ ks[j]? = some k := fun hne => by
        rcases hH with ⟨a, no⟩ | ⟨j, hj, a, q⟩
        · refine .inl ⟨a, fun j hj => ?_⟩
          rcases List.mem_append.mp hj with hj | hj
          · exact no j hj
          · rw [List.mem_singleton.mp hj, hk']
            exact fun z => hne (Option.some.inj z)
        · exact .inr ⟨j, List.mem_append.mpr (.inl hj), a, q⟩
      simp only [he']
      rw [if_pos (by simpa using hh)]
      refine wpAny_bind (wpAny_dictEpoch ho hdt (wpAny_bind (eqAt_key k' k A _ _ _ n' hk (by omega) _ _ _ _ (wpAny_bind (wpAny_dictEpoch ho hdt ?_)))))
      rw [if_neg (by simp), ← NestedKey.decide_eq]
      by_cases hkk : k' = k
      · subst hkk
        rw [decide_eq_true rfl]
        have h0' : hit = none := by
          rcases hH with ⟨a, _⟩ | ⟨j, hj, _, q⟩
          · exact a
          · exact absurd (nd_get x.nd q hk') (ni j hj)
        subst h0'
        simp only [Option.isSome_none, Bool.false_eq_true, if_false, if_true]
        refine wpAny_bind (wpAny_rule (wpAny_ite_split (fun _ => wpAny_pure (wpAny_pure (h1 i hk'))) fun _ => wpAny_pure ⟨rfl, some i, rfl, pre ++ [i], e2, .inr ⟨i, by simp, rfl, hk'⟩⟩))
      · rw [decide_eq_false hkk]
        simp only [Bool.false_eq_true, if_false, Bool.false_and]
        exact wpAny_bind (wpAny_rule (wpAny_pure ⟨rfl, hit, rfl, pre ++ [i], e2, keep hkk⟩))
    · rintro b s' ⟨rfl, hit, rfl, pre, e1, hH⟩
      rw [List.append_nil] at e1
      rcases hH with ⟨rfl, no⟩ | ⟨j, _, rfl, q⟩
      · refine wpAny_pure (h0 fun hm => ?_)
        obtain ⟨j, hj, hj'⟩ := x.spot hm
        exact no j (e1 ▸ hj) hj'
      · exact wpAny_pure (h1 j q)

theorem dget {d : Addr} {es : List DictEntry} {ks : List NestedKey} {k : NestedKey} {key : Value} {Q : Option Value → Shared → Prop} (x : KDi w s.heap d es ks) (hk : NestedIs s.heap k key) (hd : k.depth ≤ 8) (hu : A.units + 8 < cLine)
    (h1 : ∀ (j : Nat) e, ks[j]? = some k → es[j]? = some e → Q (some e.val) { s with toks := s.toks + k.draws }) (h0 : k ∉ ks → Q none { s with toks := s.toks + k.draws }) : wpAny (model prog w) A (dictGet d key) Q E s := by
  obtain ⟨ep, o, ho, hx, hdt⟩ := id x.raw
  unfold dictGet
  try with_reducible refine wpAny_holding ?_
  have x' : KDi w ({ s with toks := s.toks + k.draws } : Shared).heap d es ks := x
  refine wpAny_bind (pyHash_key k key A s _ hk (by omega) (wpAny_bind (dfind x' hk hd hu (fun j hj => ?_) fun hn => wpAny_pure (h0 hn))))
  obtain ⟨e, he, _⟩ := x.of hj
  refine wpAny_bind (wpAny_dictEntries (s := { s with toks := s.toks + k.draws }) ho hdt (wpAny_pure ?_))
  rw [show es.toArray[j]? = some e by simpa using he]
  exact h1 j e hj he
theorem dset {d : Addr} {es : List DictEntry} {ks : List NestedKey} {k : NestedKey} {key v : Value} {Q : Unit → Shared → Prop} (x : KDi w s.heap d es ks) (hk : NestedIs s.heap k key) (hd : k.depth ≤ 8) (hu : A.units + 8 < cLine) (hz : es.length ≤ sizeLine)
    (h1 : ∀ (j : Nat) h' ep, ks[j]? = some k → h'.DictRaw d (es.modify j fun e => { e with val := v }).toArray ep → Heap.SameBut d s.heap h' → Q () { s with heap := h', toks := s.toks + k.draws })
    (h0 : ∀ h' ep, k ∉ ks → h'.DictRaw d (es ++ [(⟨k.hash w, key, v⟩ : DictEntry)]).toArray ep → Heap.SameBut d s.heap h' → Q () { s with heap := h', toks := s.toks + k.draws }) : wpAny (model prog w) A (dictSet d key v) Q E s := by
  obtain ⟨ep, o, ho, hx, hdt⟩ := id x.raw
  unfold dictSet
  try with_reducible refine wpAny_holding ?_
  have x' : KDi w ({ s with toks := s.toks + k.draws } : Shared).heap d es ks := x
  refine wpAny_bind (pyHash_key k key A s _ hk (by omega) ?_)
  unfold dictSetHashed
  try with_reducible refine wpAny_holding ?_
  refine wpAny_bind (dfind x' hk hd hu (fun j hj => ?_) fun hn => ?_)
  · refine wpAny_bind (wpAny_rule (wpAny_bind (wpAny_updateDict (s := { s with toks := s.toks + k.draws }) ho hdt (wpAny_point (h1 j _ ep hj ⟨_, Heap.get?_update_self _ ho (Obj.isFreed_of_dict (Obj.data_mapDict hdt _)), hx.mapDict _, ?_⟩ (Heap.SameBut.update ..))))))
    rw [Obj.data_mapDict hdt]
    simp
  · refine wpAny_bind (wpAny_rule (wpAny_updateDictKeys (hz := by simpa using hz) (s := { s with toks := s.toks + k.draws }) ho hdt (h0 _ (ep + 1) hn ⟨_, Heap.get?_update_self _ ho (Obj.isFreed_of_dict (Obj.data_mapDictKeys hdt _)), hx.mapDictKeys _, ?_⟩ (Heap.SameBut.update ..))))
    rw [Obj.data_mapDictKeys hdt]
    simp
theorem dsetd {d : Addr} {es : List DictEntry} {ks : List NestedKey} {k : NestedKey} {key v : Value} {Q : Value → Shared → Prop} (x : KDi w s.heap d es ks) (hk : NestedIs s.heap k key) (hd : k.depth ≤ 8) (hu : A.units + 8 < cLine) (hz : es.length ≤ sizeLine)
    (h1 : ∀ (j : Nat) e, ks[j]? = some k → es[j]? = some e → Q e.val { s with toks := s.toks + k.draws })
    (h0 : ∀ h' ep, k ∉ ks → h'.DictRaw d (es ++ [(⟨k.hash w, key, v⟩ : DictEntry)]).toArray ep → Heap.SameBut d s.heap h' → Q v { s with heap := h', toks := s.toks + k.draws }) : wpAny (model prog w) A (dictSetDefault d key v) Q E s := by
  obtain ⟨ep, o, ho, hx, hdt⟩ := id x.raw
  unfold dictSetDefault
  try with_reducible refine wpAny_holding ?_
  have x' : KDi w ({ s with toks := s.toks + k.draws } : Shared).heap d es ks := x
  refine wpAny_bind (pyHash_key k key A s _ hk (by omega) (wpAny_bind (dfind x' hk hd hu (fun j hj => ?_) fun hn => ?_)))
  · obtain ⟨e, he, _⟩ := x.of hj
    refine wpAny_bind (wpAny_dictEntries (s := { s with toks := s.toks + k.draws }) ho hdt ?_)
    rw [show es.toArray[j]? = some e by simpa using he]
    exact wpAny_bind (wpAny_rule (wpAny_pure (h1 j e hj he)))
  · refine wpAny_bind (wpAny_rule (wpAny_bind (wpAny_updateDictKeys (hz := by simpa using hz) (s := { s with toks := s.toks + k.draws }) ho hdt (wpAny_pure (h0 _ (ep + 1) hn ⟨_, Heap.get?_update_self _ ho (Obj.isFreed_of_dict (Obj.data_mapDictKeys hdt _)), hx.mapDictKeys _, ?_⟩ (Heap.SameBut.update ..))))))
    rw [Obj.data_mapDictKeys hdt]
    simp
theorem dtake {d : Addr} {es : List DictEntry} {ks : List NestedKey} {k : NestedKey} {key : Value} {Q : Option DictEntry → Shared → Prop} (x : KDi w s.heap d es ks) (hk : NestedIs s.heap k key) (hd : k.depth ≤ 8) (hu : A.units + 8 < cLine) (hz : es.length ≤ sizeLine)
    (h1 : ∀ (j : Nat) e h' ep, ks[j]? = some k → es[j]? = some e → h'.DictRaw d (es.eraseIdx j).toArray ep → Heap.SameBut d s.heap h' → Q (some e) { s with heap := h', toks := s.toks + k.draws })
    (h0 : k ∉ ks → Q none { s with toks := s.toks + k.draws }) : wpAny (model prog w) A (Builtin.Dict.takeOut d key) Q E s := by
  obtain ⟨ep, o, ho, hx, hdt⟩ := id x.raw
  unfold Builtin.Dict.takeOut
  try with_reducible refine wpAny_holding ?_
  have x' : KDi w ({ s with toks := s.toks + k.draws } : Shared).heap d es ks := x
  refine wpAny_bind (pyHash_key k key A s _ hk (by omega) (wpAny_bind (dfind x' hk hd hu (fun j hj => ?_) fun hn => wpAny_pure (h0 hn))))
  obtain ⟨e, he, _⟩ := x.of hj
  refine wpAny_bind (wpAny_dictEntries (s := { s with toks := s.toks + k.draws }) ho hdt ?_)
  rw [show es.toArray[j]? = some e by simpa using he]
  refine wpAny_bind (wpAny_updateDictKeys (hz := by simpa using hz) (s := { s with toks := s.toks + k.draws }) ho hdt (wpAny_pure (h1 j e _ (ep + 1) hj he ⟨_, Heap.get?_update_self _ ho (Obj.isFreed_of_dict (Obj.data_mapDictKeys hdt _)), hx.mapDictKeys _, ?_⟩ (Heap.SameBut.update ..))))
  rw [Obj.data_mapDictKeys hdt]
  simp
/-! ### the operations -/
theorem d_in {d : Addr} {es : List DictEntry} {ks : List NestedKey} {k : NestedKey} {key : Value} {Q : Value → Shared → Prop} (neg : Bool) (hs : (d == sysModules) = false) (x : KDi w s.heap d es ks) (hk : NestedIs s.heap k key) (hd : k.depth ≤ 8) (hu : A.units + 9 < cLine)
    (h : ∀ b, (b = true ↔ k ∈ ks) → Q (.bool (neg ^^ b)) { s with toks := s.toks + k.draws }) : wpAny (model prog w) A (compareOp (if neg = true then .NotIn else .In) key (.ref d)) Q E s := by
  have key1 : wpAny (model prog w) A (contains (.ref d) key) (fun b s' => (b = true ↔ k ∈ ks) ∧ s' = { s with toks := s.toks + k.draws }) E s := by
    unfold contains
    try with_reducible refine wpAny_holding ?_
    refine wpAny_bind (wpAny_specialOf x.typ slot_dict_contains.lookup ?_)
    show wpAny _ _ (if (some (Value.builtin "dict.__contains__") == some Value.none) = true then _ else _) _ _ _
    rw [if_neg (by rw [beq_builtin_none]; exact Bool.false_ne_true)]
    refine wpAny_bind (wpAny_callSpecialUnlessNone?_slot (name := Str.ofString "__contains__") x.typ slot_dict_contains (wpAny_call_entry slot_dict_contains x.typ entry_dict_contains ?_ (args_dict_contains _ _)))
    show wpAny _ _ (dictGet d key >>= _) _ _ s
    refine wpAny_bind (dget x hk hd (by show A.units + 1 + 8 < _; omega) (fun j e hj he => ?_) fun hn => ?_)
    · show wpAny _ _ (ret (.bool true)) _ _ _
      exact wpAny_pure ⟨_, rfl, wpAny_truthy_bool ⟨⟨fun _ => List.mem_of_getElem? hj, fun _ => rfl⟩, rfl⟩⟩
    · show wpAny _ _ (Builtin.Dict.pendingKey? d key >>= _) _ _ _
      exact wpAny_bind (wpAny_pendingKey_other hs (wpAny_pure ⟨_, rfl, wpAny_truthy_bool ⟨Iff.intro (fun z => Bool.noConfusion z) (fun z => absurd z hn), rfl⟩⟩))
  cases neg with
  | false =>
    show wpAny _ _ (do return .bool (← contains (.ref d) key)) Q E s
    refine wpAny_bind (wpAny_mono key1 (fun b s' q => ?_) fun _ _ e => e)
    obtain ⟨q, rfl⟩ := q
    have := h b q
    rw [Bool.false_xor] at this
    exact wpAny_pure this
  | true =>
    show wpAny _ _ (do return .bool (!(← contains (.ref d) key))) Q E s
    refine wpAny_bind (wpAny_mono key1 (fun b s' q => ?_) fun _ _ e => e)
    obtain ⟨q, rfl⟩ := q
    have := h b q
    rw [Bool.true_xor] at this
    exact wpAny_pure this
theorem d_item {d : Addr} {es : List DictEntry} {ks : List NestedKey} {k : NestedKey} {key : Value} {Q : Value → Shared → Prop} {j : Nat} {e : DictEntry} (x : KDi w s.heap d es ks) (hk : NestedIs s.heap k key) (hd : k.depth ≤ 8) (hu : A.units + 9 < cLine)
    (hj : ks[j]? = some k) (he : es[j]? = some e) (h : Q e.val { s with toks := s.toks + k.draws }) : wpAny (model prog w) A (getItem (.ref d) key) Q E s := by
  unfold getItem
  try with_reducible refine wpAny_holding ?_
  refine wpAny_bind (wpAny_sequenceKey x.typ (by decide) (wpAny_bind (wpAny_callSpecial?_slot (name := Str.ofString "__getitem__") x.typ slot_dict_getitem (wpAny_call_entry slot_dict_getitem x.typ entry_dict_getitem ?_ (args_dict_getitem _ _)))))
  show wpAny _ _ (dictGet d key >>= _) _ _ s
  refine wpAny_bind (dget x hk hd (by show A.units + 1 + 8 < _; omega) (fun i e' hi he' => ?_) fun hn => absurd (List.mem_of_getElem? hj) hn)
  have := nd_get x.nd hi hj
  subst this
  rw [he] at he'; cases he'
  exact wpAny_pure ⟨e.val, rfl, wpAny_pure h⟩
theorem d_put {d : Addr} {es : List DictEntry} {ks : List NestedKey} {k : NestedKey} {key v : Value} {Q : Unit → Shared → Prop} (x : KDi w s.heap d es ks) (hk : NestedIs s.heap k key) (hd : k.depth ≤ 8) (hu : A.units + 9 < cLine) (hz : es.length ≤ sizeLine)
    (h1 : ∀ (j : Nat) h' ep, ks[j]? = some k → h'.DictRaw d (es.modify j fun e => { e with val := v }).toArray ep → Heap.SameBut d s.heap h' → Q () { s with heap := h', toks := s.toks + k.draws })
    (h0 : ∀ h' ep, k ∉ ks → h'.DictRaw d (es ++ [(⟨k.hash w, key, v⟩ : DictEntry)]).toArray ep → Heap.SameBut d s.heap h' → Q () { s with heap := h', toks := s.toks + k.draws }) : wpAny (model prog w) A (setItem (.ref d) key v) Q E s := by
  unfold setItem
  try with_reducible refine wpAny_holding ?_
  refine wpAny_bind (wpAny_sequenceKey x.typ (by decide) (wpAny_bind (wpAny_callSpecial?_slot (name := Str.ofString "__setitem__") x.typ slot_dict_setitem (wpAny_call_entry slot_dict_setitem x.typ entry_dict_setitem ?_ (args_dict_setitem _ _ _)))))
  show wpAny _ _ (Builtin.Dict.notOrdered "__setitem__" ⟨[.ref d, key, v], []⟩ >>= _) _ _ s
  refine wpAny_bind (wpAny_notOrdered_dict x.typ ?_)
  show wpAny _ _ (dictSet d key v >>= _) _ _ s
  exact wpAny_bind (dset x hk hd (by show A.units + 1 + 8 < _; omega) hz (fun j h' ep a b c => wpAny_pure ⟨.none, rfl, wpAny_pure (h1 j h' ep a b c)⟩) fun h' ep a b c => wpAny_pure ⟨.none, rfl, wpAny_pure (h0 h' ep a b c)⟩)
end
end WS
/-! Wo: dicts as data; changes of owned things. -/
namespace WS
open PySem L2

/-! ### the data -/
def idxD (kvs : List (D × D)) (k : D) : Option Nat := kvs.findIdx? fun p => NestedKey.beq (nk p.1) (nk k)
def hasD (kvs : List (D × D)) (k : D) : Bool := (idxD kvs k).isSome
def lookD (kvs : List (D × D)) (k : D) : Option D := (idxD kvs k).bind fun i => kvs[i]?.map (·.2)
def putD (kvs : List (D × D)) (k v : D) : List (D × D) :=
  match idxD kvs k with
  | some i => kvs.modify i fun p => (p.1, v)
  | none => kvs ++ [(k, v)]
def keysD (kvs : List (D × D)) : List NestedKey := kvs.map fun p => nk p.1
theorem beq_iff {a b : NestedKey} : NestedKey.beq a b = true ↔ a = b := by
  rw [← NestedKey.decide_eq]; exact decide_eq_true_iff
theorem idxD_some {kvs : List (D × D)} {k : D} {i : Nat} (h : idxD kvs k = some i) : ∃ p, kvs[i]? = some p ∧ nk p.1 = nk k ∧ (keysD kvs)[i]? = some (nk k) := by
  obtain ⟨hl, hi, _⟩ := List.findIdx?_eq_some_iff_getElem.mp h
  refine ⟨kvs[i], List.getElem?_eq_getElem hl, beq_iff.mp hi, ?_⟩
  unfold keysD
  rw [List.getElem?_map, List.getElem?_eq_getElem hl]
  exact congrArg some (beq_iff.mp hi)
theorem idxD_none {kvs : List (D × D)} {k : D} (h : idxD kvs k = none) : nk k ∉ keysD kvs := fun hm => by
  obtain ⟨p, hp, e⟩ := List.mem_map.mp hm
  have := List.findIdx?_eq_none_iff.mp h p hp
  rw [e] at this
  rw [beq_iff.mpr rfl] at this
  cases this
theorem hasD_iff {kvs : List (D × D)} {k : D} : hasD kvs k = true ↔ nk k ∈ keysD kvs := by
  unfold hasD
  cases h : idxD kvs k with
  | none => exact Iff.intro (fun z => Bool.noConfusion z) (fun z => absurd z (idxD_none h))
  | some i =>
    obtain ⟨_, _, _, e⟩ := idxD_some h
    exact ⟨fun _ => List.mem_of_getElem? e, fun _ => rfl⟩
theorem idxD_of {kvs : List (D × D)} {k : D} {j : Nat} (nd : (keysD kvs).Nodup) (h : (keysD kvs)[j]? = some (nk k)) : idxD kvs k = some j := by
  cases e : idxD kvs k with
  | none => exact absurd (List.mem_of_getElem? h) (idxD_none e)
  | some i =>
    obtain ⟨_, _, _, q⟩ := idxD_some e
    rw [nd_get nd q h]

section
variable {w : World} {K : PySem.W.Frag} {F : Hp}
theorem RepE.at : ∀ {kvs : List (D × D)} {es : List DictEntry} {j : Nat} {e : DictEntry} {p : D × D}, RepE w K F es kvs → es[j]? = some e → kvs[j]? = some p → ∃ kv vv, RelV kv e.key ∧ Rep w K F kv p.1 ∧ isK p.1 = true ∧ e.hash = (nk p.1).hash w ∧ RelV vv e.val ∧ Rep w K F vv p.2
  | [], _, j, _, _, h, e1, e2 => by simp at e2
  | (k, v) :: kvs, _, j, e, p, h, e1, e2 => by
    cases h with
    | cons a b c d f g t =>
      cases j with
      | zero =>
        simp at e1 e2
        subst e1 e2
        exact ⟨_, _, a, b, c, d, f, g⟩
      | succ j => exact RepE.at (j := j) t (by simpa using e1) (by simpa using e2)
theorem RepE.snoc {e : DictEntry} {k v : D} {kv vv : V} (a : RelV kv e.key) (b : Rep w K F kv k) (c : isK k = true) (d : e.hash = (nk k).hash w) (f : RelV vv e.val) (g : Rep w K F vv v) : ∀ {kvs : List (D × D)} {es : List DictEntry}, RepE w K F es kvs → RepE w K F (es ++ [e]) (kvs ++ [(k, v)])
  | [], _, h => by cases h; exact .cons a b c d f g .nil
  | (k', v') :: kvs, _, h => by
    cases h with
    | cons a' b' c' d' f' g' t => exact .cons a' b' c' d' f' g' (RepE.snoc a b c d f g t)
theorem RepE.mod {u : Value} {v : D} {vv : V} (f : RelV vv u) (g : Rep w K F vv v) : ∀ {kvs : List (D × D)} {es : List DictEntry} {j : Nat}, RepE w K F es kvs → RepE w K F (es.modify j fun e => { e with val := u }) (kvs.modify j fun p => (p.1, v))
  | [], _, j, h => by cases h; simp only [List.modify_nil]; exact .nil
  | (k', v') :: kvs, _, 0, h => by
    cases h with
    | cons a' b' c' d' f' g' t => simp only [List.modify_zero_cons]; exact .cons a' b' c' d' f g t
  | (k', v') :: kvs, _, j + 1, h => by
    cases h with
    | cons a' b' c' d' f' g' t => simp only [List.modify_succ_cons]; exact .cons a' b' c' d' f' g' (RepE.mod f g t)
theorem keys_mod {kvs : List (D × D)} {j : Nat} {v : D} : keysD (kvs.modify j fun p => (p.1, v)) = keysD kvs := by
  unfold keysD
  apply List.ext_getElem?
  intro i
  rw [List.getElem?_map, List.getElem?_map, List.getElem?_modify]
  cases kvs[i]? with
  | none => rfl
  | some p =>
    show some (nk (if j = i then (p.1, v) else p).1) = some (nk p.1)
    by_cases h : j = i
    · rw [if_pos h]
    · rw [if_neg h]
end
section
variable {X : Cx} {pins : List (Addr × Obj)} {σ : St} {H : Hp} {s : Shared} {F : Hp}
mutual
theorem Rep.nested (I : Inv X pins σ H s) (sb : Sub F H) : ∀ {d : D} {v : V} {u : Value}, Rep X.w X.K F v d → isKey d = true → RelV v u → NestedIs s.heap (nk d) u
  | .non, _, _, h, _, r => by cases h; cases r; exact .none
  | .bl b, _, _, h, _, r => by cases h; cases r; exact .bool rfl
  | .int i, _, _, h, _, r => by cases h; obtain ⟨t, rfl⟩ := r; exact .int i t
  | .str z, _, _, h, _, r => by
    cases h with
    | str _ a b => obtain ⟨t, rfl⟩ := r; exact .text _ t
  | .tup xs, _, _, h, k, r => by
    cases h with
    | tup a b =>
      cases r
      obtain ⟨its, rv, ⟨o, e, c, n, dt⟩, _⟩ := I.tuple (SqT_sub sb a)
      exact .tup e c dt (RepL.nested I sb b k rv)
  | .lst _, _, _, _, k, _ => by cases k
  | .dct _, _, _, _, k, _ => by cases k
  | .scr _, _, _, _, k, _ => by cases k
theorem RepL.nested (I : Inv X pins σ H s) (sb : Sub F H) : ∀ {ds : List D} {vs : List V} {us : List Value}, RepL X.w X.K F vs ds → areKeys ds = true → Vals vs us → NestedAll s.heap (nks ds) us
  | [], _, _, h, _, r => by cases h; cases r; exact .nil
  | d :: ds, _, _, h, k, r => by
    simp only [areKeys, Bool.and_eq_true] at k
    cases h with
    | cons a b => cases r with | cons r1 r2 => exact .cons (Rep.nested I sb a k.1 r1) (RepL.nested I sb b k.2 r2)
end
theorem isK_iff {d : D} (h : isK d = true) : isKey d = true ∧ (nk d).depth ≤ 8 := by
  unfold isK at h
  rw [Bool.and_eq_true] at h
  exact ⟨h.1, of_decide_eq_true h.2⟩
/-- .. and the library's look at such a dict -/
theorem RepE.kdi {a : Addr} {n : Nat} {es : List DictEntry} {kvs : List (D × D)} (I : Inv X pins σ H s) (sb : Sub F H) (h : H a = some (dO a n es)) (r : RepE X.w X.K F es kvs) (nd : (keysD kvs).Nodup) : (a == sysModules) = false ∧ es.length ≤ sizeLine ∧ KDi X.w s.heap a es (keysD kvs) := by
  obtain ⟨h1, h2, ep, dr⟩ := dO_at I h
  refine ⟨h1, h2, ⟨ep, dr⟩, by rw [r.length]; exact (List.length_map ..).symm, fun j e k he hk => ?_, nd⟩
  unfold keysD at hk
  rw [List.getElem?_map] at hk
  cases hp : kvs[j]? with
  | none => rw [hp] at hk; cases hk
  | some p =>
    rw [hp] at hk; cases hk
    obtain ⟨kv, vv, a1, a2, a3, a4, _⟩ := r.at he hp
    obtain ⟨b1, b2⟩ := isK_iff a3
    exact ⟨a2.nested I sb b1 a1, b2, a4⟩
/-- the dict is written -/
theorem dO_write {a : Addr} {n : Nat} {es es' : List DictEntry} {h' : Heap} {ep t' : Nat} (I : Inv X pins σ H s) (h : H a = some (dO a n es)) (hz : es'.length ≤ sizeLine) (dr : h'.DictRaw a es'.toArray ep) (sb : Heap.SameBut a s.heap h') : Inv X pins σ (upd H a (dO a ep es')) { s with heap := h', toks := t' } := by
  obtain ⟨h1, h2, _, _⟩ := dO_at I h
  obtain ⟨o, ho, hx, hd⟩ := dr
  refine I.write (x := a) (e := a) (by rw [h]; exact True.intro) (.inl rfl) (fun b q hb z => (sb.2 b hb).trans z) ⟨o, ho⟩ ⟨⟨h1, hz, o, ho, hx, hd⟩, ⟨o, ho⟩, fun g1 g2 ⟨p1, p2, o', p3, p4⟩ k => ⟨p1, p2, o', k o' p3, p4⟩⟩
theorem key_of_top {x : V} {d : D} (h : isK d = true) (t : Top X.w X.K F H x d) : Rep X.w X.K F x d := by
  rcases t with t | ⟨a, rfl, t⟩
  · exact t
  · obtain ⟨h, _⟩ := isK_iff h
    cases d with
    | lst _ => cases h
    | dct _ => cases h
    | _ => exact False.elim t
end

section
variable {X : Cx} {c : XC} {W : WX} {pos : Pos}
/-! ### k in d, d[k] -/
def gInD : D → D → Option PR
  | k, .dct kvs => if isK k = true then some (.sc (.bl (hasD kvs k))) else none
  | _, _ => none
def gNotInD : D → D → Option PR
  | k, .dct kvs => if isK k = true then some (.sc (.bl (!hasD kvs k))) else none
  | _, _ => none
def rInD (X : Cx) (neg : Bool) : R2 := fun x y H Q => ∃ F a n es kvs k, y = .ref a ∧ H a = some (dO a n es) ∧ Sub F H ∧ RepE X.w X.K F es kvs ∧ (keysD kvs).Nodup ∧ Rep X.w X.K F x k ∧ isK k = true ∧ Q (.bl (neg ^^ hasD kvs k)) H
theorem op_inD (hu : X.A.units + 9 < cLine) (neg : Bool) : OpR X (compareOp (if neg = true then .NotIn else .In)) (rInD X neg) := by
  intro pins s σ H x y v u Q I rx ry h
  obtain ⟨F, a, n, es, kvs, k, rfl, ha, sb, r, nd, rk, kk, q⟩ := h
  cases ry
  obtain ⟨h1, h2, kd⟩ := r.kdi I sb ha nd
  obtain ⟨b1, b2⟩ := isK_iff kk
  refine d_in neg h1 kd (rk.nested I sb b1 rx) b2 hu fun b hb => ⟨.bl (neg ^^ b), H, I.tok _, rfl, ?_⟩
  have : b = hasD kvs k := by
    cases hh : hasD kvs k with
    | true => exact hb.mpr (hasD_iff.mp hh)
    | false =>
      cases b with
      | false => rfl
      | true => rw [hasD_iff.mpr (hb.mp rfl)] at hh; cases hh
  rw [this]; exact q
theorem opG_inD (hu : X.A.units + 9 < cLine) : OpG X (compareOp .In) gInD := by
  refine ⟨_, op_inD hu false, fun F H x y d1 d2 p Q s t1 t2 e q => ?_⟩
  cases d2 with
  | dct kvs =>
    unfold gInD at e
    simp only at e
    split at e
    · rename_i hk
      cases e
      obtain ⟨a, n, es, rfl, h, r, nd⟩ := t2.dct s
      exact ⟨F, a, n, es, kvs, d1, rfl, h, s, r, nd, key_of_top hk t1, hk, by rw [Bool.false_xor]; exact q _ (.bl _)⟩
    · cases e
  | _ => cases e
theorem opG_notinD (hu : X.A.units + 9 < cLine) : OpG X (compareOp .NotIn) gNotInD := by
  refine ⟨_, op_inD hu true, fun F H x y d1 d2 p Q s t1 t2 e q => ?_⟩
  cases d2 with
  | dct kvs =>
    unfold gNotInD at e
    simp only at e
    split at e
    · rename_i hk
      cases e
      obtain ⟨a, n, es, rfl, h, r, nd⟩ := t2.dct s
      exact ⟨F, a, n, es, kvs, d1, rfl, h, s, r, nd, key_of_top hk t1, hk, by rw [Bool.true_xor]; exact q _ (.bl _)⟩
    · cases e
  | _ => cases e
def gIxD : D → D → Option PR
  | .dct kvs, k => if isK k = true then (lookD kvs k).map .sc else none
  | _, _ => none
def rIxD (X : Cx) : R2 := fun x y H Q => ∃ F a n es kvs k v, x = .ref a ∧ H a = some (dO a n es) ∧ Sub F H ∧ RepE X.w X.K F es kvs ∧ (keysD kvs).Nodup ∧ Rep X.w X.K F y k ∧ isK k = true ∧ lookD kvs k = some v ∧ ∀ vv, Rep X.w X.K F vv v → Q vv H
theorem ix_dict (hu : X.A.units + 9 < cLine) : IxR X (rIxD X) := by
  intro value slice pins s σ H x y v u Q I rx ry h hs
  obtain ⟨F, a, n, es, kvs, k, d, rfl, ha, sb, r, nd, rk, kk, hl, q⟩ := h
  cases rx
  obtain ⟨h1, h2, kd⟩ := r.kdi I sb ha nd
  obtain ⟨b1, b2⟩ := isK_iff kk
  unfold lookD at hl
  cases e : idxD kvs k with
  | none => rw [e] at hl; cases hl
  | some j =>
    rw [e] at hl
    obtain ⟨p, hp, _, hj⟩ := idxD_some e
    have hl : kvs[j]?.map (·.2) = some d := hl
    rw [hp] at hl; cases hl
    obtain ⟨en, he, _⟩ := kd.of hj
    obtain ⟨kv, vv, _, _, _, _, c1, c2⟩ := r.at he hp
    exact PyProof.Rows.subscriptTail_builtinR (x := en.val) kd.typ slot_dict_getitem.lookup
      (d_item (Q := fun z s' => z = en.val ∧ EP X pins σ Q z s') kd (rk.nested I sb b1 ry) b2 hu hj he ⟨rfl, vv, H, I.tok _, c1, q vv c2⟩) hs
theorem ixG_D (hu : X.A.units + 9 < cLine) : IxG X gIxD := by
  refine ⟨_, ix_dict hu, fun F H x y d1 d2 p Q s t1 t2 e q => ?_⟩
  cases d1 with
  | dct kvs =>
    unfold gIxD at e
    simp only at e
    split at e
    · rename_i hk
      obtain ⟨a, n, es, rfl, h, r, nd⟩ := t1.dct s
      cases hl : lookD kvs d2 with
      | none => rw [hl] at e; cases e
      | some v =>
        rw [hl] at e; cases e
        exact ⟨F, a, n, es, kvs, d2, v, rfl, h, s, r, nd, key_of_top hk t2, hk, hl, q⟩
    · cases e
  | _ => cases e
/-! ### one of two -/
def orG (g g' : D → D → Option PR) (d e : D) : Option PR := match g d e with
  | some p => some p
  | none => g' d e
theorem orG_cases {g g' : D → D → Option PR} {d e : D} {p : PR} (h : orG g g' d e = some p) : g d e = some p ∨ g' d e = some p := by
  unfold orG at h
  cases q : g d e with
  | some p' => rw [q] at h; cases h; exact .inl rfl
  | none => rw [q] at h; exact .inr h
theorem OpG.or {f : Value → Value → Sem Value} {g g' : D → D → Option PR} (a : OpG X f g) (b : OpG X f g') : OpG X f (orG g g') := by
  obtain ⟨r, a1, a2⟩ := a
  obtain ⟨r', b1, b2⟩ := b
  refine ⟨_, a1.or b1, fun F H x y d1 d2 p Q s t1 t2 e q => ?_⟩
  rcases orG_cases e with e | e
  · exact .inl (a2 F H x y d1 d2 p Q s t1 t2 e q)
  · exact .inr (b2 F H x y d1 d2 p Q s t1 t2 e q)
theorem IxG.or {g g' : D → D → Option PR} (a : IxG X g) (b : IxG X g') : IxG X (orG g g') := by
  obtain ⟨r, a1, a2⟩ := a
  obtain ⟨r', b1, b2⟩ := b
  refine ⟨_, a1.or b1, fun F H x y d1 d2 p Q s t1 t2 e q => ?_⟩
  rcases orG_cases e with e | e
  · exact .inl (a2 F H x y d1 d2 p Q s t1 t2 e q)
  · exact .inr (b2 F H x y d1 d2 p Q s t1 t2 e q)
end
end WS
/-! Wp: methods; changes of owned things. -/
namespace WS
open PySem L2

/-! ### the library's look at a receiver -/
def TyW (X : Cx) (T : String) (x : V) (H : Hp) : Prop := ∀ (pins : List (Addr × Obj)) (s : Shared) (σ : St) (v : Value), Inv X pins σ H s → RelV x v → s.TypeIs v T ∧ ∀ a, v = .ref a → ∃ ob, s.heap.get? a = some ob ∧ ob.dict = none
def ofT (T : String) : D → Bool
  | .str _ => T == "str"
  | .lst _ => T == "list"
  | .dct _ => T == "dict"
  | _ => false
section
variable {X : Cx} {c : XC} {W : WX} {pos : Pos}
theorem tyW_of {T : String} {F H : Hp} {x : V} {d : D} (sb : Sub F H) (t : Top X.w X.K F H x d) (h : ofT T d = true) : TyW X T x H := by
  intro pins s σ v I r
  cases d with
  | str z =>
    obtain ⟨rfl, _⟩ := t.str
    obtain ⟨u, rfl⟩ := (show ∃ u, v = Value.str (mkS z) u from r)
    have e : T = "str" := by simpa [ofT] using h
    subst e
    exact ⟨typeIs_str s _ u, fun _ e => nomatch e⟩
  | lst ds =>
    obtain ⟨a, vs, rfl, ha, _⟩ := t.lst sb
    cases (show v = Value.ref a from r)
    have e : T = "list" := by simpa [ofT] using h
    subst e
    obtain ⟨its, _, ⟨o, n, e, h1, h2, h3⟩, _⟩ := I.list (.of ha : SqL X.K H a vs)
    exact ⟨⟨o, e, h1⟩, fun b q => by cases q; exact ⟨o, e, h2⟩⟩
  | dct kvs =>
    obtain ⟨a, n, es, rfl, ha, _⟩ := t.dct sb
    cases (show v = Value.ref a from r)
    have e : T = "dict" := by simpa [ofT] using h
    subst e
    obtain ⟨_, _, _, o, e, h1, _⟩ := dO_at I ha
    exact ⟨⟨o, e, h1.1⟩, fun b q => by cases q; exact ⟨o, e, h1.2.1⟩⟩
  | _ => cases h
/-- o.m(..), the receiver's type by TyW -/
def tMw (X : Cx) (T : String) (r : V → List V → Hp → VK → Prop) (to : TE) (t : TA) : TE := fun σ H Q => to σ H fun x H1 => TyW X T x H1 ∧ t σ H1 fun xs H2 => r x xs H2 Q
def tMw0 (X : Cx) (T : String) (r : V → List V → Hp → VK → Prop) (to : TE) : TE := fun σ H Q => to σ H fun x H1 => TyW X T x H1 ∧ r x [] H1 Q
/-- what is seen of the text of a method call -/
structure McOk (X : Cx) (o : Expr) (name : Str) (apos : Pos) (es : List Expr) (cpos : Pos) : Prop where
  base : attributeBase o name X.env (eval o X.env) = eval o X.env
  few : ((backTo cpos (starEach es X.env)).all (fun x => !x.1) && (backToKw cpos (keywordEach [] X.env)).all (fun x => x.1.isSome) && decide (es.length + ([] : List Keyword).length + (if ([] : List Keyword).isEmpty then 0 else 1) < 30)) = true
  line : (apos.endLine == cpos.line) = true
theorem pe_mw {o e : Expr} {es : List Expr} {to : TE} {t : TA} {name : Str} {apos cpos : Pos} {T id : String} {r : V → List V → Hp → VK → Prop} (pa : PlainAttrs T) (slot : Slot T name id) (hty : typeOf (.builtin id) = pure (.type "method_descriptor")) (hm : MtR X id r) (ho : PE X o to) (ha : PA X (e :: es) t)
    (m : McOk X o name apos (e :: es) cpos) (hs : starEach (e :: es) X.env = (false, eval e X.env) :: starEach es X.env) (hpl : (backTo cpos (starEach es X.env)).any (·.1) = false) : PE X (.Call (.Attribute o name apos) (e :: es) [] cpos) (tMw X T r to t) := by
  refine ⟨fun pins s σ H Q I h => wpAny_Call_method_late m.base m.few m.line rfl (thn (ho.run pins s σ H _ I h) fun v s1 ⟨x, H1, I1, r1, ty, q1⟩ => ?_)⟩
  obtain ⟨h1, h2⟩ := ty pins s1 σ v I1 r1
  refine ⟨T, id, pa, slot, hty, h1, h2, ?_⟩
  have hA := ha.run cpos pins s1 σ H1 _ I1 q1
  rw [hs] at hA ⊢
  exact Calls.callWith_builtin (show (false || (backTo cpos (starEach es X.env)).any (·.1)) = false by rw [hpl] <;> rfl) (Calls.evalArgs_plain (thn hA fun us s2 ⟨vs, H2, I2, r2, q2⟩ => hm pins s2 σ H2 x vs v us Q I2 r1 r2 q2))
theorem pe_mw0 {o : Expr} {to : TE} {name : Str} {apos cpos : Pos} {T id : String} {r : V → List V → Hp → VK → Prop} (pa : PlainAttrs T) (slot : Slot T name id) (hty : typeOf (.builtin id) = pure (.type "method_descriptor")) (hm : MtR X id r) (ho : PE X o to)
    (hb : attributeBase o name X.env (eval o X.env) = eval o X.env) (hl : (apos.endLine == cpos.line) = true) : PE X (.Call (.Attribute o name apos) [] [] cpos) (tMw0 X T r to) := by
  refine ⟨fun pins s σ H Q I h => wpAny_Call_method0_late hb hl (thn (ho.run pins s σ H _ I h) fun v s1 ⟨x, H1, I1, r1, ty, q1⟩ => ?_)⟩
  obtain ⟨h1, h2⟩ := ty pins s1 σ v I1 r1
  exact ⟨T, id, pa, slot, hty, h1, h2, Calls.callWith_builtin rfl (PySem.evalArgs_none (hm pins s1 σ H1 x [] v [] Q I1 r1 .nil q1))⟩

/-! ### an owned slot's thing is changed -/
def setS (ρ : Env) (i : Nat) (d : D) : Option Env := match ρ.getD i .un with
  | .ow _ => some (ρ.set i (.ow d))
  | .le _ => some (ρ.set i (.le d))
  | _ => none
theorem StR.put {w : World} {K : PySem.W.Frag} {F H : Hp} {σ : St} {ρ : Env} {i : Nat} {a : Addr} {sl sl' : Sl} {o : HO} (S : StR w K F H σ ρ) (e : ρ[i]? = some sl) (ho : sl.own = true) (ev : σ[i]? = some (some (.ref a))) (n : F a = none) (q : slR w K F (L2.upd H a o) (.ref a) sl') (ho' : sl'.own = true) :
    StR w K F (L2.upd H a o) σ (ρ.set i sl') ∧ Fr F H (ownS σ ρ) F (L2.upd H a o) (ownS σ (ρ.set i sl')) := by
  have il : i < ρ.length := (List.getElem?_eq_some_iff.mp e).1
  have back : ∀ (j : Nat) s, (ρ.set i sl')[j]? = some s → (j = i ∧ s = sl') ∨ (j ≠ i ∧ ρ[j]? = some s) := fun j s h => by
    by_cases hj : i = j
    · subst hj; rw [List.getElem?_set_self il] at h; cases h; exact .inl ⟨rfl, rfl⟩
    · rw [List.getElem?_set_ne hj] at h; exact .inr ⟨Ne.symm hj, h⟩
  refine ⟨⟨fun b u z => ?_, by simpa using S.len, fun j s ej t => ?_, fun j k sj sk b ej ek tj tk vj vk => ?_⟩, fun b u z no => ?_, fun b ⟨j, s, ej, t, vj⟩ => ?_, fun b u z => .inl z, Sub.refl _⟩
  · rw [upd_ne (ne_of_none z n)]; exact S.sub b u z
  · rcases back j s ej with ⟨rfl, rfl⟩ | ⟨hj, ej⟩
    · exact ⟨_, ev, q⟩
    · obtain ⟨v, e1, x⟩ := S.slot j s ej t
      refine ⟨v, e1, ?_⟩
      have g : ∀ d, s.own = true → (∃ b, v = .ref b ∧ F b = none ∧ Own w K F H b d) → ∃ b, v = .ref b ∧ F b = none ∧ Own w K F (L2.upd H a o) b d := by
        rintro d hs ⟨b, rfl, nb, qb⟩
        have : b ≠ a := by
          rintro rfl
          exact hj (S.inj j i s sl b ej e hs ho e1 ev)
        exact ⟨b, rfl, nb, qb.mono (Sub.refl _) fun u z => by rw [upd_ne this]; exact z⟩
      cases s with
      | un => trivial
      | fz d => exact x
      | lf d => exact x
      | ow d => exact g d rfl x
      | le d => exact g d rfl x
      | lk d => exact g d rfl x
  · rcases back j sj ej with ⟨z1, z2⟩ | ⟨hj, ej'⟩
    · rcases back k sk ek with ⟨z3, z4⟩ | ⟨hk, ek'⟩
      · rw [z1, z3]
      · subst z1
        exact S.inj j k sl sk b e ek' ho tk vj vk
    · rcases back k sk ek with ⟨z3, z4⟩ | ⟨hk, ek'⟩
      · subst z3
        exact S.inj j k sj sl b ej' e tj ho vj vk
      · exact S.inj j k sj sk b ej' ek' tj tk vj vk
  · have : b ≠ a := by
      rintro rfl
      exact no ⟨i, sl, e, ho, ev⟩
    rw [upd_ne this]; exact z
  · rcases back j s ej with ⟨rfl, rfl⟩ | ⟨hj, ej⟩
    · exact .inl ⟨j, sl, e, ho, vj⟩
    · exact .inl ⟨j, s, ej, t, vj⟩
/-- such a slot, opened -/
theorem setS_open {w : World} {K : PySem.W.Frag} {F H : Hp} {σ : St} {ρ ρ' : Env} {i : Nat} {d' : D} {v : V} (S : StR w K F H σ ρ) (hv : σ[i]? = some (some v)) (h : setS ρ i d' = some ρ') : ∃ sl sl' a d, ρ[i]? = some sl ∧ sl.own = true ∧ ρ.getD i .un = sl ∧ sl.get = d ∧ v = .ref a ∧ F a = none ∧ Own w K F H a d ∧
    ρ' = ρ.set i sl' ∧ sl'.own = true ∧ slE sl sl' ∧ ∀ H', Own w K F H' a d' → slR w K F H' (.ref a) sl' := by
  unfold setS at h
  cases e : ρ[i]? with
  | none => rw [List.getD_eq_getElem?_getD, e] at h; cases h
  | some sl =>
    have eg := getD_of e
    rw [eg] at h
    cases sl with
    | ow d =>
      cases h
      obtain ⟨u, e1, a, rfl, n, q⟩ := S.slot i _ e rfl
      rw [hv] at e1; cases e1
      exact ⟨_, .ow d', a, d, rfl, rfl, eg, rfl, rfl, n, q, rfl, rfl, trivial, fun H' q' => ⟨a, rfl, n, q'⟩⟩
    | le d =>
      cases h
      obtain ⟨u, e1, a, rfl, n, q⟩ := S.slot i _ e rfl
      rw [hv] at e1; cases e1
      exact ⟨_, .le d', a, d, rfl, rfl, eg, rfl, rfl, n, q, rfl, rfl, trivial, fun H' q' => ⟨a, rfl, n, q'⟩⟩
    | _ => cases h
def outS (i : Nat) (ρ : Env) : Option (D × D) → Out R
  | some (d', q) => match setS ρ i d' with
    | some ρ' => .ok (.fro q) ρ'
    | none => .bad
  | none => .bad
def eMut (T : String) (g : D → List D → Option (D × D)) (fo : SemE) (fa : SemL) : SemE := fun ρ => (fo ρ).bind fun ro ρ1 => match ro with
  | .at i => if ofT T (val ρ1 ro) = true then (fa ρ1).bind fun rs ρ2 => (frzs ρ2 rs).bind fun ds ρ3 => outS i ρ3 (g (ρ3.getD i .un).get ds) else .bad
  | _ => .bad
theorem okE_outS (i : Nat) (o : Env → Option (D × D)) : okE fun ρ => outS i ρ (o ρ) := fun ρ => by
  cases ho : o ρ with
  | none => simp only [ho]; trivial
  | some p =>
    obtain ⟨d', q⟩ := p
    simp only [ho, outS]
    unfold setS
    cases e : ρ[i]? with
    | none => rw [List.getD_eq_getElem?_getD, e]; trivial
    | some sl =>
      rw [getD_of e]
      cases sl with
      | ow d => exact Lk.set slE.refl e (show slE (.ow d) (.ow d') from trivial)
      | le d => exact Lk.set slE.refl e (show slE (.le d) (.le d') from trivial)
      | _ => trivial
theorem okE_bad {α : Type} : okE fun _ => (Out.bad : Out α) := fun _ => trivial
theorem okE_iff {α : Type} {t : Env → Bool} {f g : Env → Out α} (h : okE f) (h' : okE g) : okE fun ρ => if t ρ = true then f ρ else g ρ := fun ρ => by
  show match (if t ρ = true then f ρ else g ρ) with | .ok _ ρ' => _ | .exn _ ρ' => _ | .bad => _
  by_cases q : t ρ = true
  · simp only [if_pos q]; exact h ρ
  · simp only [if_neg q]; exact h' ρ
theorem okE_mut {T : String} {g : D → List D → Option (D × D)} {fo : SemE} {fa : SemL} (ho : okE fo) (ha : okE fa) : okE (eMut T g fo fa) := okE_bind ho fun ro => by
  cases ro with
  | «at» i => exact okE_iff (t := fun ρ1 => ofT T (val ρ1 (.at i))) (okE_bind ha fun rs => okE_bind (okE_frzs rs) fun ds => okE_outS i fun ρ3 => g (ρ3.getD i .un).get ds) okE_bad
  | _ => exact okE_bad
/-- what a changing method must bear -/
def MutG (X : Cx) (id : String) (g : D → List D → Option (D × D)) : Prop :=
  ∃ r, MtR X id r ∧ ∀ F H a vs d ds d' q Q, Sub F H → F a = none → Own X.w X.K F H a d → RepL X.w X.K F vs ds → g d ds = some (d', q) → (∀ o v, Own X.w X.K F (upd H a o) a d' → Rep X.w X.K F v q → Q v (upd H a o)) → r (.ref a) vs H Q
theorem mut_end {g : D → List D → Option (D × D)} {id : String} {r : V → List V → Hp → VK → Prop} {σ : St} {F H : Hp} {ρ : Env} {i : Nat} {v : V} {vs : List V} {ds : List D} {Q : VK} (S : StR X.w X.K F H σ ρ) (hv : σ[i]? = some (some v)) (rl : RepL X.w X.K F vs ds)
    (hr : ∀ F H a vs d ds d' q Q, Sub F H → F a = none → Own X.w X.K F H a d → RepL X.w X.K F vs ds → g d ds = some (d', q) → (∀ o v, Own X.w X.K F (upd H a o) a d' → Rep X.w X.K F v q → Q v (upd H a o)) → r (.ref a) vs H Q)
    (h : Post X.w X.K c W σ F H ρ (outS i ρ (g (ρ.getD i .un).get ds)) Q) : r v vs H Q := by
  cases eg : g (ρ.getD i .un).get ds with
  | none => rw [eg] at h; exact False.elim h
  | some p =>
    obtain ⟨d', q⟩ := p
    rw [eg] at h
    unfold outS at h
    cases es : setS ρ i d' with
    | none => simp only [es] at h; exact False.elim h
    | some ρ' =>
      simp only [es] at h
      obtain ⟨sl, sl', a, d, e, ho, eg', hd, rfl, n, qo, rfl, ho', _, hs⟩ := setS_open S hv es
      rw [eg', hd] at eg
      refine hr F H a vs d ds d' q Q S.sub n qo rl eg fun o u q1 q2 => ?_
      obtain ⟨S2, f2⟩ := S.put e ho hv n (hs _ q1) ho'
      refine h u F _ S2 q2 (f2.imp fun b z => ?_)
      rcases z with z | ⟨_, z, _⟩
      · exact z
      · cases z
theorem se_mut {o e : Expr} {es : List Expr} {fo : SemE} {fa : SemL} {g : D → List D → Option (D × D)} {name : Str} {apos cpos : Pos} {T id : String} (hm : MutG X id g) (pa : PlainAttrs T) (slot : Slot T name id) (hty : typeOf (.builtin id) = pure (.type "method_descriptor")) (ho : SE X c W o fo) (ha : SA X c W (e :: es) fa)
    (m : McOk X o name apos (e :: es) cpos) (hs : starEach (e :: es) X.env = (false, eval e X.env) :: starEach es X.env) (hpl : (backTo cpos (starEach es X.env)).any (·.1) = false) : SE X c W (.Call (.Attribute o name apos) (e :: es) [] cpos) (eMut T g fo fa) := by
  obtain ⟨r, h1, h2⟩ := hm
  refine ⟨PE.imp (pe_mw pa slot hty h1 ho.pe ha.pa m hs hpl) fun σ H Q ⟨F, ρ, S, h⟩ => ?_, okE_mut ho.ok ha.ok⟩
  refine td_bind ho.ok S h fun x ro ρ1 F1 H1 l1 S1 e1 q1 => ?_
  cases ro with
  | «at» i =>
    by_cases ht : ofT T (val ρ1 (.at i)) = true
    · simp only [if_pos ht] at q1
      refine ⟨tyW_of S1.sub (e1.top S1) ht, ?_⟩
      exact tl_frz ha.len S1 q1 fun vs ds ρ2 F2 H2 hn S2 r2 h2' => mut_end (id := id) S2 e1.1 r2 h2 h2'
    · simp only [if_neg ht] at q1
      exact False.elim q1
  | _ => exact False.elim q1
theorem se_mut0 {o : Expr} {fo : SemE} {g : D → List D → Option (D × D)} {name : Str} {apos cpos : Pos} {T id : String} (hm : MutG X id g) (pa : PlainAttrs T) (slot : Slot T name id) (hty : typeOf (.builtin id) = pure (.type "method_descriptor")) (ho : SE X c W o fo)
    (hb : attributeBase o name X.env (eval o X.env) = eval o X.env) (hl : (apos.endLine == cpos.line) = true) : SE X c W (.Call (.Attribute o name apos) [] [] cpos) (eMut T g fo lNil) := by
  obtain ⟨r, h1, h2⟩ := hm
  refine ⟨PE.imp (pe_mw0 pa slot hty h1 ho.pe hb hl) fun σ H Q ⟨F, ρ, S, h⟩ => ?_, okE_mut ho.ok (okE_ok [])⟩
  refine td_bind ho.ok S h fun x ro ρ1 F1 H1 l1 S1 e1 q1 => ?_
  cases ro with
  | «at» i =>
    by_cases ht : ofT T (val ρ1 (.at i)) = true
    · simp only [if_pos ht] at q1
      exact ⟨tyW_of S1.sub (e1.top S1) ht, mut_end (id := id) S1 e1.1 .nil h2 q1⟩
    · simp only [if_neg ht] at q1
      exact False.elim q1
  | _ => exact False.elim q1

/-! ### the list's methods -/
theorem own_lst {F H : Hp} {a : Addr} {d : D} {ds : List D} (h : Own X.w X.K F H a d) (e : d = .lst ds) : ∃ vs, H a = some (.lst vs) ∧ RepL X.w X.K F vs ds := by subst e; exact h
def gAppend : D → List D → Option (D × D)
  | .lst xs, [x] => if lim (xs.length + 1) = true then some (.lst (xs ++ [x]), .non) else none
  | _, _ => none
theorem mut_append : MutG X "list.append" gAppend := by
  refine ⟨_, mt_append, fun F H a vs d ds d' q Q sb n ow rl e z => ?_⟩
  unfold gAppend at e
  split at e
  · rename_i xs x
    split at e
    · rename_i hl
      cases e
      obtain ⟨us, h, r⟩ := own_lst ow rfl
      cases rl with
      | cons r1 r2 =>
        cases r2
        exact ⟨a, us, _, rfl, rfl, h, by rw [r.length]; exact lim_le hl, z _ _ ⟨_, upd_same, r.append (.cons r1 .nil)⟩ .non⟩
    · cases e
  · cases e
def gInsert : D → List D → Option (D × D)
  | .lst xs, [.int i, x] => if (lim (xs.length + 1) && decide (0 ≤ i) && decide (i < 2 ^ 63)) = true then some (.lst (xs.take i.toNat ++ [x] ++ xs.drop i.toNat), .non) else none
  | _, _ => none
theorem mut_insert : MutG X "list.insert" gInsert := by
  refine ⟨_, mt_insert, fun F H a vs d ds d' q Q sb n ow rl e z => ?_⟩
  unfold gInsert at e
  split at e
  · rename_i xs i x
    split at e
    · rename_i hl
      rw [Bool.and_eq_true, Bool.and_eq_true] at hl
      cases e
      obtain ⟨us, h, r⟩ := own_lst ow rfl
      cases rl with
      | cons r1 r2 =>
        cases r1
        cases r2 with
        | cons r1 r2 =>
          cases r2
          exact ⟨a, us, i, _, rfl, rfl, h, by rw [r.length]; exact lim_le hl.1.1, of_decide_eq_true hl.1.2, of_decide_eq_true hl.2, z _ _ ⟨_, upd_same, ((r.take _).append (.cons r1 .nil)).append (r.drop _)⟩ .non⟩
    · cases e
  · cases e
theorem RepL.dropLast {w : World} {K : PySem.W.Frag} {F : Hp} {vs : List V} {ds : List D} (r : RepL w K F vs ds) : RepL w K F vs.dropLast ds.dropLast := by
  rw [List.dropLast_eq_take, List.dropLast_eq_take, r.length]
  exact r.take _
def gPop : D → List D → Option (D × D)
  | .lst xs, [] => (xs[xs.length - 1]?).map fun x => (.lst xs.dropLast, x)
  | _, _ => none
theorem mut_pop : MutG X "list.pop" gPop := by
  refine ⟨_, mt_pop, fun F H a vs d ds d' q Q sb n ow rl e z => ?_⟩
  unfold gPop at e
  split at e
  · rename_i xs
    cases hx : xs[xs.length - 1]? with
    | none => rw [hx] at e; cases e
    | some x =>
      rw [hx] at e
      cases e
      obtain ⟨us, h, r⟩ := own_lst ow rfl
      cases rl
      obtain ⟨v, h1, h2⟩ := r.get hx
      exact ⟨a, us, v, rfl, rfl, h, by rw [r.length]; exact h1, z _ _ ⟨_, upd_same, r.dropLast⟩ h2⟩
  · cases e
def gClear : D → List D → Option (D × D)
  | .lst _, [] => some (.lst [], .non)
  | _, _ => none
theorem mut_clear : MutG X "list.clear" gClear := by
  refine ⟨_, mt_clear, fun F H a vs d ds d' q Q sb n ow rl e z => ?_⟩
  unfold gClear at e
  split at e
  · cases e
    obtain ⟨us, h, r⟩ := own_lst ow rfl
    cases rl
    exact ⟨a, us, rfl, rfl, h, z _ _ ⟨_, upd_same, .nil⟩ .non⟩
  · cases e
theorem RepL.reverse {w : World} {K : PySem.W.Frag} {F : Hp} : ∀ {vs : List V} {ds : List D}, RepL w K F vs ds → RepL w K F vs.reverse ds.reverse
  | _, _, .nil => .nil
  | _, _, .cons r t => by rw [List.reverse_cons, List.reverse_cons]; exact (RepL.reverse t).append (.cons r .nil)
def gReverse : D → List D → Option (D × D)
  | .lst xs, [] => some (.lst xs.reverse, .non)
  | _, _ => none
theorem mut_reverse : MutG X "list.reverse" gReverse := by
  refine ⟨_, mt_reverse, fun F H a vs d ds d' q Q sb n ow rl e z => ?_⟩
  unfold gReverse at e
  split at e
  · cases e
    obtain ⟨us, h, r⟩ := own_lst ow rfl
    cases rl
    exact ⟨a, us, rfl, rfl, h, z _ _ ⟨_, upd_same, r.reverse⟩ .non⟩
  · cases e
def gExtend : D → List D → Option (D × D)
  | .lst xs, [.lst ys] => if lim (xs.length + ys.length) = true then some (.lst (xs ++ ys), .non) else none
  | _, _ => none
theorem mut_extend : MutG X "list.extend" gExtend := by
  refine ⟨_, mt_extend, fun F H a vs d ds d' q Q sb n ow rl e z => ?_⟩
  unfold gExtend at e
  split at e
  · rename_i xs ys
    split at e
    · rename_i hl
      cases e
      obtain ⟨us, h, r⟩ := own_lst ow rfl
      cases rl with
      | cons r1 r2 =>
        cases r2
        cases r1 with
        | lst fa ra => exact ⟨a, _, us, _, rfl, rfl, h, sb _ _ fa, by rw [r.length, ra.length]; exact lim_le hl, z _ _ ⟨_, upd_same, r.append ra⟩ .non⟩
    · cases e
  · cases e
end
end WS
/-! Wq: stores by subscript, dict displays, repr. -/
namespace WS
open PySem L2

section
variable {X : Cx} {c : XC} {W : WX} {pos : Pos}
/-! ### x[k] = v -/
def outT (i : Nat) (ρ : Env) : Option D → SOut
  | some d' => match setS ρ i d' with
    | some ρ' => .nx ρ'
    | none => .bad
  | none => .bad
/-- by rows: the value, then the index (the object is seen between) -/
def put2 (g : D → D → D → Option D) (i : Nat) (rv ri : R) (ρ : Env) : SOut := (frzs ρ [rv, ri]).sbind fun ds ρ' => match ds with
  | [v, k] => outT i ρ' (g (ρ'.getD i .un).get k v)
  | _ => .bad
def sPut (g : D → D → D → Option D) (fe fo fi : SemE) : SemS := fun ρ => (fe ρ).sbind fun rv ρ1 => (fo ρ1).sbind fun ro ρ2 => match ro with
  | .at i => (fi ρ2).sbind fun ri ρ3 => put2 g i rv ri ρ3
  | _ => .bad
theorem okT_outT (i : Nat) (o : Env → Option D) : okT fun ρ => outT i ρ (o ρ) := fun ρ => by
  show LkS ρ (outT i ρ (o ρ))
  cases o ρ with
  | none => trivial
  | some d' =>
    unfold outT setS
    cases e : ρ[i]? with
    | none => rw [List.getD_eq_getElem?_getD, e]; trivial
    | some sl =>
      rw [getD_of e]
      cases sl with
      | ow d => exact Lk.slT (Lk.set slE.refl e (show slE (.ow d) (.ow d') from trivial))
      | le d => exact Lk.slT (Lk.set slE.refl e (show slE (.le d) (.le d') from trivial))
      | _ => trivial
theorem okT_bad : okT fun _ => SOut.bad := fun _ => trivial
theorem okT_put2 (g : D → D → D → Option D) (i : Nat) (rv ri : R) : okT (put2 g i rv ri) := okT_sbind (okE_frzs [rv, ri]) fun ds => by
  match ds with
  | [v, k] => exact okT_outT i fun ρ' => g (ρ'.getD i .un).get k v
  | [] => exact okT_bad
  | [_] => exact okT_bad
  | _ :: _ :: _ :: _ => exact okT_bad
theorem okT_sput {g : D → D → D → Option D} {fe fo fi : SemE} (h1 : okE fe) (h2 : okE fo) (h3 : okE fi) : okT (sPut g fe fo fi) := okT_sbind h1 fun rv => okT_sbind h2 fun ro => by
  cases ro with
  | «at» i => exact okT_sbind h3 fun ri => okT_put2 g i rv ri
  | _ => exact okT_bad
def PutG (X : Cx) (g : D → D → D → Option D) : Prop :=
  ∃ t : TSet, PSet X t ∧ ∀ F H a kv vv d k v d' (Q : Hp → Prop), Sub F H → F a = none → Own X.w X.K F H a d → Rep X.w X.K F kv k → Rep X.w X.K F vv v → g d k v = some d' → (∀ o, Own X.w X.K F (upd H a o) a d' → Q (upd H a o)) → t (.ref a) kv vv H Q
theorem frzs_noexn {rs : List R} : ∀ {ρ ρ' : Env} {x : Ex}, frzs ρ rs ≠ .exn x ρ' := by
  have nx : ∀ (r : R) (ρ ρ' : Env) (x : Ex), frz ρ r ≠ .exn x ρ' := by
    intro r ρ ρ' x h
    cases r with
    | fro d => cases h
    | tmp d => cases h
    | «at» i =>
      unfold frz at h
      simp only at h
      split at h <;> cases h
  induction rs with
  | nil => intro ρ ρ' x h; cases h
  | cons r rs ih =>
    intro ρ ρ' x h
    unfold frzs at h
    cases e : frz ρ r with
    | bad => rw [e] at h; cases h
    | exn y ρ3 => exact nx _ _ _ _ e
    | ok d ρ3 =>
      rw [e] at h
      have h : (frzs ρ3 rs).bind (fun ds ρ2 => Out.ok (d :: ds) ρ2) = .exn x ρ' := h
      cases e2 : frzs ρ3 rs with
      | bad => rw [e2] at h; cases h
      | exn y ρ4 => exact ih e2
      | ok ds ρ4 => rw [e2] at h; cases h
/-- a part, the want still said of an earlier state -/
theorem ts_bind2 {f : SemE} {k : R → Env → SOut} {σ : St} {F H F0 H0 : Hp} {ρ ρ0 : Env} {D : Ends} {Z : V → Hp → Prop} {o : Addr → Prop} (S : StR X.w X.K F H σ ρ) (x : Fr F0 H0 (ownS σ ρ0) F H o) (i : ∀ b, ownS σ ρ b → o b) (of : okE f) (h : PostS X.w X.K c W σ F0 H0 ρ0 ((f ρ).sbind k) D)
    (z : ∀ v r ρ1 F1 H1, StR X.w X.K F1 H1 σ ρ1 → ER X.w X.K F1 H1 σ ρ1 v r → Fr F H (ownS σ ρ) F1 H1 (ownR σ ρ1 v r) → LkE ρ ρ1 → PostS X.w X.K c W σ F0 H0 ρ0 (k r ρ1) D → Z v H1) : TD X.w X.K c W f σ H Z := by
  refine ⟨F, ρ, S, ?_⟩
  have l := of ρ
  cases e : f ρ with
  | bad => rw [e] at h; exact h
  | exn y ρ1 =>
    rw [e] at h
    exact fun cls d F' H' s xr f => h cls d σ F' H' s (fun _ _ _ _ => rfl) xr (x.trans f i)
  | ok r ρ1 =>
    rw [e] at h l
    exact fun v F1 H1 S1 e1 f1 => z v r ρ1 F1 H1 S1 e1 f1 l h
theorem ss_put {o k e : Expr} {fo fk fe : SemE} {g : D → D → D → Option D} {tpos : Pos} (hg : PutG X g) (he : SE X c W e fe) (ho : SE X c W o fo) (hk : SE X c W k fk) (ha : ∀ v, assign (.Subscript o k tpos) X.env v = (do
      let a ← holding [v] (eval o X.env)
      let b ← holding [v, a] (eval k X.env)
      standAt tpos
      holding [v, a, b] (setItem a b v)
      release [v, a, b] [])) (hs : swapsWithSole [.Subscript o k tpos] e pos.line X.env = pure false) (hw : swappedStores [.Subscript o k tpos] e X.env = pure none) (h1 : (assignEach [.Subscript o k tpos] X.env).map (·.2) = [assign (.Subscript o k tpos) X.env]) :
    SS X c W (.Assign [.Subscript o k tpos] e pos) (sPut g fe fo fk) := by
  obtain ⟨t, ht, hq⟩ := hg
  refine ⟨PS.imp (ps_asg he.pe (pg_sub ho.pe hk.pe ht ha) hs hw h1) fun D σ H ⟨F, ρ, S, q⟩ => ?_, okT_sput he.ok ho.ok hk.ok⟩
  refine ts_bind he.ok S q fun vv rv ρ1 F1 H1 S1 e1 f1 l1 q1 => ?_
  refine ts_bind2 S1 f1 ownR_slots ho.ok q1 fun ov ro ρ2 F2 H2 S2 e2 f2 l2 q2 => ?_
  cases ro with
  | «at» i =>
    refine ts_bind2 S2 (f1.trans f2 ownR_slots) ownR_slots hk.ok q2 fun kv ri ρ3 F3 H3 S3 e3 f3 l3 q3 => ?_
    have e2' := e2.later S2 f3 ownR_slots l3
    have f13 : Fr F1 H1 (ownS σ ρ1) F3 H3 (ownL σ ρ3 [kv] [ri]) := (f2.trans f3 ownR_slots).imp fun b z => by
      rcases z with z | ⟨j, d, z1, z2⟩
      · exact .inl z
      · cases j with
        | zero => exact .inr ⟨d, by simpa using z1, by simpa using z2⟩
        | succ j => simp at z1
    have el := erl_cons S1 e1 (l2.trans l3) (.cons e3 (fun d a _ _ j d' z => by simp at z) .nil) f13
    have fa := fr_cons f1 f13
    have q3 : PostS X.w X.K c W σ F H ρ (put2 g i rv ri ρ3) D := q3
    unfold put2 at q3
    cases ez : frzs ρ3 [rv, ri] with
    | bad => rw [ez] at q3; exact False.elim q3
    | exn x ρ4 => exact absurd ez frzs_noexn
    | ok ds ρ4 =>
      rw [ez] at q3
      obtain ⟨F4, fz, rl⟩ := frz_all S3 el ez
      cases rl with
      | cons r1 r2 =>
        cases r2 with
        | cons r2 r3 =>
          cases r3
          rename_i v k
          have q3 : PostS X.w X.K c W σ F H ρ (outT i ρ4 (g (ρ4.getD i .un).get k v)) D := q3
          cases eg : g (ρ4.getD i .un).get k v with
          | none => rw [eg] at q3; exact False.elim q3
          | some d' =>
            rw [eg] at q3
            unfold outT at q3
            cases es : setS ρ4 i d' with
            | none => simp only [es] at q3; exact False.elim q3
            | some ρ5 =>
              simp only [es] at q3
              obtain ⟨sl, sl', a, d, ea, hown, eg', hd, rfl, n, qo, rfl, ho', _, hs'⟩ := setS_open fz.st e2'.1 es
              rw [eg', hd] at eg
              refine hq F4 H3 a kv vv d k v d' _ fz.st.sub n qo r2 r1 eg fun o q1' => ?_
              obtain ⟨S5, f5⟩ := fz.st.put ea hown e2'.1 n (hs' _ q1') ho'
              have f4 : Fr F H (ownS σ ρ) F4 H3 (ownS σ ρ4) := ⟨fa.keep, fun b z => fa.new b (.inl (fz.own b z)), fun b u z => (fz.frz b u z).elim (fun z => fa.frz b u z) fun z => .inr (fa.new b z), fa.mono.trans fz.mono⟩
              exact q3 σ F4 _ S5 (fun _ _ _ _ => rfl) (f4.trans f5 fun b z => z)
  | _ => exact False.elim q2

/-! ### stores in lists and dicts -/
def gSetL : D → D → D → Option D
  | .lst xs, .int i, v => (ixN xs.length i).map fun j => .lst (xs.set j v)
  | _, _, _ => none
theorem put_lst : PutG X gSetL := by
  refine ⟨_, set_list, fun F H a kv vv d k v d' Q sb n ow rk rv e z => ?_⟩
  cases d with
  | lst xs =>
    cases k with
    | int i =>
      have e : ((ixN xs.length i).map fun j => D.lst (xs.set j v)) = some d' := e
      cases hj : ixN xs.length i with
      | none => rw [hj] at e; cases e
      | some j =>
        rw [hj] at e; cases e
        obtain ⟨us, h, r⟩ := own_lst ow rfl
        cases rk
        exact ⟨a, us, i, j, rfl, rfl, h, by rw [r.length]; exact hj, z _ ⟨_, upd_same, r.set rv j⟩⟩
    | _ => cases e
  | _ => cases e
def gSetD : D → D → D → Option D
  | .dct kvs, k, v => if (isK k && lim (kvs.length + 1)) = true then some (.dct (putD kvs k v)) else none
  | _, _, _ => none
def rSetD (X : Cx) : TSet := fun o i v H Q => ∃ F a n es kvs k d, o = .ref a ∧ H a = some (dO a n es) ∧ Sub F H ∧ F a = none ∧ RepE X.w X.K F es kvs ∧ (keysD kvs).Nodup ∧ Rep X.w X.K F i k ∧ Rep X.w X.K F v d ∧ isK k = true ∧ lim (kvs.length + 1) = true ∧ ∀ n' es', RepE X.w X.K F es' (putD kvs k d) → (keysD (putD kvs k d)).Nodup → Q (upd H a (dO a n' es'))
theorem putD_some {kvs : List (D × D)} {k v : D} {j : Nat} (h : idxD kvs k = some j) : putD kvs k v = kvs.modify j fun p => (p.1, v) := by unfold putD; rw [h]
theorem putD_none {kvs : List (D × D)} {k v : D} (h : idxD kvs k = none) : putD kvs k v = kvs ++ [(k, v)] := by unfold putD; rw [h]
theorem keys_snoc {kvs : List (D × D)} {k v : D} : keysD (kvs ++ [(k, v)]) = keysD kvs ++ [nk k] := by unfold keysD; rw [List.map_append]; rfl
theorem put_nodup {kvs : List (D × D)} {k v : D} (nd : (keysD kvs).Nodup) : (keysD (putD kvs k v)).Nodup := by
  cases h : idxD kvs k with
  | some j => rw [putD_some h, keys_mod]; exact nd
  | none =>
    rw [putD_none h, keys_snoc, List.nodup_append]
    refine ⟨nd, by simp, fun x hx y hy e => ?_⟩
    rw [List.mem_singleton] at hy
    subst hy e
    exact idxD_none h hx
theorem set_dict (hu : X.A.units + 9 < cLine) : PSet X (rSetD X) := by
  intro pins s σ H o i v ov iv u Q I ro ri rv h
  obtain ⟨F, a, n0, es, kvs, k, d, rfl, ha, sb, n, r, nd, rk, rd, kk, hl, q⟩ := h
  cases ro
  obtain ⟨h1, h2, kd⟩ := r.kdi I sb ha nd
  obtain ⟨b1, b2⟩ := isK_iff kk
  refine d_put kd (rk.nested I sb b1 ri) b2 hu h2 (fun j h' ep hj dr hs => ?_) fun h' ep hn dr hs => ?_
  · refine ⟨_, dO_write I ha (by simpa using h2) dr hs, q _ _ ?_ (put_nodup nd)⟩
    rw [putD_some (idxD_of nd hj)]
    exact RepE.mod rv rd r
  · have hn' : idxD kvs k = none := by
      cases e : idxD kvs k with
      | none => rfl
      | some j => obtain ⟨_, _, _, z⟩ := idxD_some e; exact absurd (List.mem_of_getElem? z) hn
    refine ⟨_, dO_write I ha (by rw [List.length_append, r.length]; exact lim_le hl) dr hs, q _ _ ?_ (put_nodup nd)⟩
    rw [putD_none hn']
    exact RepE.snoc ri rk kk rfl rv rd r
theorem put_dct (hu : X.A.units + 9 < cLine) : PutG X gSetD := by
  refine ⟨_, set_dict hu, fun F H a kv vv d k v d' Q sb n ow rk rv e z => ?_⟩
  cases d with
  | dct kvs =>
    unfold gSetD at e
    simp only at e
    split at e
    · rename_i hh
      rw [Bool.and_eq_true] at hh
      cases e
      obtain ⟨n0, es, h, r, nd⟩ := ow
      exact ⟨F, a, n0, es, kvs, k, v, rfl, h, sb, n, r, nd, rk, rv, hh.1, hh.2, fun n' es' r' nd' => z _ ⟨n', es', upd_same, r', nd'⟩⟩
    · cases e
  | _ => cases e
def orP (g g' : D → D → D → Option D) (d k v : D) : Option D := match g d k v with
  | some p => some p
  | none => g' d k v
theorem PutG.or {g g' : D → D → D → Option D} (a : PutG X g) (b : PutG X g') : PutG X (orP g g') := by
  obtain ⟨t, a1, a2⟩ := a
  obtain ⟨t', b1, b2⟩ := b
  refine ⟨fun o i v H Q => t o i v H Q ∨ t' o i v H Q, fun pins s σ H o i v ov iv u Q I ro ri rv h => ?_, fun F H a kv vv d k v d' Q sb n ow rk rv e z => ?_⟩
  · rcases h with h | h
    · exact a1 pins s σ H o i v ov iv u Q I ro ri rv h
    · exact b1 pins s σ H o i v ov iv u Q I ro ri rv h
  · unfold orP at e
    cases q : g d k v with
    | some p => rw [q] at e; cases e; exact .inl (a2 F H a kv vv d k v d' Q sb n ow rk rv q z)
    | none => rw [q] at e; exact .inr (b2 F H a kv vv d k v d' Q sb n ow rk rv e z)
end
end WS
/-! Wr: dict displays, repr. -/
namespace WS
open PySem L2

section
variable {X : Cx} {c : XC} {W : WX} {pos : Pos}
/-! ### {k: v, ..} -/
theorem tl_cons {f : SemE} {g : SemL} (hf : okE f) (hg : okE g) {σ : St} {H : Hp} {Q : List V → Hp → Prop} (h : TL X.w X.K c W (lCons f g) σ H Q) : TD X.w X.K c W f σ H fun v H1 => TL X.w X.K c W g σ H1 fun vs H2 => Q (v :: vs) H2 := by
  obtain ⟨F, ρ, S, h⟩ := h
  refine ⟨F, ρ, S, ?_⟩
  have l1 := hf ρ
  unfold lCons at h
  cases e1 : f ρ with
  | bad => rw [e1] at h; exact h
  | exn x ρ1 => rw [e1] at h; exact h
  | ok r ρ1 =>
    rw [e1] at h l1
    intro v F1 H1 S1 r1 f1
    refine ⟨F1, ρ1, S1, ?_⟩
    have l2 := hg ρ1
    have h : PostL X.w X.K c W σ F H ρ ((g ρ1).bind fun rs ρ2 => .ok (r :: rs) ρ2) Q := h
    cases e2 : g ρ1 with
    | bad => rw [e2] at h; exact h
    | exn x ρ2 => rw [e2] at h; exact PostL.step (out := .exn x ρ2) f1 ownR_slots h
    | ok rs ρ2 =>
      rw [e2] at h l2
      exact fun vs F2 H2 S2 r2 f2 => h (v :: vs) F2 H2 S2 (erl_cons S1 r1 l2 r2 f2) (fr_cons f1 f2)
theorem tl_nil {σ : St} {H : Hp} {Q : List V → Hp → Prop} (h : TL X.w X.K c W lNil σ H Q) : Q [] H := by
  obtain ⟨F, ρ, S, h⟩ := h
  refine h [] F H S .nil (Fr.refl.imp fun b z => ?_)
  rcases z with z | ⟨j, d, z, _⟩
  · exact z
  · simp at z
/-- the pairs of a display -/
def lPairs : List (SemE × SemE) → SemL
  | [] => lNil
  | (a, b) :: r => lCons a (lCons b (lPairs r))
def flat2 {α : Type} : List (α × α) → List α
  | [] => []
  | (a, b) :: r => a :: b :: flat2 r
structure SD (X : Cx) (c : XC) (W : WX) (pos : Pos) (keys : List (Option Expr)) (values : List Expr) (fs : List (SemE × SemE)) : Prop where
  run : PPs X pos keys values (fs.map fun p => (TD X.w X.K c W p.1, TD X.w X.K c W p.2))
  ok : ∀ p ∈ fs, okE p.1 ∧ okE p.2
  all : keys.all (·.isSome) = true
  len : keys.length = values.length
  len' : fs.length = keys.length
theorem sd_nil : SD X c W pos [] [] [] := .mk pps_nil (fun _ z => nomatch z) rfl rfl rfl
theorem sd_cons {k v : Expr} {ks : List (Option Expr)} {vs : List Expr} {f g : SemE} {fs : List (SemE × SemE)} (hk : SE X c W k f) (hv : SE X c W v g) (h : SD X c W pos ks vs fs) : SD X c W pos (some k :: ks) (v :: vs) ((f, g) :: fs) :=
  .mk (pps_cons hk.pe hv.pe h.run) (fun p hp => (List.mem_cons.mp hp).elim (fun e => by subst e; exact ⟨hk.ok, hv.ok⟩) (h.ok p)) (by simpa using h.all) (congrArg (· + 1) h.len) (congrArg (· + 1) h.len')
theorem okE_pairs : ∀ {fs : List (SemE × SemE)}, (∀ p ∈ fs, okE p.1 ∧ okE p.2) → okE (lPairs fs)
  | [], _ => okE_ok []
  | (a, b) :: r, h => okE_lcons (h _ (List.mem_cons_self ..)).1 (okE_lcons (h _ (List.mem_cons_self ..)).2 (okE_pairs fun p hp => h p (List.mem_cons_of_mem _ hp)))
theorem tp_pairs : ∀ {fs : List (SemE × SemE)} {σ : St} {H : Hp} {Q : List (V × V) → Hp → Prop}, (∀ p ∈ fs, okE p.1 ∧ okE p.2) → TL X.w X.K c W (lPairs fs) σ H (fun vs H' => ∀ ps, vs = flat2 ps → Q ps H') → tPairs (fs.map fun p => (TD X.w X.K c W p.1, TD X.w X.K c W p.2)) σ H Q
  | [], σ, H, Q, _, h => tl_nil h [] rfl
  | (a, b) :: r, σ, H, Q, ok, h => by
    have o := ok _ (List.mem_cons_self ..)
    have o' : ∀ p ∈ r, okE p.1 ∧ okE p.2 := fun p hp => ok p (List.mem_cons_of_mem _ hp)
    obtain ⟨F, ρ, S, h1⟩ := tl_cons o.1 (okE_lcons o.2 (okE_pairs o')) h
    refine ⟨F, ρ, S, ?_⟩
    have wk : ∀ {Z Z' : VK} {out : Out R}, (∀ v H, Z v H → Z' v H) → Post X.w X.K c W σ F H ρ out Z → Post X.w X.K c W σ F H ρ out Z' := fun {Z Z' out} i q => by
      cases out with
      | ok x ρ' => exact fun v F' H' s e f => i _ _ (q v F' H' s e f)
      | exn x ρ' => exact q
      | bad => exact q
    refine wk (fun v H1 q => ?_) h1
    obtain ⟨F1, ρ1, S1, h2⟩ := tl_cons o.2 (okE_pairs o') q
    refine ⟨F1, ρ1, S1, ?_⟩
    have wk1 : ∀ {Z Z' : VK} {out : Out R}, (∀ v H, Z v H → Z' v H) → Post X.w X.K c W σ F1 H1 ρ1 out Z → Post X.w X.K c W σ F1 H1 ρ1 out Z' := fun {Z Z' out} i q => by
      cases out with
      | ok x ρ' => exact fun v F' H' s e f => i _ _ (q v F' H' s e f)
      | exn x ρ' => exact q
      | bad => exact q
    refine wk1 (fun v' H2 q' => ?_) h2
    refine tp_pairs o' ?_
    obtain ⟨F2, ρ2, S2, h3⟩ := q'
    refine ⟨F2, ρ2, S2, ?_⟩
    cases e : lPairs r ρ2 with
    | bad => rw [e] at h3; exact h3
    | exn x ρ3 => rw [e] at h3; exact h3
    | ok rs ρ3 =>
      rw [e] at h3
      exact fun vs F3 H3 S3 r3 f3 ps hps => h3 vs F3 H3 S3 r3 f3 ((v, v') :: ps) (by rw [hps]; rfl)
theorem lcons_len {f : SemE} {g : SemL} {n : Nat} (h : ∀ ρ rs ρ', g ρ = .ok rs ρ' → rs.length = n) : ∀ ρ rs ρ', lCons f g ρ = .ok rs ρ' → rs.length = n + 1 := fun ρ rs ρ' e => by
  unfold lCons at e
  cases e1 : f ρ with
  | bad => rw [e1] at e; cases e
  | exn x ρ1 => rw [e1] at e; cases e
  | ok r ρ1 =>
    rw [e1] at e
    have e : (g ρ1).bind (fun rs ρ2 => Out.ok (r :: rs) ρ2) = .ok rs ρ' := e
    cases e2 : g ρ1 with
    | bad => rw [e2] at e; cases e
    | exn x ρ2 => rw [e2] at e; cases e
    | ok us ρ2 =>
      rw [e2] at e
      cases e
      exact congrArg (· + 1) (h _ _ _ e2)
theorem pairs_len : ∀ (fs : List (SemE × SemE)) (ρ : Env) (rs : List R) (ρ' : Env), lPairs fs ρ = .ok rs ρ' → rs.length = 2 * fs.length
  | [], ρ, rs, ρ', h => by cases h; rfl
  | (a, b) :: r, ρ, rs, ρ', h => by
    have := lcons_len (f := a) (lcons_len (f := b) (pairs_len r)) ρ rs ρ' h
    rw [this, List.length_cons]; omega
theorem flat2_len {α : Type} : ∀ ps : List (α × α), (flat2 ps).length = 2 * ps.length
  | [] => rfl
  | (a, b) :: r => by
    show (flat2 r).length + 1 + 1 = 2 * (r.length + 1)
    rw [flat2_len r]; omega
/-- a row of keys and values, laid one after another -/
def putAll : List (D × D) → List D → Option (List (D × D))
  | kvs, [] => some kvs
  | kvs, k :: v :: r => if isK k = true then putAll (putD kvs k v) r else none
  | _, [_] => none
def eDct (fs : List (SemE × SemE)) : SemE := fun ρ => (lPairs fs ρ).bind fun rs ρ1 => (frzs ρ1 rs).bind fun ds ρ2 => match putAll [] ds with
  | some kvs => .ok (.tmp (.dct kvs)) ρ2
  | none => .bad
theorem okE_dct {fs : List (SemE × SemE)} (h : ∀ p ∈ fs, okE p.1 ∧ okE p.2) : okE (eDct fs) := okE_bind (okE_pairs h) fun rs => okE_bind (okE_frzs rs) fun ds => by
  cases putAll [] ds with
  | some kvs => exact okE_ok _
  | none => exact okE_bad
theorem upd_id {H : Hp} {a : Addr} {o : HO} (h : H a = some o) : upd H a o = H := funext fun b => by
  by_cases hb : b = a
  · subst hb; rw [upd_same, h]
  · rw [upd_ne hb]
theorem putD_len {kvs : List (D × D)} {k v : D} : (putD kvs k v).length ≤ kvs.length + 1 := by
  cases hx : idxD kvs k with
  | some j => rw [putD_some hx, List.length_modify]; omega
  | none => rw [putD_none hx, List.length_append]; exact Nat.le_refl _
theorem store_all (hu : X.A.units + 9 < cLine) {σ : St} {F : Hp} {a : Addr} {kvs' : List (D × D)} (n : F a = none) {pins : List (Addr × Obj)} {H0 : Hp} {Q : PUnit → Shared → Prop} (q : ∀ n' es' s', Inv X pins σ (upd H0 a (dO a n' es')) s' → RepE X.w X.K F es' kvs' → (keysD kvs').Nodup → Q PUnit.unit s') (sb0 : ∀ n' es, Sub F (upd H0 a (dO a n' es))) :
    ∀ (ps : List (V × V)) (vs : List (Value × Value)) (ds : List D) (kvs : List (D × D)) (n0 : Nat) (es : List DictEntry) (s : Shared),
    Inv X pins σ (upd H0 a (dO a n0 es)) s → RepE X.w X.K F es kvs → (keysD kvs).Nodup → VV ps vs → RepL X.w X.K F (flat2 ps) ds → putAll kvs ds = some kvs' → kvs.length + ps.length ≤ 1000 → wpAny (model X.prog X.w) X.A (storeAll a vs) Q X.xe s := by
  intro ps
  induction ps with
  | nil =>
    intro vs ds kvs n0 es s I r nd rv rl e hl
    cases rv
    cases rl
    cases e
    unfold storeAll
    rw [List.forIn_nil]
    exact wpAny_pure (q n0 es s I r nd)
  | cons p ps ih =>
    obtain ⟨x, y⟩ := p
    intro vs ds kvs n0 es s I r nd rv rl e hl
    cases rv with
    | @cons _ u _ us h t =>
      obtain ⟨r1, r2⟩ := h
      cases rl with
      | @cons _ k _ _ k1 rl =>
        cases rl with
        | @cons _ v _ ds0 v1 rl =>
          by_cases kk : isK k = true
          · have e : putAll (putD kvs k v) ds0 = some kvs' := by
              unfold putAll at e
              rw [if_pos kk] at e
              exact e
            unfold storeAll
            rw [List.forIn_cons]
            obtain ⟨h1, h2, kd⟩ := r.kdi I (sb0 n0 es) upd_same nd
            obtain ⟨b1, b2⟩ := isK_iff kk
            have hle := putD_len (kvs := kvs) (k := k) (v := v)
            have hs1 : sizeLine = 16777216 := sizeLine_eq
            have hl' : kvs.length + (ps.length + 1) ≤ 1000 := hl
            have nxt : ∀ {n' : Nat} {es' : List DictEntry} {s' : Shared}, Inv X pins σ (upd (upd H0 a (dO a n0 es)) a (dO a n' es')) s' → RepE X.w X.K F es' (putD kvs k v) → wpAny (model X.prog X.w) X.A (storeAll a us) Q X.xe s' := fun {n' es' s'} I' r' => by
              rw [upd_upd] at I'
              exact ih us ds0 (putD kvs k v) n' es' s' I' r' (put_nodup nd) t rl e (by omega)
            refine wpAny_bind (wpAny_bind (dset kd (k1.nested I (sb0 n0 es) b1 r1) b2 (by omega) h2 (fun j h' ep hj dr hs => wpAny_pure ?_) fun h' ep hn dr hs => wpAny_pure ?_))
            · refine nxt (dO_write I upd_same (by rw [List.length_modify]; exact h2) dr hs) ?_
              rw [putD_some (idxD_of nd hj)]
              exact RepE.mod r2 v1 r
            · have hn' : idxD kvs k = none := by
                cases e : idxD kvs k with
                | none => rfl
                | some j => obtain ⟨_, _, _, z⟩ := idxD_some e; exact absurd (List.mem_of_getElem? z) hn
              refine nxt (dO_write I upd_same (by rw [List.length_append, r.length, List.length_singleton]; omega) dr hs) ?_
              rw [putD_none hn']
              exact RepE.snoc r1 k1 kk rfl r2 v1 r
          · unfold putAll at e
            rw [if_neg kk] at e
            cases e
theorem dO_empty {P : Program} {w : World} {H : Hp} (h : Heap) (hb : sysModules < h.objs.size) : ObjOk P w H (h.push { cls := .type "dict", data := .dict #[] }) h.objs.size (dO h.objs.size 0 []) :=
  ⟨⟨beq_eq_false_iff_ne.mpr (Ne.symm (Nat.ne_of_lt hb)), Nat.zero_le _, _, Heap.get?_push_size _ rfl, ⟨rfl, rfl, rfl⟩, rfl⟩, ⟨_, Heap.get?_push_size _ rfl⟩, fun g1 g2 ⟨p1, p2, o', p3, p4⟩ k => ⟨p1, p2, o', k o' p3, p4⟩⟩
theorem se_dct {keys : List (Option Expr)} {values : List Expr} {fs : List (SemE × SemE)} (hu : X.A.units + 9 < cLine) (h : SD X c W pos keys values fs) (h0 : keys ≠ []) (h15 : decide (keys.length ≤ 15) = true) : SE X c W (.Dict keys values pos) (eDct fs) := by
  refine ⟨⟨fun pins s σ H Q I ⟨F, ρ, S, q⟩ => ?_⟩, okE_dct h.ok⟩
  have hn := I.hok.fresh (Nat.le_refl s.heap.objs.size)
  have I1 := I.laid (a := s.heap.objs.size) (o := dO s.heap.objs.size 0 []) (h' := s.heap.push { cls := .type "dict", data := .dict #[] }) (t' := s.toks) (fun _ _ q => Heap.get?_push_of_some _ q) (Nat.le_refl _) (dO_empty s.heap I.big)
  generalize ea : s.heap.objs.size = a at hn I1 ⊢
  have kp := upd_keep (u := dO a 0 []) hn
  have S1 : StR X.w X.K F (upd H a (dO a 0 [])) σ ρ := S.new (S.sub.new hn) (Sub.refl _) kp fun b z => .inl z
  have na : ¬ ownS σ ρ a := fun z => by
    obtain ⟨o, ho⟩ := S.ownThere z
    rw [hn] at ho; cases ho
  have hlk := okE_pairs h.ok ρ
  have key : ∀ {out : Out (List R)}, lPairs fs ρ = out → PostL X.w X.K c W σ F (upd H a (dO a 0 [])) ρ out fun vs H2 => ∀ ps, vs = flat2 ps → ∃ F2 ds kvs, ps.length = fs.length ∧ H2 a = some (dO a 0 []) ∧ Sub F2 H2 ∧ F2 a = none ∧ RepL X.w X.K F2 vs ds ∧ putAll [] ds = some kvs ∧ ∀ n0 es, RepE X.w X.K F2 es kvs → (keysD kvs).Nodup → Q (.ref a) (upd H2 a (dO a n0 es)) := by
    intro out eo
    unfold eDct at q
    rw [eo] at q hlk
    cases out with
    | bad => exact q
    | exn x ρ1 =>
      intro cls d F' H' s' xr f
      exact q cls d F' H' s' xr ⟨fun b u z no => f.keep b u (kp b u z) no, fun b z => (f.new b z).elim .inl fun z => .inr (by
        by_cases hb : b = a
        · subst hb; exact hn
        · rw [upd_ne hb] at z; exact z), fun b u z => (f.frz b u z).elim .inl fun z => .inr (z.elim .inl fun z => .inr (by
        by_cases hb : b = a
        · subst hb; exact hn
        · rw [upd_ne hb] at z; exact z)), f.mono⟩
    | ok rs ρ1 =>
      intro vs F1 H1 S2 el f1 ps hps
      have q : Post X.w X.K c W σ F H ρ ((frzs ρ1 rs).bind fun ds ρ2 => match putAll [] ds with | some kvs => Out.ok (R.tmp (.dct kvs)) ρ2 | none => .bad) Q := q
      cases ez : frzs ρ1 rs with
      | bad => rw [ez] at q; exact False.elim q
      | exn x ρ2 => exact absurd ez frzs_noexn
      | ok ds ρ2 =>
        rw [ez] at q
        have q : Post X.w X.K c W σ F H ρ (match putAll [] ds with | some kvs => Out.ok (R.tmp (.dct kvs)) ρ2 | none => .bad) Q := q
        obtain ⟨F2, fz, rl⟩ := frz_all S2 el ez
        cases ep : putAll [] ds with
        | none => rw [ep] at q; exact False.elim q
        | some kvs =>
          simp only [ep] at q
          have h1a : H1 a = some (dO a 0 []) := f1.keep a _ upd_same na
          have back : ∀ b, upd H a (dO a 0 []) b = none → H b = none := fun b z => by
            by_cases hb : b = a
            · subst hb; exact hn
            · rw [upd_ne hb] at z; exact z
          have nl : ¬ ownL σ ρ1 vs rs a := fun z => by
            rcases f1.new a z with z | z
            · exact na z
            · rw [upd_same] at z; cases z
          have n1 : F1 a = none := by
            cases z : F1 a with
            | none => rfl
            | some u =>
              rcases f1.frz a u z with z | z | z
              · rw [S.sub.fresh hn] at z; cases z
              · exact absurd z na
              · rw [upd_same] at z; cases z
          have n2 : F2 a = none := by
            cases z : F2 a with
            | none => rfl
            | some u =>
              rcases fz.frz a u z with z | z
              · rw [n1] at z; cases z
              · exact absurd z nl
          have hlen := pairs_len fs ρ rs ρ1 eo
          rw [← el.length, hps, flat2_len] at hlen
          refine ⟨F2, ds, kvs, by omega, h1a, fz.st.sub, n2, rl, ep, fun n0 es re nd => ?_⟩
          have no2 : ¬ ownS σ ρ2 a := fun z => nl (.inl (fz.own a z))
          have kp2 : ∀ b o, b ≠ a → H1 b = some o → upd H1 a (dO a n0 es) b = some o := fun b o hb z => by rw [upd_ne hb]; exact z
          refine q (.ref a) F2 _ ⟨fun b u z => ?_, fz.st.len, fun j sl ej tj => ?_, fz.st.inj⟩ ⟨a, rfl, n2, ⟨n0, es, upd_same, re, nd⟩, no2⟩ ⟨fun b u z no => ?_, fun b z => ?_, fun b u z => ?_, f1.mono.trans fz.mono⟩
          · rw [upd_ne (ne_of_none z n2)]; exact fz.st.sub b u z
          · obtain ⟨v, e1, x⟩ := fz.st.slot j sl ej tj
            refine ⟨v, e1, ?_⟩
            have g : ∀ d, sl.own = true → (∃ b, v = .ref b ∧ F2 b = none ∧ Own X.w X.K F2 H1 b d) → ∃ b, v = .ref b ∧ F2 b = none ∧ Own X.w X.K F2 (upd H1 a (dO a n0 es)) b d := by
              rintro d ho ⟨b, rfl, nb, qb⟩
              have hb : b ≠ a := by rintro rfl; exact no2 ⟨j, sl, ej, ho, e1⟩
              exact ⟨b, rfl, nb, qb.mono (Sub.refl _) fun u z => kp2 b u hb z⟩
            cases sl with
            | un => trivial
            | fz d => exact x
            | lf d => exact x
            | ow d => exact g d rfl x
            | le d => exact g d rfl x
            | lk d => exact g d rfl x
          · have hb : b ≠ a := ne_of_none z hn
            exact kp2 b u hb (f1.keep b u (kp b u z) no)
          · rcases z with z | ⟨d, _, z⟩
            · rcases f1.new b (.inl (fz.own b z)) with z | z
              · exact .inl z
              · exact .inr (back b z)
            · cases z; exact .inr hn
          · rcases fz.frz b u z with z | z
            · rcases f1.frz b u z with z | z | z
              · exact .inl z
              · exact .inr (.inl z)
              · exact .inr (.inr (back b z))
            · rcases f1.new b z with z | z
              · exact .inr (.inl z)
              · exact .inr (.inr (back b z))
  have key' : ∀ {out : Out (List R)}, lPairs fs ρ = out → PostL X.w X.K c W σ F (upd H a (dO a 0 [])) ρ out fun vs H2 => ∀ ps, vs = flat2 ps → ∃ F2 ds kvs, ps.length = fs.length ∧ H2 a = some (dO a 0 []) ∧ Sub F2 H2 ∧ F2 a = none ∧ RepL X.w X.K F2 (flat2 ps) ds ∧ putAll [] ds = some kvs ∧ ∀ n0 es, RepE X.w X.K F2 es kvs → (keysD kvs).Nodup → Q (.ref a) (upd H2 a (dO a n0 es)) := by
    intro out eo
    have := key eo
    cases out with
    | bad => exact this
    | exn x ρ1 => exact this
    | ok rs ρ1 => exact fun vs F1 H1 S2 el f1 ps hps => hps ▸ this vs F1 H1 S2 el f1 ps hps
  have run := h.run.run pins _ σ _ _ I1 (tp_pairs (Q := fun ps H2 => ∃ F2 ds kvs, ps.length = fs.length ∧ H2 a = some (dO a 0 []) ∧ Sub F2 H2 ∧ F2 a = none ∧ RepL X.w X.K F2 (flat2 ps) ds ∧ putAll [] ds = some kvs ∧ ∀ n0 es, RepE X.w X.K F2 es kvs → (keysD kvs).Nodup → Q (.ref a) (upd H2 a (dO a n0 es))) h.ok ⟨F, ρ, S1, key' rfl⟩)
  refine wpAny_Dict_any h.all h.len h0 (of_decide_eq_true h15) (thn (ea ▸ run) fun ws s2 ⟨ps, H2, I2, rel, F2, ds, kvs, elen, e2, sb2, n2, rl, ep, fin⟩ => ?_)
  rw [ea] at e2 n2 fin ⊢
  have hps : ps.length ≤ 1000 := by
    have := of_decide_eq_true h15
    rw [elen, h.len']; omega
  have sb3 : ∀ n0 es, Sub F2 (upd H2 a (dO a n0 es)) := fun n0 es b o z => by rw [upd_ne (ne_of_none z n2)]; exact sb2 b o z
  exact store_all hu n2 (H0 := H2) (fun n' es' s' I' r' nd' => ⟨.ref a, _, I', rfl, fin n' es' r' nd'⟩) sb3 ps ws ds [] 0 [] s2 (by rw [upd_id e2]; exact I2) .nil List.nodup_nil rel rl ep (by simpa using hps)
end
end WS
/-! Ws: {}, repr. -/
namespace WS
open PySem L2

section
variable {X : Cx} {c : XC} {W : WX} {pos : Pos}
theorem pe_dct0 : PE X (.Dict [] [] pos) fun _ H Q => ∀ p, H p = none → Q (.ref p) (upd H p (dO p 0 [])) := ⟨fun pins s σ H Q I h =>
  wpAny_Dict_empty ⟨.ref s.heap.objs.size, _, I.laid (a := s.heap.objs.size) (o := dO s.heap.objs.size 0 []) (t' := s.toks) (fun _ _ q => Heap.get?_push_of_some _ q) (Nat.le_refl _) (dO_empty s.heap I.big), rfl, h _ (I.hok.fresh (Nat.le_refl _))⟩⟩
def eDct0 : SemE := fun ρ => .ok (.tmp (.dct [])) ρ
theorem se_dct0 : SE X c W (.Dict [] [] pos) eDct0 := by
  refine ⟨PE.imp pe_dct0 fun σ H Q ⟨F, ρ, S, q⟩ p hp => ?_, fun ρ => LkE.refl ρ⟩
  have kp := upd_keep (u := dO p 0 []) hp
  have S1 : StR X.w X.K F (upd H p (dO p 0 [])) σ ρ := S.new (S.sub.new hp) (Sub.refl _) kp fun b z => .inl z
  have no : ¬ ownS σ ρ p := fun z => by
    obtain ⟨o, ho⟩ := S.ownThere z
    rw [hp] at ho; cases ho
  refine q (.ref p) F _ S1 ⟨p, rfl, S.sub.fresh hp, ⟨0, [], upd_same, .nil, List.nodup_nil⟩, no⟩ ⟨fun b u z _ => kp b u z, fun b z => ?_, fun b u z => .inl z, Sub.refl _⟩
  rcases z with z | ⟨d, _, z⟩
  · exact .inl z
  · cases z; exact .inr hp
/-! ### repr -/
mutual
def toR : D → PyData
  | .non => .none
  | .bl b => .bool b
  | .int i => .int i
  | .str s => .str (mkS s)
  | .tup xs => .tuple (toRs xs)
  | .lst xs => .list (toRs xs)
  | .dct kvs => .dict (toRk kvs)
  | .scr ns => .list (ns.map .int)
  | .err _ _ => .none
def toRs : List D → List PyData
  | [] => []
  | x :: xs => toR x :: toRs xs
def toRk : List (D × D) → List (PyData × PyData)
  | [] => []
  | (k, v) :: r => (toR k, toR v) :: toRk r
end
mutual
/-- no dict within but one at the top -/
def plainR : D → Bool
  | .dct kvs => false
  | .err _ _ => false
  | .tup xs => plainRs xs
  | .lst xs => plainRs xs
  | _ => true
def plainRs : List D → Bool
  | [] => true
  | x :: xs => plainR x && plainRs xs
end
mutual
theorem plainR_has : ∀ d : D, plainR d = true → (toR d).hasDict = false
  | .non, _ => by simp [toR, PyData.hasDict]
  | .bl _, _ => by simp [toR, PyData.hasDict]
  | .int _, _ => by simp [toR, PyData.hasDict]
  | .str _, _ => by simp [toR, PyData.hasDict]
  | .tup xs, h => by
    simp only [plainR] at h
    simp only [toR, PyData.hasDict]
    exact plainRs_has xs h
  | .lst xs, h => by
    simp only [plainR] at h
    simp only [toR, PyData.hasDict]
    exact plainRs_has xs h
  | .dct _, h => by simp [plainR] at h
  | .err _ _, h => by simp [plainR] at h
  | .scr ns, _ => by
    simp only [toR, PyData.hasDict]
    induction ns with
    | nil => simp [PyData.hasDictAll]
    | cons n ns ih =>
      have := ih rfl
      simp [PyData.hasDictAll, PyData.hasDict, this]
theorem plainRs_has : ∀ xs : List D, plainRs xs = true → PyData.hasDictAll (toRs xs) = false
  | [], _ => by simp [toRs, PyData.hasDictAll]
  | x :: xs, h => by
    simp only [plainRs, Bool.and_eq_true] at h
    simp only [toRs, PyData.hasDictAll, plainR_has x h.1, plainRs_has xs h.2, Bool.or_self]
end
/-- what repr may be asked: no dict in it, or a dict of none -/
def okR : D → Bool
  | .dct [] => true
  | d => plainR d
def reprS (d : D) : List Nat := (toR d).shown.cps.toList
def gRepr (d : D) : Option PR := if (okR d && (toR d).showable && lim (reprS d).length && okS (reprS d) && decide ((toR d).depth ≤ 60)) = true then some (.sc (.str (reprS d))) else none
mutual
theorem Rep.reads {pins : List (Addr × Obj)} {σ : St} {F H : Hp} {s : Shared} (I : Inv X pins σ H s) (sb : Sub F H) : ∀ {d : D} {v : V} {u : Value}, Rep X.w X.K F v d → plainR d = true → RelV v u → ∃ as, Reads s.heap u (toR d) as
  | .non, _, _, h, _, r => by cases h; cases r; exact ⟨_, by simp only [toR]; exact .none⟩
  | .bl b, _, _, h, _, r => by cases h; cases r; exact ⟨_, by simp only [toR]; exact .bool b⟩
  | .int i, _, _, h, _, r => by cases h; obtain ⟨t, rfl⟩ := r; exact ⟨_, by simp only [toR]; exact .int i t⟩
  | .str z, _, _, h, _, r => by
    cases h with
    | str _ a b => obtain ⟨t, rfl⟩ := r; exact ⟨_, by simp only [toR]; exact .str _ t⟩
  | .tup xs, _, _, h, k, r => by
    simp only [plainR] at k
    cases h with
    | tup a b =>
      cases r
      obtain ⟨its, rv, ⟨o, e, c, n, dt⟩, _⟩ := I.tuple (SqT_sub sb a)
      obtain ⟨as, q⟩ := RepL.reads I sb b k rv
      exact ⟨as, by simp only [toR]; exact .tuple e c dt q⟩
  | .lst xs, _, _, h, k, r => by
    simp only [plainR] at k
    cases h with
    | @lst a vs _ fa b =>
      cases r
      obtain ⟨its, rv, ⟨o, n, e, c, _, dt⟩, _⟩ := I.list (.of (sb _ _ fa) : SqL X.K H a vs)
      obtain ⟨as, q⟩ := RepL.reads I sb b k rv
      exact ⟨_, by simp only [toR]; exact .list e c dt q⟩
  | .dct _, _, _, _, k, _ => by simp [plainR] at k
  | .err _ _, _, _, _, k, _ => by simp [plainR] at k
  | .scr ns, _, _, h, _, r => by
    cases h with
    | @scr a _ fa =>
      cases r
      obtain ⟨its, rv, ⟨o, n, e, c, _, dt⟩, _⟩ := I.list (SqL_sub sb fa)
      have : ∀ (ns : List Int) (its : List Value), Vals (ns.map V.int) its → ∃ as, ReadsAll s.heap its (ns.map .int) as := by
        intro ns
        induction ns with
        | nil => intro its rv; cases rv; exact ⟨_, .nil⟩
        | cons n ns ih =>
          intro its rv
          cases rv with
          | cons r1 r2 =>
            obtain ⟨t, rfl⟩ := r1
            obtain ⟨as, q⟩ := ih _ r2
            exact ⟨_, .cons (.int n t) q⟩
      obtain ⟨as, q⟩ := this ns its rv
      exact ⟨_, by simp only [toR]; exact .list e c dt q⟩
theorem RepL.reads {pins : List (Addr × Obj)} {σ : St} {F H : Hp} {s : Shared} (I : Inv X pins σ H s) (sb : Sub F H) : ∀ {ds : List D} {vs : List V} {us : List Value}, RepL X.w X.K F vs ds → plainRs ds = true → Vals vs us → ∃ as, ReadsAll s.heap us (toRs ds) as
  | [], _, _, h, _, r => by cases h; cases r; exact ⟨_, by simp only [toRs]; exact .nil⟩
  | d :: ds, _, _, h, k, r => by
    simp only [plainRs, Bool.and_eq_true] at k
    cases h with
    | cons a b =>
      cases r with
      | cons r1 r2 =>
        obtain ⟨as, q⟩ := Rep.reads I sb a k.1 r1
        obtain ⟨bs, q2⟩ := RepL.reads I sb b k.2 r2
        exact ⟨_, by simp only [toRs]; exact .cons q q2⟩
end
theorem mkS_cps (x : Str) : mkS x.cps.toList = x := rfl
def rRepr (X : Cx) : List V → Hp → VK → Prop := fun xs H Q => ∃ x F d, xs = [x] ∧ Sub F H ∧ Rep X.w X.K F x d ∧ gRepr d ≠ none ∧ Q (.str (mkS (reprS d))) H
theorem fn_repr_cr (hg : X.A.guards = some []) (hu : X.A.units + 65 < cLine) : CallR X (.builtin "repr") (rRepr X) := by
  intro pins s σ H xs us Q I r h
  obtain ⟨x, F, d, rfl, sb, rp, ok, q⟩ := h
  obtain ⟨u, rfl, ru⟩ := vals1 r
  unfold gRepr at ok
  by_cases hc : (okR d && (toR d).showable && lim (reprS d).length && okS (reprS d) && decide ((toR d).depth ≤ 60)) = true
  rotate_left
  · rw [if_neg hc] at ok; exact absurd rfl ok
  simp only [Bool.and_eq_true] at hc
  obtain ⟨⟨⟨⟨h1, h2⟩, h3⟩, h4⟩, h5⟩ := hc
  have h5 := of_decide_eq_true h5
  have hl : (toR d).shown.length ≤ sizeLine := lim_le h3
  have fin : ∀ {w' : Value} {s' : Shared}, Inv X pins σ H s' → (∃ t, w' = .str (toR d).shown t) → EP X pins σ Q w' s' := fun I' e => ⟨.str (toR d).shown, H, I', e, q⟩
  cases d with
  | non => cases rp; cases ru; exact PySem.P.repr_of_none (fin (I.tok _) ⟨_, rfl⟩)
  | bl b =>
    cases rp; cases ru
    refine PySem.P.repr_of_bool (fin (I.tok _) ⟨s.toks, ?_⟩)
    simp only [toR, PyData.shown]
  | int i =>
    cases rp
    obtain ⟨t, rfl⟩ := ru
    simp only [toR, PyData.showable] at h2
    refine PySem.P.repr_of_int (of_decide_eq_true h2) (fin (I.tok _) ⟨s.toks, ?_⟩)
    simp only [toR, PyData.shown]
  | str z =>
    cases rp with
    | str _ a b =>
      obtain ⟨t, rfl⟩ := ru
      simp only [toR, PyData.shown] at hl
      refine PySem.P.repr_of_str (fin (I.tok _) ⟨s.toks, ?_⟩) hl
      simp only [toR, PyData.shown]
  | err n fs => simp [okR, plainR] at h1
  | dct kvs =>
    cases kvs with
    | cons p r => simp [okR, plainR] at h1
    | nil =>
      cases rp with
      | @dct a _ es _ fa re nd =>
        cases re
        cases ru
        obtain ⟨e1, e2, ep, o, ho, hx, hd⟩ := dO_at I (sb _ _ fa)
        have rd : Reads s.heap (.ref a) (toR (.dct [])) [a] := by
          simp only [toR, toRk]
          exact .dict (as := []) (bs := []) ho hx.1 hd .nil .nil
        refine repr_of_reads' rd h2 (fun _ hm => ?_) hg (by omega) (fun b o z => z) (fun h' u tk hk => fin (I.kept hk) ⟨_, rfl⟩) hl
        rw [List.mem_singleton] at hm
        rw [← hm] at e1
        simp at e1
  | tup xs =>
    have hp : plainR (.tup xs) = true := h1
    cases rp with
    | tup a b =>
      cases ru
      obtain ⟨as, rd⟩ := Rep.reads I sb (.tup a b) hp rfl
      exact repr_of_reads' rd h2 (PyData.noDict_hsm (plainR_has _ hp)) hg (by omega) (fun b o z => z) (fun h' u tk hk => fin (I.kept hk) ⟨_, rfl⟩) hl
  | lst xs =>
    have hp : plainR (.lst xs) = true := h1
    cases rp with
    | lst a b =>
      cases ru
      obtain ⟨as, rd⟩ := Rep.reads I sb (.lst a b) hp rfl
      exact repr_of_reads' rd h2 (PyData.noDict_hsm (plainR_has _ hp)) hg (by omega) (fun b o z => z) (fun h' u tk hk => fin (I.kept hk) ⟨_, rfl⟩) hl
  | scr ns =>
    have hp : plainR (.scr ns) = true := h1
    cases rp with
    | scr a =>
      cases ru
      obtain ⟨as, rd⟩ := Rep.reads I sb (.scr a) hp rfl
      exact repr_of_reads' rd h2 (PyData.noDict_hsm (plainR_has _ hp)) hg (by omega) (fun b o z => z) (fun h' u tk hk => fin (I.kept hk) ⟨_, rfl⟩) hl
theorem fn_repr (hg : X.A.guards = some []) (hu : X.A.units + 65 < cLine) : FnG X (.builtin "repr") (g1 gRepr) := by
  refine ⟨_, fn_repr_cr hg hu, fun F H vs ds p Q s t e0 q => ?_⟩
  obtain ⟨d, rfl, e⟩ := g1_some e0
  obtain ⟨v, rfl, tv⟩ := vals_one t rfl
  have ok : gRepr d ≠ none := by rw [e]; exact fun z => nomatch z
  unfold gRepr at e
  by_cases hc : (okR d && (toR d).showable && lim (reprS d).length && okS (reprS d) && decide ((toR d).depth ≤ 60)) = true
  rotate_left
  · rw [if_neg hc] at e; cases e
  rw [if_pos hc] at e
  cases e
  simp only [Bool.and_eq_true] at hc
  exact ⟨v, H, d, rfl, Sub.refl _, tv.rep s, ok, q _ (.str _ hc.1.2 (lim_le hc.1.1.2))⟩
end
end WS
/-! Wt: words for the written derivations. -/
namespace WS
open PySem L2

theorem sg_cps (s : String) : (Str.ofString s).cps.toList = sg s := by rw [← sg_str s]
section
variable {X : Cx} {c : XC} {W : WX} {pos : Pos}
theorem se_gstr {x : Str} {s : String} (hg : Gl X x) (hm : ∃ t, X.mg x = some (.str (Str.ofString s) t)) (hd : (x == ("__debug__" : Str)) = false) (h : (okS (sg s) && decide ((sg s).length ≤ 1000)) = true) : SE X c W (.Name x pos) (eCon (.str (sg s))) := by
  obtain ⟨t, hm⟩ := hm
  rw [Bool.and_eq_true] at h
  exact se_glb (v := .str (mkS (sg s))) hg hm ⟨t, by rw [sg_str]⟩ (fun F => .str _ h.1 (n1000 h.2)) hd
theorem se_gint {x : Str} {i : Int} (hg : Gl X x) (hm : ∃ t, X.mg x = some (.int i t)) (hd : (x == ("__debug__" : Str)) = false) : SE X c W (.Name x pos) (eCon (.int i)) := by
  obtain ⟨t, hm⟩ := hm
  exact se_glb (v := .int i) hg hm ⟨t, rfl⟩ (fun F => .int _) hd
end
/-- a def that may be called -/
structure Cal (m : Md) (P : Program) (w : World) (K : PySem.W.Frag) (mg : Str → Option Value) (base : Heap) (c : XC) (x : Str) (a : Addr) (fd : FuncData) (k : Nat) (ps : List Str) (F : Fn) (n : Nat) : Prop where
  ok : FnOk P w K mg base (CXm m P w) k a fd ps (spD w K c F n)
  okx : Shared → okF F
  mg : mg x = some (.ref a)
  kp : PySem.W.keepIn K (.ref a) = true
  bd : Binds K fd ps []
theorem room_caller {k : Nat} (h : k ≤ 100) {e : PySem.Env} : Room k (callerA.deeper e) := by
  refine ⟨rfl, ?_, ?_⟩
  · show callerA.depth + 1 + 3 * k + 5 < recursionLimit
    have h1 : callerA.depth + 1 + 3 * 100 + 5 < recursionLimit := by decide
    omega
  · show callerA.units + 3 + 16 * k + 200 < cLine
    have h1 : callerA.units + 3 + 16 * 100 + 200 < cLine := by decide
    omega
end WS
/-! Wu: the law's def, run at the caller that is known (its guards too). -/
namespace WS
open PySem L2

/-- a def, run at one caller -/
theorem run_at {P : Program} {w : World} {K : PySem.W.Frag} {mg : Str → Option Value} {base : Heap} {k : Nat} {f : Addr} {qual x : Str} {st : Stmt} {fd : FuncData} {N ps : List Str} {A : Around} {outer : List PySem.Env} {s : Shared} {H : Hp} {args : Args} {us : List Value} {vs : List V} {Q : VK} {E : XK}
    (D : Fun K x qual st f fd) (S : FnScope N ps (defScope st)) (hl : vs.length = ps.length) (hr : Room (k + 1) A) (e0 : Env0 P w K mg base A outer s H) (hb : BindsTo s fd args (ps.zip us)) (r : Vals vs us)
    (body : ∀ cdv : Value, Room k (A.deeper (PyProof.Rows.envOfC qual (defScope st) s.heap.objs.size f cdv)) → ∃ t, PSs (cxOf (L2.CX P w) P w K mg base N qual (defScope st) f cdv A outer s H E) (defBody st) t ∧ t { nx := fun _ H' => Q .non H', rt := Q } (L2.start N vs) H) :
    codeAny (model P w) A (.call (.ref f) args) (CR (L2.CX P w) outer P w H s Q E) s := by
  obtain ⟨oc, od, kV, doc, pm, an, cdv, ct, osl, rfl, lk, hcd⟩ := D.ex
  have kin : K.In s.heap := e0.mod.kin.keeps fun b o z => (e0.bs b o z).1
  have nolim : s.heap.NoLimit := e0.mod.nolimit.keeps fun b o z => (e0.bs b o z).1
  refine codeAny_call_function hr.depth (kin _ _ lk) rfl S.co S.gen rfl (PySem.W.codeRec_of kin hcd) (hb _ _ _ _ (wpAny_newFunctionEnv_cells S.kind (fun y hy => ?_) fun env he s1 ic => ?_))
  · rcases S.par y.1 (List.of_mem_zip (show (y.1, y.2) ∈ _ from hy)).1 with q | q
    · exact .inl q
    · exact .inr ⟨q, PySem.W.cellsFrom_some _ _ _ (.inl q)⟩
  subst he
  obtain ⟨t, ht, hq⟩ := body cdv (hr.deeper _)
  have J0 := inv_start (CX := L2.CX P w) (E := E) (base := base) S hr.hd e0 hl r ic
  refine ⟨nolim.keeps ic.toInCall.keep, codeAny_func (wpAny_mono (ht.run [] s1 (L2.start N vs) H _ J0 hq) (fun fl s' hs => ?_) fun e s' hs => hs)⟩
  cases fl with
  | ret u => obtain ⟨v, _, H', J, rv, q⟩ := hs; exact ⟨v, H', J.os, J.bare, J.base, J.hok, rv, q⟩
  | next => obtain ⟨_, H', J, q⟩ := hs; exact ⟨V.non, H', J.os, J.bare, J.base, J.hok, rfl, q⟩
  | brk => obtain ⟨_, _, _, q⟩ := hs; exact False.elim q
  | cont => obtain ⟨_, _, _, q⟩ := hs; exact False.elim q
/-- the script, frozen in an abstract heap of its own or known to the module -/
theorem script_heap {P : Program} {w : World} {K : PySem.W.Frag} {h : Heap} {a : Addr} {vs : List Value} {ns : List Int} (KX : K.In h) (ha : h.get? a = some { cls := .type "list", data := .seq vs.toArray }) (hi : PyProof.Rows.IntsAre vs ns) (hl : ns.length ≤ sizeLine) :
    ∃ H : Hp, Only H ∧ SqL K H a (ns.map V.int) ∧ HOk P w H h ∧ (∀ b u, H b = some u → b = a) ∧ ∀ u, H a = some u → K.lookup a = none := by
  have rv := vals_ints hi
  have hlen := hi.length
  cases hk : K.lookup a with
  | some o =>
    have e := KX a o hk
    rw [ha] at e; cases e
    have no : ∀ {b : Addr} {u : HO} {Z : Prop}, (fun _ => none : Hp) b = some u → Z := fun {b u Z} z => by
      have z' : (none : Option HO) = some u := z
      cases z'
    have hk' : HOk P w (fun _ => none) h := fun b u z => no (b := b) z
    exact ⟨fun _ => none, fun _ => .inl rfl, .inr ⟨_, vs.toArray, _, hk, rfl, rfl, rfl, by rw [List.size_toArray, hlen]; exact hl, by simpa using rv⟩, hk', fun b u z => no (b := b) z, fun u z => no (b := a) z⟩
  | none =>
    have one : ∀ {b : Addr} {u : HO}, (if b = a then some (HO.frz { cls := .type "list", data := .seq vs.toArray } (.lst (ns.map V.int))) else none) = some u → b = a ∧ u = .frz { cls := .type "list", data := .seq vs.toArray } (.lst (ns.map V.int)) := fun {b u} z => by
      by_cases hb : b = a
      · rw [if_pos hb] at z; cases z; exact ⟨hb, rfl⟩
      · rw [if_neg hb] at z; cases z
    refine ⟨fun b => if b = a then some (.frz { cls := .type "list", data := .seq vs.toArray } (.lst (ns.map V.int))) else none, fun b => ?_, .inl (.inr ⟨_, if_pos rfl⟩), fun b u z => ?_, fun b u z => (one z).1, fun _ _ => rfl⟩
    · by_cases hb : b = a
      · exact .inr ⟨_, _, if_pos hb⟩
      · exact .inl (if_neg hb)
    · obtain ⟨rfl, rfl⟩ := one z
      exact ⟨ha, by rw [List.length_map]; exact hl, vs, _, rv, ha⟩
/-- what H tracks is the list at a alone, and not where the written part holds it -/
structure OnlyAt (K : PySem.W.Frag) (H : Hp) (a : Addr) : Prop where
  at_ : ∀ {b : Addr} {u : HO}, H b = some u → b = a
  out : ∀ {u : HO}, H a = some u → K.lookup a = none
section
variable {K : PySem.W.Frag} {H : Hp} {a b : Addr} {h : Heap} {m : Str → Option Value}
theorem OnlyAt.off (J : OnlyAt K H a) (n : b ≠ a) : H b = none := Option.eq_none_iff_forall_ne_some.mpr fun _ z => n (J.at_ z)
theorem OnlyAt.held (J : OnlyAt K H a) {o : Obj} (e : K.lookup b = some o) : H b = none := Option.eq_none_iff_forall_ne_some.mpr fun u z => by
  cases J.at_ z
  cases (J.out z).symm.trans e
/-- a namespace's dict is no list -/
theorem ns_off {vs : Array Value} {n : Nat} {c : Value} (e : h.get? a = some { cls := c, data := .seq vs n }) (N : h.Ns b m) : b ≠ a := by
  rintro rfl
  rcases N with ⟨o, es, ep, g, d, _⟩
  rw [Option.some.inj (g.symm.trans e)] at d
  exact Data.noConfusion d
theorem OnlyAt.ns (J : OnlyAt K H a) {vs : Array Value} {n : Nat} {c : Value} (e : h.get? a = some { cls := c, data := .seq vs n }) (N : h.Ns b m) : (hidT h H).Ns b m := by
  have nb := J.off (ns_off e N)
  rcases N with ⟨o, es, ep, g, rest⟩
  exact ⟨o, es, ep, hidT_get g nb, rest⟩
theorem OnlyAt.written (J : OnlyAt K H a) (I : K.In h) : K.In (hidT h H) := fun _ o e => hidT_get (I _ o e) (J.held e)
theorem OnlyAt.mod (J : OnlyAt K H a) {vs : Array Value} {n : Nat} {c : Value} {mg mb : Str → Option Value} (e : h.get? a = some { cls := c, data := .seq vs n }) (I : K.In h) (Ng : h.Ns mainGlobals mg) (Nb : h.Ns builtinsNs mb) (boot : ∀ x : Str, x ≠ "__name__" → mb x = bootBuiltins x) (L : h.NoLimit) : Mod K mg (hidT h H) where
  kin := J.written I
  glob := J.ns e Ng
  blt := ⟨mb, J.ns e Nb, boot⟩
  nolimit := by
    rcases L with ⟨ml, Nl, no⟩
    exact ⟨ml, J.ns e Nl, no⟩
end
/-- the outcome of a run that tracked the script alone is the law's -/
theorem end_true {P : Program} {w : World} {s₁ s' : Shared} {H : Hp} {r : Result} (hO : Only H) (ok : HOk P w H s₁.heap) (c : CR (L2.CX P w) [] P w H s₁ (fun v _ => v = .bl true) (fun _ _ _ => False) r s') :
    r = .ok (.ret (.bool true)) ∧ OldK s₁.heap s'.heap ∧ s'.os = s₁.os ∧ PyProof.Rows.AllBare s'.gens := by
  rcases r with e | fl
  · obtain ⟨_, _, _, _, _, _, _, _, _, _, _, _, no⟩ := c
    exact False.elim no
  cases fl with
  | next | brk | cont => exact False.elim c
  | ret u =>
  obtain ⟨_, H', os, bare, un, ok', is, rfl⟩ := c
  cases (is : u = Value.bool true)
  refine ⟨rfl, OldK.of_keep fun b o e => ?_, os, bare⟩
  rcases hO b with free | ⟨ob, xs, frozen⟩
  · exact un.keep b o e free (fun z => absurd z List.not_mem_nil) (by simp)
  · have was := (ok b _ frozen).1
    have is := (ok' b _ (un.frzs b ob _ frozen)).1
    rw [was] at e
    rw [is, e]
/-- the law's call, from its run at the caller -/
theorem law_run {P : Program} {w : World} {K : PySem.W.Frag} {mg mb : Str → Option Value} {fa a : Addr} {s₁ : Shared} {vs : List Value} {ns : List Int} (KX : K.In s₁.heap) (hns : s₁.heap.Ns mainGlobals mg) (hb : s₁.heap.Ns builtinsNs mb) (hbb : ∀ x : Str, x ≠ "__name__" → mb x = bootBuiltins x) (hlim : s₁.heap.NoLimit) (hg : s₁.gens = #[])
    (ha : s₁.heap.get? a = some { cls := .type "list", data := .seq vs.toArray }) (hi : PyProof.Rows.IntsAre vs ns) (hl : ns.length ≤ sizeLine)
    (R : ∀ (base : Heap) (H : Hp), Env0 P w K mg base callerA [] s₁ H → SqL K H a (ns.map V.int) → codeAny (model P w) callerA (.call (.ref fa) ⟨[.ref a], []⟩) (CR (L2.CX P w) [] P w H s₁ (fun v _ => v = .bl true) fun _ _ _ => False) s₁) :
    codeAny (model P w) callerA (.call (.ref fa) ⟨[.ref a], []⟩) (fun r s' => r = .ok (.ret (.bool true)) ∧ OldK s₁.heap s'.heap ∧ s'.os = s₁.os ∧ PyProof.Rows.AllBare s'.gens) s₁ := by
  obtain ⟨H, hO, script, ok, at_, out⟩ := script_heap (P := P) (w := w) KX ha hi hl
  have J : OnlyAt K H a := ⟨fun z => at_ _ _ z, fun z => out _ z⟩
  have start : Env0 P w K mg (hidT s₁.heap H) callerA [] s₁ H := by
    refine .mk rfl (J.mod ha KX hns hb hbb hlim) (fun _ _ z => of_hidT z) (Nat.le_of_eq (hidT_size _ _)) trivial (fun _ z => ?_) ok (.of_eq hg)
    exact absurd (show _ ∈ ([] : List Addr) from z) List.not_mem_nil
  exact codeAny_mono (R _ H start script) fun _ _ => end_true hO ok

/-- the law's def answers True at every script -/
def LawOk (F : Fn) : Prop := ∀ ns : List Int, ns.length ≤ 63 → (∀ k ∈ ns, Builtin.Int.intBits k ≤ 1048576) → ∃ outs, F [.fz (.scr ns)] = .ok (.fro (.bl true)) outs
theorem law_body {P : Program} {w : World} {K : PySem.W.Frag} {mg : Str → Option Value} {base : Heap} {c : XC} {k n : Nat} {f a : Addr} {qual x y : Str} {st : Stmt} {fd : FuncData} {N : List Str} {body : SemS} {s : Shared} {H : Hp} {ns : List Int}
    (D : Fun K x qual st f fd) (S : FnScope N [y] (defScope st)) (hn : N.length = n) (hr : Room (k + 1) callerA) (e0 : Env0 P w K mg base callerA [] s H) (hb : ∀ (s : Shared) (u : Value), BindsTo s fd ⟨[u], []⟩ [(y, u)]) (hS : SqL K H a (ns.map V.int))
    (dv : ∀ (cdv : Value) (E : XK), Room k (callerA.deeper (PyProof.Rows.envOfC qual (defScope st) s.heap.objs.size f cdv)) → SSs (cxOf (L2.CX P w) P w K mg base N qual (defScope st) f cdv callerA [] s H E) c (fun cls d _ H => E cls d H) (defBody st) body)
    (ok : LawOk (fnOf n body)) (hl : ns.length ≤ 63) (hbits : ∀ k ∈ ns, Builtin.Int.intBits k ≤ 1048576) : codeAny (model P w) callerA (.call (.ref f) ⟨[.ref a], []⟩) (CR (L2.CX P w) [] P w H s (fun v _ => v = .bl true) fun _ _ _ => False) s := by
  refine run_at (us := [.ref a]) (vs := [.ref a]) D S rfl hr e0 (hb s (.ref a)) (.cons rfl .nil) fun cdv hr' => ?_
  have B := dv cdv (fun _ _ _ => False) hr'
  obtain ⟨outs, h⟩ := ok ns hl hbits
  have S0 : StR w K H H ([V.ref a].map some) [Sl.fz (.scr ns)] := by
    refine ⟨Sub.refl _, rfl, fun i sl e t => ?_, fun i j si sj b ei ej ti tj _ _ => ?_⟩
    · cases i with
      | zero => cases e; exact ⟨_, rfl, .scr hS⟩
      | succ i => cases e
    · cases i with
      | zero => cases ei; cases ti
      | succ i => cases ei
  have post : PostF w K c [V.ref a] H H [Sl.fz (.scr ns)] (fnOf n body [Sl.fz (.scr ns)]) (fun v _ => v = .bl true) (fun _ _ _ => False) := by
    rw [h]
    intro v F' H' a1 a2 a3
    cases (show Rep w K F' v (.bl true) from a2)
    rfl
  exact ⟨_, B.ps, (⟨H, [Sl.fz (.scr ns)] ++ List.replicate (n - 1) .un, start_st S0 hn, body_end (E := fun _ _ _ => False) rfl S0 (B.ok _) post⟩ : TSD w K c (fun cls d _ H => False) body { nx := fun _ H' => V.non = .bl true, rt := fun v _ => v = .bl true } (L2.start N [V.ref a]) H)⟩
/-- the goal that k_head leaves -/
theorem walk_law {l : PySem.W.OpenLaw} {q : Program} {loose : List Str} {XP : (Str → Option Value) → Heap → Prop} {YP : World → Heap → Prop} {d : DefRec} {K : Params → PySem.W.Frag} {y : Str} (hn : l.most = some 63) (hdf : d.params.defaults = []) (hY : ∀ (w : World) (h : Heap), YP w h → (K w.params).In h)
    (F : ∀ (w : World) (mg : Str → Option Value) (fa : Addr) (h : Heap), (K w.params).In h → h.Ns mainGlobals mg → mg d.name = some (.ref fa) →
      ∃ fd : FuncData, (∀ (s : Shared) (u : Value), BindsTo s fd ⟨[u], []⟩ [(y, u)]) ∧ ∀ (base : Heap) (s : Shared) (H : Hp) (a : Addr) (ns : List Int), ns.length ≤ 63 → (∀ k ∈ ns, Builtin.Int.intBits k ≤ 1048576) → Env0 l.prog w (K w.params) mg base callerA [] s H → SqL (K w.params) H a (ns.map V.int) →
        codeAny (model l.prog w) callerA (.call (.ref fa) ⟨[.ref a], []⟩) (CR (L2.CX l.prog w) [] l.prog w H s (fun v _ => v = .bl true) fun _ _ _ => False) s) : PySem.W.WalkO q loose XP YP l.row.toRowW d [] (fun f vs => PySem.call f vs) := by
  refine Att.attach_callB hn hdf fun w s₀ s₁ mg mb fa o pm cd doc a vs ns G Y ho hd hcd hmg hobj hints hlen hbits hg => ?_
  obtain ⟨fd, _, R⟩ := F w mg fa _ (hY w _ Y) G.T.g hmg
  exact law_run (hY w _ Y) G.T.g G.T.b G.T.builtins G.T.nolimit hg hobj hints (Nat.le_trans hlen (by decide)) fun base H e0 hS => R base s₁ H a ns hlen hbits e0 hS
end WS
/-! Wv: how combinators are evaluated, step by step; what is behind a step stays folded. -/
namespace WS
open PySem L2

theorem bind_ok {α β : Type} (a : α) (ρ : Env) (k : α → Env → Out β) : (Out.ok a ρ).bind k = k a ρ := rfl
theorem bindN_ok {α β : Type} (a : α) (ρ : Env) (k : α → Env → Out β) : (Out.ok a ρ).bindN k = k a ρ := rfl
theorem sbind_ok {α : Type} (a : α) (ρ : Env) (k : α → Env → SOut) : (Out.ok a ρ).sbind k = k a ρ := rfl
theorem then_nx (ρ : Env) (g : SemS) : (SOut.nx ρ).then g = g ρ := rfl
theorem then_rt (r : R) (ρ : Env) (g : SemS) : (SOut.rt r ρ).then g = .rt r ρ := rfl
theorem then_bk (ρ : Env) (g : SemS) : (SOut.bk ρ).then g = .bk ρ := rfl
theorem then_ct (ρ : Env) (g : SemS) : (SOut.ct ρ).then g = .ct ρ := rfl
theorem loop_nx (ρ : Env) (g : SemS) : (SOut.nx ρ).loop g = g ρ := rfl
theorem loop_ct (ρ : Env) (g : SemS) : (SOut.ct ρ).loop g = g ρ := rfl
theorem loop_bk (ρ : Env) (g : SemS) : (SOut.bk ρ).loop g = .nx ρ := rfl
theorem loop_rt (r : R) (ρ : Env) (g : SemS) : (SOut.rt r ρ).loop g = .rt r ρ := rfl
/-- a name -/
def evV (i : Nat) (ρ : Env) : Sl → Out R
  | .un => .bad
  | .fz d => .ok (.fro d) ρ
  | .lf d => .ok (.fro d) ρ
  | _ => .ok (.at i) ρ
theorem x_var (i : Nat) (ρ : Env) : eVar i ρ = evV i ρ (ρ.getD i .un) := by
  unfold eVar
  cases ρ.getD i .un <;> rfl
theorem evV_fz (i : Nat) (ρ : Env) (d : D) : evV i ρ (.fz d) = .ok (.fro d) ρ := rfl
theorem evV_lf (i : Nat) (ρ : Env) (d : D) : evV i ρ (.lf d) = .ok (.fro d) ρ := rfl
theorem evV_ow (i : Nat) (ρ : Env) (d : D) : evV i ρ (.ow d) = .ok (.at i) ρ := rfl
theorem evV_le (i : Nat) (ρ : Env) (d : D) : evV i ρ (.le d) = .ok (.at i) ρ := rfl
theorem evV_lk (i : Nat) (ρ : Env) (d : D) : evV i ρ (.lk d) = .ok (.at i) ρ := rfl
theorem x_con (d : D) (ρ : Env) : eCon d ρ = .ok (.fro d) ρ := rfl
theorem v_fro (ρ : Env) (d : D) : val ρ (.fro d) = d := rfl
theorem v_tmp (ρ : Env) (d : D) : val ρ (.tmp d) = d := rfl
theorem v_at (ρ : Env) (i : Nat) : val ρ (.at i) = (ρ.getD i .un).get := rfl
theorem g_fz (d : D) : (Sl.fz d).get = d := rfl
theorem g_ow (d : D) : (Sl.ow d).get = d := rfl
theorem g_le (d : D) : (Sl.le d).get = d := rfl
theorem g_lf (d : D) : (Sl.lf d).get = d := rfl
theorem g_lk (d : D) : (Sl.lk d).get = d := rfl
theorem d_0 (a : Sl) (l : Env) : (a :: l).getD 0 .un = a := rfl
theorem d_s (a : Sl) (l : Env) (n : Nat) : (a :: l).getD (n + 1) .un = l.getD n .un := rfl
theorem s_0 (a b : Sl) (l : Env) : (a :: l).set 0 b = b :: l := rfl
theorem s_s (a b : Sl) (l : Env) (n : Nat) : (a :: l).set (n + 1) b = a :: l.set n b := rfl
/-- what comes of a value -/
theorem p_sc (ρ : Env) (d : D) : outP ρ (some (.sc d)) = .ok (.fro d) ρ := rfl
theorem p_nl (ρ : Env) (d : List D) : outP ρ (some (.nl d)) = .ok (.tmp (.lst d)) ρ := rfl
theorem p_nd (ρ : Env) (d : List (D × D)) : outP ρ (some (.nd d)) = .ok (.tmp (.dct d)) ρ := rfl
theorem p_nt (ρ : Env) (d : List D) : outP ρ (some (.nt d)) = .ok (.fro (.tup d)) ρ := rfl
def kOp2 (g : D → D → Option PR) (ra rb : R) (ρ : Env) : Out R := outP ρ (g (val ρ ra) (val ρ rb))
def kOp (g : D → D → Option PR) (fb : SemE) (ra : R) (ρ : Env) : Out R := (fb ρ).bind fun rb ρ2 => kOp2 g ra rb ρ2
theorem x_op (g : D → D → Option PR) (a b : SemE) (ρ : Env) : eOp g a b ρ = (a ρ).bind (kOp g b) := rfl
theorem x_op1 (g : D → D → Option PR) (b : SemE) (r : R) (ρ : Env) : kOp g b r ρ = (b ρ).bind (kOp2 g r) := rfl
theorem x_op2 (g : D → D → Option PR) (r t : R) (ρ : Env) : kOp2 g r t ρ = outP ρ (g (val ρ r) (val ρ t)) := rfl
def kUn (g : D → Option PR) (r : R) (ρ : Env) : Out R := outP ρ (g (val ρ r))
theorem x_un (g : D → Option PR) (a : SemE) (ρ : Env) : eUn g a ρ = (a ρ).bind (kUn g) := rfl
theorem x_un1 (g : D → Option PR) (r : R) (ρ : Env) : kUn g r ρ = outP ρ (g (val ρ r)) := rfl
/-- rows -/
theorem x_nil (ρ : Env) : lNil ρ = .ok [] ρ := rfl
def kCons2 (r : R) (rs : List R) (ρ : Env) : Out (List R) := .ok (r :: rs) ρ
def kCons (g : SemL) (r : R) (ρ : Env) : Out (List R) := (g ρ).bind (kCons2 r)
theorem x_cons (f : SemE) (g : SemL) (ρ : Env) : lCons f g ρ = (f ρ).bind (kCons g) := rfl
theorem x_cons1 (g : SemL) (r : R) (ρ : Env) : kCons g r ρ = (g ρ).bind (kCons2 r) := rfl
theorem x_cons2 (r : R) (rs : List R) (ρ : Env) : kCons2 r rs ρ = .ok (r :: rs) ρ := rfl
def kFn (g : List D → Option PR) (rs : List R) (ρ : Env) : Out R := outP ρ (g (rs.map (val ρ)))
theorem x_fn (g : List D → Option PR) (f : SemL) (ρ : Env) : eFn g f ρ = (f ρ).bind (kFn g) := rfl
theorem x_fn1 (g : List D → Option PR) (rs : List R) (ρ : Env) : kFn g rs ρ = outP ρ (g (rs.map (val ρ))) := rfl
def kTup2 (ds : List D) (ρ : Env) : Out R := .ok (.fro (.tup ds)) ρ
def kTup (rs : List R) (ρ : Env) : Out R := (frzs ρ rs).bind kTup2
theorem x_tup (g : SemL) (ρ : Env) : eTup g ρ = (g ρ).bind kTup := rfl
theorem x_tup1 (rs : List R) (ρ : Env) : kTup rs ρ = (frzs ρ rs).bind kTup2 := rfl
theorem x_tup2 (ds : List D) (ρ : Env) : kTup2 ds ρ = .ok (.fro (.tup ds)) ρ := rfl
def kLst2 (ds : List D) (ρ : Env) : Out R := .ok (.tmp (.lst ds)) ρ
def kLst (rs : List R) (ρ : Env) : Out R := (frzs ρ rs).bind kLst2
theorem x_lst (g : SemL) (ρ : Env) : eLst g ρ = (g ρ).bind kLst := rfl
theorem x_lst1 (rs : List R) (ρ : Env) : kLst rs ρ = (frzs ρ rs).bind kLst2 := rfl
theorem x_lst2 (ds : List D) (ρ : Env) : kLst2 ds ρ = .ok (.tmp (.lst ds)) ρ := rfl
theorem x_dct0 (ρ : Env) : eDct0 ρ = .ok (.tmp (.dct [])) ρ := rfl
/-- freezing -/
def kF2 (d : D) (ds : List D) (ρ : Env) : Out (List D) := .ok (d :: ds) ρ
def kF (rs : List R) (d : D) (ρ : Env) : Out (List D) := (frzs ρ rs).bind (kF2 d)
theorem f_nil (ρ : Env) : frzs ρ [] = .ok [] ρ := rfl
theorem f_cons (ρ : Env) (r : R) (rs : List R) : frzs ρ (r :: rs) = (frz ρ r).bind (kF rs) := rfl
theorem f_k (rs : List R) (d : D) (ρ : Env) : kF rs d ρ = (frzs ρ rs).bind (kF2 d) := rfl
theorem f_k2 (d : D) (ds : List D) (ρ : Env) : kF2 d ds ρ = .ok (d :: ds) ρ := rfl
theorem z_fro (ρ : Env) (d : D) : frz ρ (.fro d) = .ok d ρ := rfl
theorem z_tmp (ρ : Env) (d : D) : frz ρ (.tmp d) = .ok d ρ := rfl
def frzA (i : Nat) (ρ : Env) : Sl → Out D
  | .ow d => .ok d (ρ.set i (.fz d))
  | .le d => .ok d (ρ.set i (.lf d))
  | .fz d => .ok d ρ
  | .lf d => .ok d ρ
  | _ => .bad
theorem z_at (ρ : Env) (i : Nat) : frz ρ (.at i) = frzA i ρ (ρ.getD i .un) := by
  unfold frz
  simp only
  cases ρ.getD i .un <;> rfl
theorem z_ow (i : Nat) (ρ : Env) (d : D) : frzA i ρ (.ow d) = .ok d (ρ.set i (.fz d)) := rfl
theorem z_le (i : Nat) (ρ : Env) (d : D) : frzA i ρ (.le d) = .ok d (ρ.set i (.lf d)) := rfl
theorem z_fz (i : Nat) (ρ : Env) (d : D) : frzA i ρ (.fz d) = .ok d ρ := rfl
theorem z_lf (i : Nat) (ρ : Env) (d : D) : frzA i ρ (.lf d) = .ok d ρ := rfl
/-- tests -/
def kBl (r : R) (ρ : Env) : Out Bool := outB ρ (isB (val ρ r))
theorem x_bl (f : SemE) (ρ : Env) : tBl f ρ = (f ρ).bind kBl := rfl
theorem x_bl1 (r : R) (ρ : Env) : kBl r ρ = outB ρ (isB (val ρ r)) := rfl
theorem b_bl (ρ : Env) (b : Bool) : outB ρ (isB (.bl b)) = .ok b ρ := rfl
def kTr (r : R) (ρ : Env) : Out Bool := outB ρ (truD (val ρ r))
theorem x_tru (f : SemE) (ρ : Env) : tTru f ρ = (f ρ).bind kTr := rfl
theorem x_tru1 (r : R) (ρ : Env) : kTr r ρ = outB ρ (truD (val ρ r)) := rfl
theorem b_tru (ρ : Env) (b : Bool) : outB ρ (truD (.bl b)) = .ok b ρ := rfl
theorem b_some (ρ : Env) (b : Bool) : outB ρ (some b) = .ok b ρ := rfl
def kNt (b : Bool) (ρ : Env) : Out Bool := .ok (!b) ρ
theorem x_nt (f : SemT) (ρ : Env) : tNt f ρ = (f ρ).bind kNt := rfl
theorem x_nt1 (b : Bool) (ρ : Env) : kNt b ρ = .ok (!b) ρ := rfl
def kAn (g : SemT) (b : Bool) (ρ : Env) : Out Bool := if b = true then g ρ else .ok false ρ
theorem x_an (f g : SemT) (ρ : Env) : tAn f g ρ = (f ρ).bind (kAn g) := rfl
theorem x_an_t (g : SemT) (ρ : Env) : kAn g true ρ = g ρ := rfl
theorem x_an_f (g : SemT) (ρ : Env) : kAn g false ρ = .ok false ρ := rfl
def kOr (g : SemT) (b : Bool) (ρ : Env) : Out Bool := if b = true then .ok true ρ else g ρ
theorem x_or (f g : SemT) (ρ : Env) : tOr' f g ρ = (f ρ).bind (kOr g) := rfl
theorem x_or_t (g : SemT) (ρ : Env) : kOr g true ρ = .ok true ρ := rfl
theorem x_or_f (g : SemT) (ρ : Env) : kOr g false ρ = g ρ := rfl
def kAnE (g : SemE) (b : Bool) (ρ : Env) : Out R := if b = true then g ρ else .ok (.fro (.bl false)) ρ
theorem x_ean (f g : SemE) (ρ : Env) : eAn f g ρ = (tBl f ρ).bind (kAnE g) := rfl
theorem x_ean_t (g : SemE) (ρ : Env) : kAnE g true ρ = g ρ := rfl
theorem x_ean_f (g : SemE) (ρ : Env) : kAnE g false ρ = .ok (.fro (.bl false)) ρ := rfl
def kOrE (g : SemE) (b : Bool) (ρ : Env) : Out R := if b = true then .ok (.fro (.bl true)) ρ else g ρ
theorem x_eor (f g : SemE) (ρ : Env) : eOr f g ρ = (tBl f ρ).bind (kOrE g) := rfl
theorem x_eor_t (g : SemE) (ρ : Env) : kOrE g true ρ = .ok (.fro (.bl true)) ρ := rfl
theorem x_eor_f (g : SemE) (ρ : Env) : kOrE g false ρ = g ρ := rfl
def kNtE (b : Bool) (ρ : Env) : Out R := .ok (.fro (.bl (!b))) ρ
theorem x_ent (f : SemE) (ρ : Env) : eNt f ρ = (tBl f ρ).bind kNtE := rfl
theorem x_ent1 (b : Bool) (ρ : Env) : kNtE b ρ = .ok (.fro (.bl (!b))) ρ := rfl
def kIfE (f g : SemE) (b : Bool) (ρ : Env) : Out R := if b = true then f ρ else g ρ
theorem x_eif (t : SemT) (f g : SemE) (ρ : Env) : eIf t f g ρ = (t ρ).bind (kIfE f g) := rfl
theorem x_eif_t (f g : SemE) (ρ : Env) : kIfE f g true ρ = f ρ := rfl
theorem x_eif_f (f g : SemE) (ρ : Env) : kIfE f g false ρ = g ρ := rfl
/-- a op b op c -/
def kCh2 (g' : D → D → Option PR) (rb rc : R) (ρ : Env) : Out R := outP ρ (g' (val ρ rb) (val ρ rc))
def kCh1 (g' : D → D → Option PR) (fc : SemE) (rb : R) (ρ : Env) : Out R := (fc ρ).bind (kCh2 g' rb)
def kChb (g g' : D → D → Option PR) (fc : SemE) (ra rb : R) (ρ : Env) : Out R := chK (g (val ρ ra) (val ρ rb)) (kCh1 g' fc rb) ρ
def kCha (g g' : D → D → Option PR) (fb fc : SemE) (ra : R) (ρ : Env) : Out R := (fb ρ).bind (kChb g g' fc ra)
theorem x_ch (g g' : D → D → Option PR) (a b c : SemE) (ρ : Env) : eChain g g' a b c ρ = (a ρ).bind (kCha g g' b c) := rfl
theorem x_cha (g g' : D → D → Option PR) (b c : SemE) (r : R) (ρ : Env) : kCha g g' b c r ρ = (b ρ).bind (kChb g g' c r) := rfl
theorem x_chb (g g' : D → D → Option PR) (c : SemE) (r t : R) (ρ : Env) : kChb g g' c r t ρ = chK (g (val ρ r) (val ρ t)) (kCh1 g' c t) ρ := rfl
theorem x_chk_t (k : SemE) (ρ : Env) : chK (some (.sc (.bl true))) k ρ = k ρ := rfl
theorem x_chk_f (k : SemE) (ρ : Env) : chK (some (.sc (.bl false))) k ρ = .ok (.fro (.bl false)) ρ := rfl
theorem x_ch1 (g' : D → D → Option PR) (c : SemE) (t : R) (ρ : Env) : kCh1 g' c t ρ = (c ρ).bind (kCh2 g' t) := rfl
theorem x_ch2 (g' : D → D → Option PR) (t u : R) (ρ : Env) : kCh2 g' t u ρ = outP ρ (g' (val ρ t) (val ρ u)) := rfl
/-- slices -/
def kPart (r : R) (ρ : Env) : Out (Option Int) := outI ρ (val ρ r)
theorem x_part0 (ρ : Env) : part none ρ = .ok none ρ := rfl
theorem x_part (f : SemE) (ρ : Env) : part (some f) ρ = (f ρ).bind kPart := rfl
theorem x_part1 (r : R) (ρ : Env) : kPart r ρ = outI ρ (val ρ r) := rfl
theorem x_outI (i : Int) (ρ : Env) : outI ρ (.int i) = .ok (some i) ρ := rfl
def kSl2 (r : R) (a b : Option Int) (ρ : Env) : Out R := outP ρ (gSl (val ρ r) a b)
def kSl1 (hi : Option SemE) (r : R) (a : Option Int) (ρ : Env) : Out R := (part hi ρ).bind (kSl2 r a)
def kSl (lo hi : Option SemE) (r : R) (ρ : Env) : Out R := (part lo ρ).bind (kSl1 hi r)
theorem x_sl (f : SemE) (lo hi : Option SemE) (ρ : Env) : eSl f lo hi ρ = (f ρ).bind (kSl lo hi) := rfl
theorem x_sl0 (lo hi : Option SemE) (r : R) (ρ : Env) : kSl lo hi r ρ = (part lo ρ).bind (kSl1 hi r) := rfl
theorem x_sl1 (hi : Option SemE) (r : R) (a : Option Int) (ρ : Env) : kSl1 hi r a ρ = (part hi ρ).bind (kSl2 r a) := rfl
theorem x_sl2 (r : R) (a b : Option Int) (ρ : Env) : kSl2 r a b ρ = outP ρ (gSl (val ρ r) a b) := rfl
/-- calls -/
def kCallO (ρ : Env) (rs : List R) : FOut → Out R
  | .ok r outs => .ok r (wbs ρ rs outs)
  | .exn x outs => .exn x (wbs ρ rs outs)
  | .bad => .bad
def kCall (fn : Fn) (rs : List R) (ρ : Env) : Out R := if apart ρ rs = true then kCallO ρ rs (fn (rs.map (toSl ρ))) else .bad
theorem x_call (fn : Fn) (g : SemL) (ρ : Env) : eCall fn g ρ = (g ρ).bind (kCall fn) := by
  unfold eCall
  congr 1
theorem x_call1 {fn : Fn} {rs : List R} {ρ : Env} {r : R} {outs : List Sl} (h : fn (rs.map (toSl ρ)) = .ok r outs) (ha : apart ρ rs = true) : kCall fn rs ρ = .ok r (wbs ρ rs outs) := by
  unfold kCall
  rw [if_pos ha, h]; rfl
def kCallB (b : Bool) (fn : Fn) (rs : List R) (ρ : Env) : Out R := if b = true then kCallO ρ rs (fn (rs.map (toSl ρ))) else .bad
theorem x_callE (fn : Fn) (rs : List R) (ρ : Env) : kCall fn rs ρ = kCallB (nodupB (rs.filterMap (ownI ρ))) fn rs ρ := rfl
theorem x_callT (fn : Fn) (rs : List R) (ρ : Env) : kCallB true fn rs ρ = kCallO ρ rs (fn (rs.map (toSl ρ))) := rfl
theorem x_callO (ρ : Env) (rs : List R) (r : R) (outs : List Sl) : kCallO ρ rs (.ok r outs) = .ok r (wbs ρ rs outs) := rfl
def ownA (i : Nat) (b : Bool) (l : List Nat) : List Nat := if b = true then i :: l else l
theorem a_nil (ρ : Env) : List.filterMap (ownI ρ) [] = [] := rfl
theorem a_fro (ρ : Env) (d : D) (rs : List R) : List.filterMap (ownI ρ) (.fro d :: rs) = List.filterMap (ownI ρ) rs := rfl
theorem a_tmp (ρ : Env) (d : D) (rs : List R) : List.filterMap (ownI ρ) (.tmp d :: rs) = List.filterMap (ownI ρ) rs := rfl
theorem a_at (ρ : Env) (i : Nat) (rs : List R) : List.filterMap (ownI ρ) (.at i :: rs) = ownA i (ρ.getD i .un).own (List.filterMap (ownI ρ) rs) := by
  have : ownI ρ (.at i) = if (ρ.getD i .un).own = true then some i else none := rfl
  rw [List.filterMap_cons, this]
  cases (ρ.getD i .un).own <;> rfl
theorem a_t (i : Nat) (l : List Nat) : ownA i true l = i :: l := rfl
theorem a_f (i : Nat) (l : List Nat) : ownA i false l = l := rfl
theorem w_ow (d : D) : (Sl.ow d).own = true := rfl
theorem w_le (d : D) : (Sl.le d).own = true := rfl
theorem w_lk (d : D) : (Sl.lk d).own = true := rfl
theorem w_fz (d : D) : (Sl.fz d).own = false := rfl
theorem w_lf (d : D) : (Sl.lf d).own = false := rfl
theorem n_nil : nodupB [] = true := rfl
theorem n_one (x : Nat) : nodupB [x] = true := rfl
theorem n_two (x y : Nat) : nodupB [x, y] = !(x == y) := by
  show (!(List.elem x [y]) && true) = _
  rw [Bool.and_true]
  show (!(match x == y with | true => true | false => List.elem x [])) = _
  cases x == y <;> rfl
theorem m_nil (ρ : Env) : List.map (toSl ρ) [] = [] := rfl
theorem m_cons (ρ : Env) (r : R) (rs : List R) : List.map (toSl ρ) (r :: rs) = toSl ρ r :: List.map (toSl ρ) rs := rfl
theorem t_fro (ρ : Env) (d : D) : toSl ρ (.fro d) = .fz d := rfl
theorem t_tmp (ρ : Env) (d : D) : toSl ρ (.tmp d) = .ow d := rfl
def toA : Sl → Sl
  | .ow d => .le d
  | .le d => .le d
  | .fz d => .fz d
  | .lf d => .fz d
  | .lk d => .lk d
  | .un => .un
theorem t_at (ρ : Env) (i : Nat) : toSl ρ (.at i) = toA (ρ.getD i .un) := by
  unfold toSl
  simp only
  cases ρ.getD i .un <;> rfl
theorem t_ow (d : D) : toA (.ow d) = .le d := rfl
theorem t_le (d : D) : toA (.le d) = .le d := rfl
theorem t_fz (d : D) : toA (.fz d) = .fz d := rfl
theorem t_lf (d : D) : toA (.lf d) = .fz d := rfl
def wbR (rs : List R) (os : List Sl) : Nat → Env → Env
  | _, [] => []
  | i, s :: ρ => wb1 s (outAt i rs os) :: wbR rs os (i + 1) ρ
theorem wbR_eq (rs : List R) (os : List Sl) : ∀ (ρ : Env) (i : Nat), wbR rs os i ρ = ρ.mapIdx fun j s => wb1 s (outAt (i + j) rs os)
  | [], i => rfl
  | s :: ρ, i => by
    rw [List.mapIdx_cons, wbR, wbR_eq rs os ρ (i + 1)]
    congr 2
    funext j s
    rw [show i + 1 + j = i + (j + 1) by omega]
theorem q_wbs (ρ : Env) (rs : List R) (os : List Sl) : wbs ρ rs os = wbR rs os 0 ρ := by
  rw [wbR_eq]
  unfold wbs
  congr 1
  funext j s
  rw [Nat.zero_add]
theorem q_nil (rs : List R) (os : List Sl) (i : Nat) : wbR rs os i [] = [] := rfl
theorem q_cons (rs : List R) (os : List Sl) (i : Nat) (s : Sl) (ρ : Env) : wbR rs os i (s :: ρ) = wb1 s (outAt i rs os) :: wbR rs os (i + 1) ρ := rfl
def outC (b : Bool) (o : Sl) (r : Option Sl) : Option Sl := if b = true then some o else r
theorem u_nil (i : Nat) (os : List Sl) : outAt i [] os = none := by cases os <;> rfl
theorem u_fro (i : Nat) (d : D) (rs : List R) (o : Sl) (os : List Sl) : outAt i (.fro d :: rs) (o :: os) = outAt i rs os := rfl
theorem u_tmp (i : Nat) (d : D) (rs : List R) (o : Sl) (os : List Sl) : outAt i (.tmp d :: rs) (o :: os) = outAt i rs os := rfl
theorem u_at (i k : Nat) (rs : List R) (o : Sl) (os : List Sl) : outAt i (.at k :: rs) (o :: os) = outC (k == i) o (outAt i rs os) := by
  show (if k = i then some o else outAt i rs os) = _
  unfold outC
  by_cases h : k = i
  · rw [if_pos h, if_pos (by simpa using h)]
  · rw [if_neg h, if_neg (by simpa using h)]
theorem u_t (o : Sl) (r : Option Sl) : outC true o r = some o := rfl
theorem u_f (o : Sl) (r : Option Sl) : outC false o r = r := rfl
theorem h_none (s : Sl) : wb1 s none = s := by cases s <;> rfl
theorem h_owle (d e : D) : wb1 (.ow d) (some (.le e)) = .ow e := rfl
theorem h_owlf (d e : D) : wb1 (.ow d) (some (.lf e)) = .fz e := rfl
theorem h_lele (d e : D) : wb1 (.le d) (some (.le e)) = .le e := rfl
theorem h_lelf (d e : D) : wb1 (.le d) (some (.lf e)) = .lf e := rfl
theorem h_fz (d : D) (o : Option Sl) : wb1 (.fz d) o = .fz d := by cases o <;> rfl
theorem h_un (o : Option Sl) : wb1 .un o = .un := by cases o <;> rfl
theorem h_lf (d : D) (o : Option Sl) : wb1 (.lf d) o = .lf d := by cases o <;> rfl
theorem h_lk (d : D) (o : Option Sl) : wb1 (.lk d) o = .lk d := by cases o <;> rfl
/-- comprehensions over what is not owned -/
def kL1 (r : R) (ρ : Env) : Out (List R) := .ok [r] ρ
theorem x_l1 (f : SemE) (ρ : Env) : l1 f ρ = (f ρ).bind kL1 := rfl
theorem x_l11 (r : R) (ρ : Env) : kL1 r ρ = .ok [r] ρ := rfl
def kComp (itm : List D → Option (List D)) (tg : Tgt) (is : List Nat) (tt : SemT) (te : SemE) (rs : List R) (ρ1 : Env) : Out R := match itm (rs.map (val ρ1)) with
  | none => .bad
  | some items => if is.all (plainAt ρ1) = true then
      (if rs.all noAt = true then compE id (compL tg is tt te items [] ρ1) else if rs.all (ownAt ρ1) = true then compE (unlk ρ1) (compL tg is tt te items [] (lock rs ρ1)) else .bad) else .bad
theorem x_comp (g : SemL) (itm : List D → Option (List D)) (tg : Tgt) (is : List Nat) (tt : SemT) (te : SemE) (ρ : Env) : eComp g itm tg is tt te ρ = (g ρ).bind (kComp itm tg is tt te) := rfl
def kCompI (tg : Tgt) (is : List Nat) (tt : SemT) (te : SemE) (b : Bool) (ρ : Env) : Option (List D) → Out R
  | none => .bad
  | some items => if b = true then compE id (compL tg is tt te items [] ρ) else .bad
theorem x_comp_f (itm : List D → Option (List D)) (tg : Tgt) (is : List Nat) (tt : SemT) (te : SemE) (d : D) (ρ : Env) : kComp itm tg is tt te [.fro d] ρ = kCompI tg is tt te (is.all (plainAt ρ)) ρ (itm [d]) := by
  unfold kComp kCompI
  show (match itm [d] with | none => _ | some items => _) = _
  cases itm [d] <;> rfl
theorem x_comp_t (itm : List D → Option (List D)) (tg : Tgt) (is : List Nat) (tt : SemT) (te : SemE) (d : D) (ρ : Env) : kComp itm tg is tt te [.tmp d] ρ = kCompI tg is tt te (is.all (plainAt ρ)) ρ (itm [d]) := by
  unfold kComp kCompI
  show (match itm [d] with | none => _ | some items => _) = _
  cases itm [d] <;> rfl
theorem x_comp1 (tg : Tgt) (is : List Nat) (tt : SemT) (te : SemE) (ρ : Env) (items : List D) : kCompI tg is tt te true ρ (some items) = compE id (compL tg is tt te items [] ρ) := rfl
theorem x_compE (ds : List D) (ρ : Env) : compE id (.ok ds ρ) = .ok (.tmp (.lst ds)) ρ := rfl
def plS (s : Sl) : Bool := !s.own && !s.lent
theorem c_nil (ρ : Env) : List.all [] (plainAt ρ) = true := rfl
theorem c_cons (ρ : Env) (i : Nat) (is : List Nat) : List.all (i :: is) (plainAt ρ) = (plS (ρ.getD i .un) && List.all is (plainAt ρ)) := rfl
theorem c_un : plS .un = true := rfl
theorem c_fz (d : D) : plS (.fz d) = true := rfl
theorem o_itS (s : List Nat) : itSeq [.str s] = some (s.map fun n => .str [n]) := rfl
theorem o_itL (s : List D) : itSeq [.lst s] = some s := rfl
theorem o_itT (s : List D) : itSeq [.tup s] = some s := rfl
theorem ev_comp {i : Nat} {tt : SemT} {te : SemE} {ρ : Env} {p : D → Bool} {f : D → D} : ∀ (items acc : List D), (∀ d ∈ items, ∃ ρd, tgN i d (wipeE ρ [i]) = some ρd ∧ tt ρd = .ok (p d) ρd ∧ (p d = true → ∃ r, te ρd = .ok r ρd ∧ frz ρd r = .ok (f d) ρd) ∧ back ρ [i] ρd = ρ) → acc.length + items.length ≤ 16777216 →
    compL (tgN i) [i] tt te items acc ρ = .ok (acc ++ (items.filter p).map f) ρ
  | [], acc, _, _ => by simp [compL]
  | d :: ds, acc, h, hl => by
    obtain ⟨ρd, h1, h2, h3, h4⟩ := h d (List.mem_cons_self ..)
    have hr := fun e he => h e (List.mem_cons_of_mem _ he)
    unfold compL
    rw [h1]
    simp only [h2, bindN_ok]
    rw [List.length_cons] at hl
    cases hp : p d with
    | true =>
      obtain ⟨r, e1, e2⟩ := h3 hp
      simp only [if_true, e1, bindN_ok, e2]
      rw [if_pos (show lim (acc.length + 1) = true from decide_eq_true (by omega)), h4, ev_comp ds _ hr (by rw [List.length_append, List.length_singleton]; omega), List.filter_cons, if_pos hp, List.map_cons, List.append_assoc]
      rfl
    | false =>
      rw [if_neg (by decide), h4, ev_comp ds _ hr (by omega), List.filter_cons, if_neg (by rw [hp]; decide)]
/-- statements -/
theorem x_seq (f g : SemS) (ρ : Env) : sSeq f g ρ = (f ρ).then g := rfl
theorem x_set (i : Nat) (f : SemE) (ρ : Env) : sSet i f ρ = (f ρ).sbind (putR i) := rfl
def putF (i : Nat) (d : D) (ρ : Env) : SOut := .nx (ρ.set i (.fz d))
def putZ (i : Nat) (r : R) (ρ : Env) : SOut := match r with
  | .tmp d => .nx (ρ.set i (.ow d))
  | r => (frz ρ r).sbind (putF i)
def putB (b : Bool) (i : Nat) (r : R) (ρ : Env) : SOut := if b = true then .bad else putZ i r ρ
theorem x_put (i : Nat) (r : R) (ρ : Env) : putR i r ρ = putB (ρ.getD i .un).lent i r ρ := rfl
theorem x_putB (i : Nat) (r : R) (ρ : Env) : putB false i r ρ = putZ i r ρ := rfl
theorem x_put_f (i : Nat) (d : D) (ρ : Env) : putZ i (.fro d) ρ = .nx (ρ.set i (.fz d)) := rfl
theorem x_put_t (i : Nat) (d : D) (ρ : Env) : putZ i (.tmp d) ρ = .nx (ρ.set i (.ow d)) := rfl
theorem x_put_a (i j : Nat) (ρ : Env) : putZ i (.at j) ρ = (frz ρ (.at j)).sbind (putF i) := rfl
theorem x_putF (i : Nat) (d : D) (ρ : Env) : putF i d ρ = .nx (ρ.set i (.fz d)) := rfl
theorem l_fz (d : D) : (Sl.fz d).lent = false := rfl
theorem l_ow (d : D) : (Sl.ow d).lent = false := rfl
theorem l_un : Sl.un.lent = false := rfl
def kIfS (f g : SemS) (b : Bool) (ρ : Env) : SOut := if b = true then f ρ else g ρ
theorem x_if (t : SemT) (f g : SemS) (ρ : Env) : sIf t f g ρ = (t ρ).sbind (kIfS f g) := rfl
theorem x_if_t (f g : SemS) (ρ : Env) : kIfS f g true ρ = f ρ := rfl
theorem x_if_f (f g : SemS) (ρ : Env) : kIfS f g false ρ = g ρ := rfl
theorem x_nilS (ρ : Env) : sNil ρ = .nx ρ := rfl
def kRet (r : R) (ρ : Env) : SOut := .rt r ρ
theorem x_ret (f : SemE) (ρ : Env) : sRet f ρ = (f ρ).sbind kRet := rfl
theorem x_ret1 (r : R) (ρ : Env) : kRet r ρ = .rt r ρ := rfl
def kExp (r : R) (ρ : Env) : SOut := .nx ρ
theorem x_exp (f : SemE) (ρ : Env) : sExp f ρ = (f ρ).sbind kExp := rfl
theorem x_exp1 (r : R) (ρ : Env) : kExp r ρ = .nx ρ := rfl
/-- x[k] = v -/
def kPut2 (g : D → D → D → Option D) (rv : R) (i : Nat) (ri : R) (ρ : Env) : SOut := put2 g i rv ri ρ
def kPut1 (g : D → D → D → Option D) (fi : SemE) (rv : R) (ro : R) (ρ : Env) : SOut := match ro with
  | .at i => (fi ρ).sbind (kPut2 g rv i)
  | _ => .bad
def kPut (g : D → D → D → Option D) (fo fi : SemE) (rv : R) (ρ : Env) : SOut := (fo ρ).sbind (kPut1 g fi rv)
theorem x_sput (g : D → D → D → Option D) (fe fo fi : SemE) (ρ : Env) : sPut g fe fo fi ρ = (fe ρ).sbind (kPut g fo fi) := by
  unfold sPut
  congr 1
theorem x_sput0 (g : D → D → D → Option D) (fo fi : SemE) (rv : R) (ρ : Env) : kPut g fo fi rv ρ = (fo ρ).sbind (kPut1 g fi rv) := rfl
theorem x_sput1 (g : D → D → D → Option D) (fi : SemE) (rv : R) (i : Nat) (ρ : Env) : kPut1 g fi rv (.at i) ρ = (fi ρ).sbind (kPut2 g rv i) := rfl
def kPut3 (g : D → D → D → Option D) (i : Nat) (ds : List D) (ρ : Env) : SOut := match ds with
  | [v, k] => outT i ρ (g (ρ.getD i .un).get k v)
  | _ => .bad
theorem x_sput2 (g : D → D → D → Option D) (rv : R) (i : Nat) (ri : R) (ρ : Env) : kPut2 g rv i ri ρ = (frzs ρ [rv, ri]).sbind (kPut3 g i) := rfl
theorem x_sput3 (g : D → D → D → Option D) (i : Nat) (v k : D) (ρ : Env) : kPut3 g i [v, k] ρ = outT i ρ (g (ρ.getD i .un).get k v) := rfl
def setZ (ρ : Env) (i : Nat) (d : D) : Sl → SOut
  | .ow _ => .nx (ρ.set i (.ow d))
  | .le _ => .nx (ρ.set i (.le d))
  | _ => .bad
theorem x_outT (i : Nat) (ρ : Env) (d : D) : outT i ρ (some d) = setZ ρ i d (ρ.getD i .un) := by
  unfold outT setS
  cases ρ.getD i .un <;> rfl
theorem x_setZ_ow (ρ : Env) (i : Nat) (d e : D) : setZ ρ i d (.ow e) = .nx (ρ.set i (.ow d)) := rfl
theorem x_setZ_le (ρ : Env) (i : Nat) (d e : D) : setZ ρ i d (.le e) = .nx (ρ.set i (.le d)) := rfl
/-- a changing method -/
def kMut3 (g : D → List D → Option (D × D)) (i : Nat) (ds : List D) (ρ : Env) : Out R := outS i ρ (g (ρ.getD i .un).get ds)
def kMut2 (g : D → List D → Option (D × D)) (i : Nat) (rs : List R) (ρ : Env) : Out R := (frzs ρ rs).bind (kMut3 g i)
def kMut1 (b : Bool) (g : D → List D → Option (D × D)) (fa : SemL) (i : Nat) (ρ : Env) : Out R := if b = true then (fa ρ).bind (kMut2 g i) else .bad
def kMut (T : String) (g : D → List D → Option (D × D)) (fa : SemL) (ro : R) (ρ : Env) : Out R := match ro with
  | .at i => kMut1 (ofT T (val ρ (.at i))) g fa i ρ
  | _ => .bad
theorem x_mut (T : String) (g : D → List D → Option (D × D)) (fo : SemE) (fa : SemL) (ρ : Env) : eMut T g fo fa ρ = (fo ρ).bind (kMut T g fa) := by
  unfold eMut
  congr 1
  funext ro ρ1
  cases ro <;> rfl
theorem x_mut0 (T : String) (g : D → List D → Option (D × D)) (fa : SemL) (i : Nat) (ρ : Env) : kMut T g fa (.at i) ρ = kMut1 (ofT T (val ρ (.at i))) g fa i ρ := rfl
theorem x_mut1 (g : D → List D → Option (D × D)) (fa : SemL) (i : Nat) (ρ : Env) : kMut1 true g fa i ρ = (fa ρ).bind (kMut2 g i) := rfl
theorem x_mut2 (g : D → List D → Option (D × D)) (i : Nat) (rs : List R) (ρ : Env) : kMut2 g i rs ρ = (frzs ρ rs).bind (kMut3 g i) := rfl
theorem x_mut3 (g : D → List D → Option (D × D)) (i : Nat) (ds : List D) (ρ : Env) : kMut3 g i ds ρ = outS i ρ (g (ρ.getD i .un).get ds) := rfl
def outZ (ρ : Env) (i : Nat) (d q : D) : Sl → Out R
  | .ow _ => .ok (.fro q) (ρ.set i (.ow d))
  | .le _ => .ok (.fro q) (ρ.set i (.le d))
  | _ => .bad
theorem x_outS (i : Nat) (ρ : Env) (d q : D) : outS i ρ (some (d, q)) = outZ ρ i d q (ρ.getD i .un) := by
  unfold outS setS
  cases ρ.getD i .un <;> rfl
theorem x_outZ_ow (ρ : Env) (i : Nat) (d q e : D) : outZ ρ i d q (.ow e) = .ok (.fro q) (ρ.set i (.ow d)) := rfl
theorem x_outZ_le (ρ : Env) (i : Nat) (d q e : D) : outZ ρ i d q (.le e) = .ok (.fro q) (ρ.set i (.le d)) := rfl
/-- the operations -/
theorem o_add (a b : Int) : gAdd (.int a) (.int b) = some (.sc (.int (a + b))) := rfl
theorem o_sub (a b : Int) : gSub (.int a) (.int b) = some (.sc (.int (a - b))) := rfl
theorem o_eqI (a b : Int) : gEq (.int a) (.int b) = some (.sc (.bl (a == b))) := rfl
theorem o_neI (a b : Int) : gNe (.int a) (.int b) = some (.sc (.bl (!(a == b)))) := rfl
theorem o_eqS (a b : List Nat) : gEq (.str a) (.str b) = some (.sc (.bl (decide (a = b)))) := rfl
theorem o_neS (a b : List Nat) : gNe (.str a) (.str b) = some (.sc (.bl (!decide (a = b)))) := rfl
theorem o_mod {a b : Int} (h : 0 < b) : gMod (.int a) (.int b) = some (.sc (.int (a % b))) := by
  show (if decide (0 < b) = true then _ else _) = _
  rw [if_pos (decide_eq_true h)]
theorem o_div {a b : Int} (h : 0 < b) (h2 : b < 2 ^ 64) : gDiv (.int a) (.int b) = some (.sc (.int (a / b))) := by
  show (if decide (0 < b ∧ b.natAbs.log2 < 9000) = true then _ else _) = _
  have : b.natAbs.log2 < 9000 := by
    have h3 : b.natAbs < 2 ^ 64 := by omega
    rcases Nat.eq_zero_or_pos b.natAbs with e | e
    · omega
    · have := (Nat.log2_lt (by omega : b.natAbs ≠ 0)).mpr h3
      omega
  rw [if_pos (decide_eq_true ⟨h, this⟩)]
theorem log_le {a : Int} {k : Nat} (h : a.natAbs < 2 ^ k) : a.natAbs.log2 ≤ k := by
  rcases Nat.eq_zero_or_pos a.natAbs with e | e
  · rw [e]
    have z : Nat.log2 0 = 0 := by decide
    omega
  · exact Nat.le_of_lt ((Nat.log2_lt (by omega : a.natAbs ≠ 0)).mpr h)
theorem o_mul {a b : Int} (h : a.natAbs < 2 ^ 250) (h2 : b.natAbs < 2 ^ 250) : gMul (.int a) (.int b) = some (.sc (.int (a * b))) := by
  show (if decide (a.natAbs.log2 + b.natAbs.log2 < 1000000) = true then _ else _) = _
  have := log_le h
  have := log_le h2
  rw [if_pos (decide_eq_true (by omega))]
theorem o_pow {a b : Int} (h : 0 ≤ b ∧ b ≤ 1000000 ∧ a.natAbs < 2 ^ 64) : gPow (.int a) (.int b) = some (.sc (.int (a ^ b.toNat))) := by
  show (if decide (0 ≤ b ∧ b ≤ 1000000 ∧ a.natAbs < 2 ^ 64) = true then _ else _) = _
  rw [if_pos (decide_eq_true h)]
theorem o_lt (a b : Int) : gLt (.int a) (.int b) = some (.sc (.bl (decide (a < b)))) := rfl
theorem o_le (a b : Int) : gLe (.int a) (.int b) = some (.sc (.bl (decide (a ≤ b)))) := rfl
theorem o_gt (a b : Int) : gGt (.int a) (.int b) = some (.sc (.bl (decide (b < a)))) := rfl
theorem o_ge (a b : Int) : gGe (.int a) (.int b) = some (.sc (.bl (decide (b ≤ a)))) := rfl
theorem o_lenN (ns : List Int) : g1 gLen [.scr ns] = some (.sc (.int ns.length)) := rfl
theorem o_lenS (s : List Nat) : g1 gLen [.str s] = some (.sc (.int s.length)) := rfl
theorem o_lenL (s : List D) : g1 gLen [.lst s] = some (.sc (.int s.length)) := rfl
theorem o_lenT (s : List D) : g1 gLen [.tup s] = some (.sc (.int s.length)) := rfl
theorem o_abs (i : Int) : g1 gAbs [.int i] = some (.sc (.int (if i < 0 then -i else i))) := rfl
theorem ev_ixN {n : Nat} {i : Int} (h : 0 ≤ i) (h2 : i < n) : ixN n i = some i.toNat := by
  unfold ixN
  rw [if_pos h, if_pos h2]
theorem ev_atI {α : Type} {xs : List α} {i : Int} (h : 0 ≤ i) (h2 : i < xs.length) : ∃ x, atI xs i = some x ∧ xs[i.toNat]? = some x := by
  unfold atI
  rw [ev_ixN h h2]
  have : i.toNat < xs.length := by omega
  exact ⟨xs[i.toNat], List.getElem?_eq_getElem this, List.getElem?_eq_getElem this⟩
theorem ev_ix_scr {ns : List Int} {i : Int} (h : 0 ≤ i) (h2 : i < ns.length) : ∃ c, orG gIx gIxD (.scr ns) (.int i) = some (.sc (.int c)) := by
  obtain ⟨c, hc, _⟩ := ev_atI h h2
  refine ⟨c, ?_⟩
  unfold orG
  have : gIx (.scr ns) (.int i) = some (.sc (.int c)) := by
    show ((atI ns i).map fun n => PR.sc (.int n)) = _
    rw [hc]; rfl
  rw [this]
theorem ev_ix_str {s : List Nat} {i : Int} (h : 0 ≤ i) (h2 : i < s.length) : ∃ c, c ∈ s ∧ s[i.toNat]? = some c ∧ orG gIx gIxD (.str s) (.int i) = some (.sc (.str [c])) := by
  obtain ⟨c, hc, he⟩ := ev_atI h h2
  refine ⟨c, List.mem_of_getElem? he, he, ?_⟩
  unfold orG
  have : gIx (.str s) (.int i) = some (.sc (.str [c])) := by
    show ((atI s i).map fun n => PR.sc (.str [n])) = _
    rw [hc]; rfl
  rw [this]
theorem ev_ix_lst {s : List D} {i : Int} (h : 0 ≤ i) (h2 : i < s.length) : ∃ c, c ∈ s ∧ s[i.toNat]? = some c ∧ orG gIx gIxD (.lst s) (.int i) = some (.sc c) := by
  obtain ⟨c, hc, he⟩ := ev_atI h h2
  refine ⟨c, List.mem_of_getElem? he, he, ?_⟩
  unfold orG
  have : gIx (.lst s) (.int i) = some (.sc c) := by
    show ((atI s i).map PR.sc) = _
    rw [hc]; rfl
  rw [this]
theorem ev_ix_tup {s : List D} {i : Int} (h : 0 ≤ i) (h2 : i < s.length) : ∃ c, c ∈ s ∧ s[i.toNat]? = some c ∧ orG gIx gIxD (.tup s) (.int i) = some (.sc c) := by
  obtain ⟨c, hc, he⟩ := ev_atI h h2
  refine ⟨c, List.mem_of_getElem? he, he, ?_⟩
  unfold orG
  have : gIx (.tup s) (.int i) = some (.sc c) := by
    show ((atI s i).map PR.sc) = _
    rw [hc]; rfl
  rw [this]
theorem ev_addS {a b : List Nat} (h : a.length + b.length ≤ 16777216) : gAdd (.str a) (.str b) = some (.sc (.str (a ++ b))) := by
  show (if lim (a.length + b.length) = true then _ else _) = _
  rw [if_pos (show lim (a.length + b.length) = true from decide_eq_true h)]
theorem ev_addL {a b : List D} (h : a.length + b.length ≤ 16777216) : gAdd (.lst a) (.lst b) = some (.nl (a ++ b)) := by
  show (if lim (a.length + b.length) = true then _ else _) = _
  rw [if_pos (show lim (a.length + b.length) = true from decide_eq_true h)]
theorem o_slS (s : List Nat) (a b : Option Int) : gSl (.str s) a b = some (.sc (.str (cutL s a b))) := rfl
theorem o_slL (s : List D) (a b : Option Int) : gSl (.lst s) a b = some (.nl (cutL s a b)) := rfl
theorem o_slT (s : List D) (a b : Option Int) : gSl (.tup s) a b = some (.nt (cutL s a b)) := rfl
theorem ev_cut_mem {α : Type} {s : List α} {a b : Option Int} {x : α} (h : x ∈ cutL s a b) : x ∈ s := List.mem_of_mem_drop (List.mem_of_mem_take h)
theorem ev_cut_len {α : Type} (s : List α) (a b : Option Int) : (cutL s a b).length ≤ s.length := by
  unfold cutL
  rw [List.length_take, List.length_drop]
  omega
def kWh (n : Nat) (t : SemT) (b : SemS) (k : Bool) (ρ : Env) : SOut := if k = true then (b ρ).loop (sWhile n t b) else .nx ρ
theorem ev_while (n : Nat) (t : SemT) (b : SemS) (ρ : Env) : sWhile (n + 1) t b ρ = (t ρ).sbind (kWh n t b) := rfl
theorem x_wh_t (n : Nat) (t : SemT) (b : SemS) (ρ : Env) : kWh n t b true ρ = (b ρ).loop (sWhile n t b) := rfl
theorem x_wh_f (n : Nat) (t : SemT) (b : SemS) (ρ : Env) : kWh n t b false ρ = .nx ρ := rfl
theorem o_neg (i : Int) : gNeg (.int i) = some (.sc (.int (-i))) := rfl
theorem o_isi (T : String) (d : D) : gIsi T d = some (.sc (.bl (isNm T (tyN d)))) := rfl
theorem ky_non : tyN .non = "NoneType" := rfl
theorem ky_bl (b : Bool) : tyN (.bl b) = "bool" := rfl
theorem ky_int (b : Int) : tyN (.int b) = "int" := rfl
theorem ky_str (b : List Nat) : tyN (.str b) = "str" := rfl
theorem ky_tup (b : List D) : tyN (.tup b) = "tuple" := rfl
theorem ky_lst (b : List D) : tyN (.lst b) = "list" := rfl
theorem ky_dct (b : List (D × D)) : tyN (.dct b) = "dict" := rfl
theorem ky_scr (b : List Int) : tyN (.scr b) = "list" := rfl
theorem ky_err (n : String) (fs : List (String × D)) : tyN (.err n fs) = "" := rfl
theorem y_str_err : isNm "str" "" = false := by decide +kernel
theorem y_int_err : isNm "int" "" = false := by decide +kernel
theorem y_bool_err : isNm "bool" "" = false := by decide +kernel
theorem y_tuple_err : isNm "tuple" "" = false := by decide +kernel
theorem y_list_err : isNm "list" "" = false := by decide +kernel
theorem y_dict_err : isNm "dict" "" = false := by decide +kernel
theorem y_str_NoneType : isNm "str" "NoneType" = false := by decide +kernel
theorem y_str_bool : isNm "str" "bool" = false := by decide +kernel
theorem y_str_int : isNm "str" "int" = false := by decide +kernel
theorem y_str_str : isNm "str" "str" = true := by decide +kernel
theorem y_str_tuple : isNm "str" "tuple" = false := by decide +kernel
theorem y_str_list : isNm "str" "list" = false := by decide +kernel
theorem y_str_dict : isNm "str" "dict" = false := by decide +kernel
theorem y_int_NoneType : isNm "int" "NoneType" = false := by decide +kernel
theorem y_int_bool : isNm "int" "bool" = true := by decide +kernel
theorem y_int_int : isNm "int" "int" = true := by decide +kernel
theorem y_int_str : isNm "int" "str" = false := by decide +kernel
theorem y_int_tuple : isNm "int" "tuple" = false := by decide +kernel
theorem y_int_list : isNm "int" "list" = false := by decide +kernel
theorem y_int_dict : isNm "int" "dict" = false := by decide +kernel
theorem y_bool_NoneType : isNm "bool" "NoneType" = false := by decide +kernel
theorem y_bool_bool : isNm "bool" "bool" = true := by decide +kernel
theorem y_bool_int : isNm "bool" "int" = false := by decide +kernel
theorem y_bool_str : isNm "bool" "str" = false := by decide +kernel
theorem y_bool_tuple : isNm "bool" "tuple" = false := by decide +kernel
theorem y_bool_list : isNm "bool" "list" = false := by decide +kernel
theorem y_bool_dict : isNm "bool" "dict" = false := by decide +kernel
theorem y_tuple_NoneType : isNm "tuple" "NoneType" = false := by decide +kernel
theorem y_tuple_bool : isNm "tuple" "bool" = false := by decide +kernel
theorem y_tuple_int : isNm "tuple" "int" = false := by decide +kernel
theorem y_tuple_str : isNm "tuple" "str" = false := by decide +kernel
theorem y_tuple_tuple : isNm "tuple" "tuple" = true := by decide +kernel
theorem y_tuple_list : isNm "tuple" "list" = false := by decide +kernel
theorem y_tuple_dict : isNm "tuple" "dict" = false := by decide +kernel
theorem y_list_NoneType : isNm "list" "NoneType" = false := by decide +kernel
theorem y_list_bool : isNm "list" "bool" = false := by decide +kernel
theorem y_list_int : isNm "list" "int" = false := by decide +kernel
theorem y_list_str : isNm "list" "str" = false := by decide +kernel
theorem y_list_tuple : isNm "list" "tuple" = false := by decide +kernel
theorem y_list_list : isNm "list" "list" = true := by decide +kernel
theorem y_list_dict : isNm "list" "dict" = false := by decide +kernel
theorem y_dict_NoneType : isNm "dict" "NoneType" = false := by decide +kernel
theorem y_dict_bool : isNm "dict" "bool" = false := by decide +kernel
theorem y_dict_int : isNm "dict" "int" = false := by decide +kernel
theorem y_dict_str : isNm "dict" "str" = false := by decide +kernel
theorem y_dict_tuple : isNm "dict" "tuple" = false := by decide +kernel
theorem y_dict_list : isNm "dict" "list" = false := by decide +kernel
theorem y_dict_dict : isNm "dict" "dict" = true := by decide +kernel
/-- for, over what is not owned -/
def kForI (tg : Tgt) (b : SemS) (ρ : Env) : Option (List D) → SOut
  | none => .bad
  | some items => forL tg b id items ρ
def kFor (itm : List D → Option (List D)) (tg : Tgt) (b : SemS) (rs : List R) (ρ1 : Env) : SOut := match itm (rs.map (val ρ1)) with
  | none => .bad
  | some items => if rs.all noAt = true then forL tg b id items ρ1 else if rs.all (ownAt ρ1) = true then forL tg b (unlk ρ1) items (lock rs ρ1) else .bad
theorem fo_for (g : SemL) (itm : List D → Option (List D)) (tg : Tgt) (b : SemS) (ρ : Env) : sFor g itm tg b ρ = (g ρ).sbind (kFor itm tg b) := rfl
theorem fo_for_f (itm : List D → Option (List D)) (tg : Tgt) (b : SemS) (d : D) (ρ : Env) : kFor itm tg b [.fro d] ρ = kForI tg b ρ (itm [d]) := by
  unfold kFor kForI
  show (match itm [d] with | none => _ | some items => _) = _
  cases itm [d] <;> rfl
theorem fo_some (tg : Tgt) (b : SemS) (ρ : Env) (items : List D) : kForI tg b ρ (some items) = forL tg b id items ρ := rfl
theorem fo_nil (tg : Tgt) (b : SemS) (ρ : Env) : forL tg b id [] ρ = .nx ρ := rfl
def kFT (t : Bool) (i : Nat) (b : SemS) (d : D) (ds : List D) (ρ : Env) : SOut := if t = true then .bad else (b (ρ.set i (.fz d))).turn id (forL (tgN i) b id ds)
theorem fo_cons (i : Nat) (b : SemS) (d : D) (ds : List D) (ρ : Env) : forL (tgN i) b id (d :: ds) ρ = kFT (ρ.getD i .un).lent i b d ds ρ := by
  unfold kFT
  show (match (if (ρ.getD i .un).lent = true then none else some (ρ.set i (.fz d))) with | none => _ | some ρ1 => _) = _
  cases (ρ.getD i .un).lent <;> rfl
theorem fo_t (i : Nat) (b : SemS) (d : D) (ds : List D) (ρ : Env) : kFT false i b d ds ρ = (b (ρ.set i (.fz d))).turn id (forL (tgN i) b id ds) := rfl
theorem fo_nx (ρ : Env) (g : SemS) : (SOut.nx ρ).turn id g = g ρ := rfl
/-- a def's end -/
theorem e_fn (n : Nat) (b : SemS) (ps : List Sl) : fnOf n b ps = endO ps (b (ps ++ List.replicate (n - ps.length) .un)) := rfl
end WS
/-! Wx: how long what repr tells is, and of what signs. -/
namespace WS
open PySem L2

def asc (s : List Nat) : Prop := ∀ c ∈ s, c < 128
theorem asc_dec {s : List Nat} (h : (s.all fun c => decide (c < 128)) = true) : asc s := fun c hc => of_decide_eq_true (List.all_eq_true.mp h c hc)
theorem asc_app {a b : List Nat} (h : asc a) (h2 : asc b) : asc (a ++ b) := fun c hc => (List.mem_append.mp hc).elim (h c) (h2 c)
theorem asc_cut {s : List Nat} {a b : Option Int} (h : asc s) : asc (cutL s a b) := fun c hc => h c (ev_cut_mem hc)
theorem asc_nil : asc [] := fun _ h => nomatch h
theorem asc_okS {s : List Nat} (h : asc s) : okS s = true := List.all_eq_true.mpr fun c hc => decide_eq_true (Nat.lt_trans (h c hc) (by decide))
abbrev ascS (x : Str) : Prop := asc x.cps.toList
theorem cps_app (a b : Str) : (a ++ b).cps.toList = a.cps.toList ++ b.cps.toList := by
  show (Str.append a b).cps.toList = _
  unfold Str.append
  simp
theorem ascS_app {a b : Str} (h : ascS a) (h2 : ascS b) : ascS (a ++ b) := by
  unfold ascS
  rw [cps_app]
  exact asc_app h h2
theorem len_app (a b : Str) : (a ++ b).length = a.length + b.length := by
  show (a ++ b).cps.size = a.cps.size + b.cps.size
  rw [← Array.length_toList, cps_app, List.length_append, Array.length_toList, Array.length_toList]
theorem ascS_lit (s : String) (h : ((sg s).all fun c => decide (c < 128)) = true) : ascS (Str.ofString s) := by
  unfold ascS
  rw [sg_cps]
  exact asc_dec h
/-- all ASCII, no longer than n -/
def fitS (n : Nat) (x : Str) : Prop := ascS x ∧ x.length ≤ n
theorem fitS.app {a b : Str} {n m : Nat} (h : fitS n a) (h2 : fitS m b) : fitS (n + m) (a ++ b) := ⟨ascS_app h.1 h2.1, by rw [len_app]; have := h.2; have := h2.2; omega⟩
theorem fitS.mono {a : Str} {n m : Nat} (h : fitS n a) (l : n ≤ m) : fitS m a := ⟨h.1, Nat.le_trans h.2 l⟩
theorem fit_lit (s : String) (n : Nat) (h : (((sg s).all fun c => decide (c < 128)) && decide ((sg s).length ≤ n)) = true) : fitS n (Str.ofString s) := by
  rw [Bool.and_eq_true] at h
  refine ⟨ascS_lit s h.1, ?_⟩
  show (Str.ofString s).cps.size ≤ n
  rw [← Array.length_toList, sg_cps]
  exact of_decide_eq_true h.2
theorem fit_from {B : Nat} : ∀ (ts : List Str) (k n : Nat) (acc : Str), fitS n acc → (∀ t ∈ ts, fitS B t) → fitS (n + ts.length * (B + 2)) (textFrom k acc ts)
  | [], k, n, acc, h, _ => by simpa [textFrom] using h
  | t :: ts, k, n, acc, h, ht => by
    have s : fitS 2 ((if k > 0 then ", " else "" : String) : Str) := by
      by_cases hk : k > 0
      · rw [if_pos hk]; exact fit_lit ", " 2 (by decide +kernel)
      · rw [if_neg hk]; exact fit_lit "" 2 (by decide +kernel)
    have := fit_from (B := B) ts (k + 1) (n + 2 + B) _ ((h.app s).app (ht t (List.mem_cons_self ..))) fun u hu => ht u (List.mem_cons_of_mem _ hu)
    refine this.mono ?_
    rw [List.length_cons, Nat.succ_mul]
    omega
theorem fit_list {B : Nat} {ts : List Str} (h : ∀ t ∈ ts, fitS B t) : fitS (2 + ts.length * (B + 2)) (listText ts) := by
  unfold listText
  refine ((fit_from ts 0 1 "[" (fit_lit "[" 1 (by decide +kernel)) h).app (fit_lit "]" 1 (by decide +kernel))).mono (by omega)
theorem fit_int {i : Int} (h : i.natAbs.log2 < 1920) : fitS 1921 (Str.ofString (toString i)) := by
  refine ⟨fun c hc => ?_, PyProof.Rows.int_text_len_1921 h⟩
  apply Classical.byContradiction
  intro n
  exact PyProof.Rows.int_text_free' c ⟨by omega, by omega⟩ i hc
theorem fit_join {B : Nat} : ∀ ts : List Str, (∀ t ∈ ts, fitS B t) → fitS (ts.length * (B + 2)) (Str.join ", " ts)
  | [], _ => ⟨fun c hc => by simp [Str.join, Str.empty] at hc, by simp [Str.join, Str.empty, Str.length]⟩
  | [x], h => (h x (List.mem_cons_self ..)).mono (by simp)
  | x :: y :: r, h => by
    have ih := fit_join (B := B) (y :: r) fun t ht => h t (List.mem_cons_of_mem _ ht)
    have := ((h x (List.mem_cons_self ..)).app (fit_lit ", " 2 (by decide +kernel))).app ih
    refine this.mono ?_
    rw [List.length_cons (as := y :: r), Nat.succ_mul]
    omega
theorem fit_tuple {B : Nat} {ts : List Str} (h : ∀ t ∈ ts, fitS B t) : fitS (3 + ts.length * (B + 2)) (tupleText ts) := by
  unfold tupleText
  have e : fitS 2 ((if ts.length == 1 then ",)" else ")" : String) : Str) := by
    by_cases hk : (ts.length == 1) = true
    · rw [if_pos hk]; exact fit_lit ",)" 2 (by decide +kernel)
    · rw [if_neg hk]; exact fit_lit ")" 2 (by decide +kernel)
  exact (((fit_lit "(" 1 (by decide +kernel)).app (fit_join ts h)).app e).mono (by omega)
theorem rc_dec : ([34, 39].all fun q => (List.range 128).all fun c => (Builtin.Str.reprChar q c).all fun d => decide (d < 128)) = true := by decide +kernel
theorem rc_asc {q c : Nat} (hq : q = 34 ∨ q = 39) (hc : c < 128) : asc (Builtin.Str.reprChar q c) := by
  have h := List.all_eq_true.mp rc_dec q (by rcases hq with rfl | rfl <;> simp)
  exact asc_dec (List.all_eq_true.mp h c (List.mem_range.mpr hc))
theorem rq_is (x : Str) : reprQuote x = 34 ∨ reprQuote x = 39 := by
  unfold reprQuote
  split
  · exact .inl rfl
  · exact .inr rfl
theorem fold_asc {q : Nat} (hq : q = 34 ∨ q = 39) : ∀ (l : List Nat) (acc : Array Nat), asc acc.toList → asc l → asc (l.foldl (fun out c => out ++ (Builtin.Str.reprChar q c).toArray) acc).toList
  | [], acc, h, _ => h
  | c :: r, acc, h, hl => by
    rw [List.foldl_cons]
    refine fold_asc hq r _ ?_ fun d hd => hl d (List.mem_cons_of_mem _ hd)
    rw [Array.toList_append]
    exact asc_app h (rc_asc hq (hl c (List.mem_cons_self ..)))
theorem fit_text {x : Str} {n : Nat} (h : fitS n x) : fitS (10 * n + 2) (reprText x) := by
  refine ⟨?_, Nat.le_trans (StrLaws.reprText_len x fun c hc => Nat.lt_trans (h.1 c hc) (by decide)) (by have := h.2; omega)⟩
  have hq := rq_is x
  have hq' : reprQuote x < 128 := by rcases hq with e | e <;> rw [e] <;> decide
  unfold ascS reprText
  rw [Array.toList_push, ← Array.foldl_toList]
  refine asc_app (fold_asc hq _ _ (fun c hc => ?_) h.1) fun c hc => ?_
  · simp at hc; rw [hc]; exact hq'
  · rw [List.mem_singleton.mp hc]; exact hq'
/-- plain small data, n deep -/
def tok : Nat → D → Prop
  | _, .non => True
  | _, .bl _ => True
  | _, .int i => i.natAbs.log2 < 1920
  | _, .str s => asc s ∧ s.length ≤ 300
  | n + 1, .tup ds => ds.length ≤ 4 ∧ ∀ d ∈ ds, tok n d
  | n + 1, .lst ds => ds.length ≤ 4 ∧ ∀ d ∈ ds, tok n d
  | _, _ => False
def tokB : Nat → Nat
  | 0 => 4000
  | n + 1 => 3 + 4 * (tokB n + 2)
theorem tokB_ge : ∀ n, 4000 ≤ tokB n
  | 0 => Nat.le_refl _
  | n + 1 => by have := tokB_ge n; unfold tokB; omega
theorem toRs_map : ∀ xs : List D, toRs xs = xs.map toR
  | [] => rfl
  | x :: xs => by simp only [toRs, List.map_cons, toRs_map xs]
theorem shownAll_map : ∀ xs : List PyData, PyData.shownAll xs = xs.map PyData.shown
  | [] => by simp [PyData.shownAll]
  | x :: xs => by simp only [PyData.shownAll, List.map_cons, shownAll_map xs]
theorem showAll_all : ∀ xs : List PyData, (∀ x ∈ xs, x.showable = true) → PyData.showableAll xs = true
  | [], _ => by simp [PyData.showableAll]
  | x :: xs, h => by simp only [PyData.showableAll, h x (List.mem_cons_self ..), showAll_all xs fun y hy => h y (List.mem_cons_of_mem _ hy), Bool.and_self]
theorem depthAll_le {n : Nat} : ∀ xs : List PyData, (∀ x ∈ xs, x.depth ≤ n) → PyData.depthAll xs ≤ n
  | [], _ => by simp [PyData.depthAll]
  | x :: xs, h => by
    simp only [PyData.depthAll]
    exact Nat.max_le.mpr ⟨h x (List.mem_cons_self ..), depthAll_le xs fun y hy => h y (List.mem_cons_of_mem _ hy)⟩
theorem plainRs_all : ∀ xs : List D, (∀ x ∈ xs, plainR x = true) → plainRs xs = true
  | [], _ => by simp [plainRs]
  | x :: xs, h => by simp only [plainRs, h x (List.mem_cons_self ..), plainRs_all xs fun y hy => h y (List.mem_cons_of_mem _ hy), Bool.and_self]
theorem tok_shown : ∀ (n : Nat) (d : D), tok n d → fitS (tokB n) (toR d).shown ∧ (toR d).showable = true ∧ (toR d).depth ≤ n ∧ plainR d = true
  | n, .non, _ => by
    simp only [toR, PyData.shown, PyData.showable, PyData.depth, plainR]
    exact ⟨(fit_lit "None" 4 (by decide +kernel)).mono (by have := tokB_ge n; omega), trivial, Nat.zero_le _, trivial⟩
  | n, .bl b, _ => by
    simp only [toR, PyData.shown, PyData.showable, PyData.depth, plainR]
    refine ⟨?_, trivial, Nat.zero_le _, trivial⟩
    cases b with
    | true => exact (fit_lit "True" 4 (by decide +kernel)).mono (by have := tokB_ge n; omega)
    | false => exact (fit_lit "False" 5 (by decide +kernel)).mono (by have := tokB_ge n; omega)
  | n, .int i, h => by
    have h : i.natAbs.log2 < 1920 := by cases n <;> exact h
    simp only [toR, PyData.shown, PyData.showable, PyData.depth, plainR]
    exact ⟨(fit_int h).mono (by have := tokB_ge n; omega), decide_eq_true h, Nat.zero_le _, trivial⟩
  | n, .str s, h => by
    have h : asc s ∧ s.length ≤ 300 := by cases n <;> exact h
    simp only [toR, PyData.shown, PyData.showable, PyData.depth, plainR]
    have : fitS 300 (mkS s) := ⟨h.1, by rw [mkS_length]; exact h.2⟩
    exact ⟨(fit_text this).mono (by have := tokB_ge n; omega), trivial, Nat.zero_le _, trivial⟩
  | n + 1, .tup ds, h => by
    obtain ⟨hl, hd⟩ := h
    have ih := fun d hd' => tok_shown n d (hd d hd')
    simp only [toR, toRs_map, PyData.shown, PyData.showable, PyData.depth, plainR, shownAll_map, List.map_map]
    refine ⟨?_, showAll_all _ fun x hx => ?_, Nat.succ_le_succ (depthAll_le _ fun x hx => ?_), plainRs_all ds fun x hx => (ih x hx).2.2.2⟩
    · refine (fit_tuple (B := tokB n) fun t ht => ?_).mono ?_
      · obtain ⟨d, hd', rfl⟩ := List.mem_map.mp ht
        exact (ih d hd').1
      · rw [List.length_map]
        show _ ≤ 3 + 4 * (tokB n + 2)
        have := Nat.mul_le_mul_right (tokB n + 2) hl
        omega
    · obtain ⟨d, hd', rfl⟩ := List.mem_map.mp hx
      exact (ih d hd').2.1
    · obtain ⟨d, hd', rfl⟩ := List.mem_map.mp hx
      exact (ih d hd').2.2.1
  | n + 1, .lst ds, h => by
    obtain ⟨hl, hd⟩ := h
    have ih := fun d hd' => tok_shown n d (hd d hd')
    simp only [toR, toRs_map, PyData.shown, PyData.showable, PyData.depth, plainR, shownAll_map, List.map_map]
    refine ⟨?_, showAll_all _ fun x hx => ?_, Nat.succ_le_succ (depthAll_le _ fun x hx => ?_), plainRs_all ds fun x hx => (ih x hx).2.2.2⟩
    · refine (fit_list (B := tokB n) fun t ht => ?_).mono ?_
      · obtain ⟨d, hd', rfl⟩ := List.mem_map.mp ht
        exact (ih d hd').1
      · rw [List.length_map]
        show _ ≤ 3 + 4 * (tokB n + 2)
        have := Nat.mul_le_mul_right (tokB n + 2) hl
        omega
    · obtain ⟨d, hd', rfl⟩ := List.mem_map.mp hx
      exact (ih d hd').2.1
    · obtain ⟨d, hd', rfl⟩ := List.mem_map.mp hx
      exact (ih d hd').2.2.1
  | 0, .tup _, h => False.elim h
  | 0, .lst _, h => False.elim h
  | 0, .dct _, h => False.elim h
  | n + 1, .dct _, h => False.elim h
  | 0, .scr _, h => False.elim h
  | n + 1, .scr _, h => False.elim h
  | 0, .err _ _, h => False.elim h
  | n + 1, .err _ _, h => False.elim h
theorem tok_str {n : Nat} {s : List Nat} (h : asc s) (h2 : s.length ≤ 300) : tok n (.str s) := by cases n <;> exact ⟨h, h2⟩
theorem tok_int {n : Nat} {i : Int} (h : i.natAbs.log2 < 1920) : tok n (.int i) := by cases n <;> exact h
theorem tok_bl {n : Nat} {b : Bool} : tok n (.bl b) := by cases n <;> trivial
theorem tok_non {n : Nat} : tok n .non := by cases n <;> trivial
theorem tok_t0 {n : Nat} : tok (n + 1) (.tup []) := ⟨by decide, fun _ h => nomatch h⟩
theorem tok_t1 {n : Nat} {d : D} (h : tok n d) : tok (n + 1) (.tup [d]) := ⟨by simp, fun x hx => by rw [List.mem_singleton.mp hx]; exact h⟩
theorem tok_t2 {n : Nat} {d e : D} (h : tok n d) (h2 : tok n e) : tok (n + 1) (.tup [d, e]) := ⟨by simp, fun x hx => by
  rcases List.mem_cons.mp hx with rfl | hx
  · exact h
  · rw [List.mem_singleton.mp hx]; exact h2⟩
theorem tok_l0 {n : Nat} : tok (n + 1) (.lst []) := ⟨by decide, fun _ h => nomatch h⟩
theorem tok_l1 {n : Nat} {d : D} (h : tok n d) : tok (n + 1) (.lst [d]) := ⟨by simp, fun x hx => by rw [List.mem_singleton.mp hx]; exact h⟩
theorem repr_tok {d : D} (h : tok 3 d ∨ d = .dct []) : gRepr d = some (.sc (.str (reprS d))) := by
  have key : (okR d && (toR d).showable && lim (reprS d).length && okS (reprS d) && decide ((toR d).depth ≤ 60)) = true := by
    rcases h with h | rfl
    · obtain ⟨⟨h1, h2⟩, h3, h4, h5⟩ := tok_shown 3 d h
      have e : okR d = true := by
        cases d with
        | dct kvs => exact False.elim h
        | _ => exact h5
      have h2' : (reprS d).length ≤ 16777216 := by
        have : (reprS d).length = (toR d).shown.length := Array.length_toList
        rw [this]
        exact Nat.le_trans h2 (by decide)
      simp only [Bool.and_eq_true]
      exact ⟨⟨⟨⟨e, h3⟩, decide_eq_true h2'⟩, asc_okS h1⟩, decide_eq_true (by omega)⟩
    · decide +kernel
  unfold gRepr
  rw [if_pos key]
end WS
/-! Wy: xs[::-1], methods that change nothing. -/
namespace WS
open PySem L2

section
variable {X : Cx} {c : XC} {W : WX} {pos : Pos}
def gRev : D → Option PR
  | .lst ds => some (.nl ds.reverse)
  | _ => none
theorem se_revL {e : Expr} {f : SemE} {k : Nat} {p1 p2 p3 : Pos} (h : SE X c W e f) : SE X c W (.Subscript e (.Slice none none (some (.UnaryOp .USub (.Constant (.int 1) k p1) p2)) p3) pos) (eUn gRev f) := by
  refine ⟨PE.imp (pe_revL h.pe) fun σ H Q q => ?_, okE_un h.ok⟩
  refine td_one (g := gRev) (r := fun x H Q => ∃ a xs, x = .ref a ∧ SqL X.K H a xs ∧ ∀ p, H p = none → Q (.ref p) (upd H p (.lst xs.reverse))) h.ok (fun F H x d p Q s t e q => ?_) q
  cases d with
  | lst ds =>
    cases e
    obtain ⟨a, vs, rfl, ha, r⟩ := t.lst s
    exact ⟨a, vs, rfl, .of ha, fun p hp => q p _ hp r.reverse⟩
  | _ => cases e
/-- a method that changes nothing -/
def eMet (T : String) (g : D → List D → Option PR) (fo : SemE) (fa : SemL) : SemE := fun ρ => (fo ρ).bind fun ro ρ1 => if ofT T (val ρ1 ro) = true then (fa ρ1).bind fun rs ρ2 => outP ρ2 (g (val ρ2 ro) (rs.map (val ρ2))) else .bad
theorem okE_met {T : String} {g : D → List D → Option PR} {fo : SemE} {fa : SemL} (h : okE fo) (h2 : okE fa) : okE (eMet T g fo fa) := okE_bind h fun ro => okE_iff (t := fun ρ1 => ofT T (val ρ1 ro)) (okE_bind h2 fun rs ρ => okE_outP (g (val ρ ro) (rs.map (val ρ))) ρ) okE_bad
def MetG (X : Cx) (id : String) (g : D → List D → Option PR) : Prop :=
  ∃ r, MtR X id r ∧ ∀ F H x vs d ds p Q, Sub F H → Top X.w X.K F H x d → Paired (Top X.w X.K F H) vs ds → g d ds = some p → PRQ X.w X.K F H p Q → r x vs H Q
theorem se_met {o e : Expr} {es : List Expr} {fo : SemE} {fa : SemL} {g : D → List D → Option PR} {name : Str} {apos cpos : Pos} {T id : String} (hm : MetG X id g) (pa : PlainAttrs T) (slot : Slot T name id) (hty : typeOf (.builtin id) = pure (.type "method_descriptor")) (ho : SE X c W o fo) (ha : SA X c W (e :: es) fa)
    (m : McOk X o name apos (e :: es) cpos) (hs : starEach (e :: es) X.env = (false, eval e X.env) :: starEach es X.env) (hpl : (backTo cpos (starEach es X.env)).any (·.1) = false) : SE X c W (.Call (.Attribute o name apos) (e :: es) [] cpos) (eMet T g fo fa) := by
  obtain ⟨r, h1, h2⟩ := hm
  refine ⟨PE.imp (pe_mw pa slot hty h1 ho.pe ha.pa m hs hpl) fun σ H Q ⟨F, ρ, S, h⟩ => ?_, okE_met ho.ok ha.ok⟩
  refine td_bind ho.ok S h fun x ro ρ1 F1 H1 l1 S1 e1 q1 => ?_
  by_cases ht : ofT T (val ρ1 ro) = true
  · rw [if_pos ht] at q1
    refine ⟨tyW_of S1.sub (e1.top S1) ht, F1, ρ1, S1, ?_⟩
    have l2 := ha.ok ρ1
    cases ea : fa ρ1 with
    | bad => rw [ea] at q1; exact q1
    | exn y ρ2 => rw [ea] at q1; exact q1
    | ok rs ρ2 =>
      rw [ea] at q1 l2
      intro vs F2 H2 S2 r2 f2
      have e1' := e1.later S1 f2 (fun b z => .inl z) l2
      obtain ⟨p, hp, hq⟩ := out_prq S2 (Post.step (out := outP ρ2 (g (val ρ2 ro) (rs.map (val ρ2)))) f2 (fun b z => .inl z) q1)
      exact h2 F2 H2 x vs _ _ p Q S2.sub (e1'.top S2) (r2.tops S2) hp hq
  · rw [if_neg ht] at q1
    exact False.elim q1
end
end WS
/-! Wz: list(d). -/
namespace WS
open PySem L2

section
variable {X : Cx} {c : XC} {W : WX} {pos : Pos}
theorem RepE.keys {w : World} {K : PySem.W.Frag} {F : Hp} : ∀ {kvs : List (D × D)} {es : List DictEntry}, RepE w K F es kvs → ∃ vs, Vals vs (es.map (·.key)) ∧ RepL w K F vs (kvs.map (·.1))
  | [], _, h => by cases h; exact ⟨[], .nil, .nil⟩
  | (k, v) :: kvs, _, h => by
    cases h with
    | cons a b c d f g t =>
      obtain ⟨vs, h1, h2⟩ := RepE.keys t
      exact ⟨_ :: vs, .cons a h1, .cons b h2⟩
def rListD (X : Cx) : List V → Hp → VK → Prop := fun xs H Q => ∃ F a n es kvs, xs = [.ref a] ∧ H a = some (dO a n es) ∧ RepE X.w X.K F es kvs ∧ ∀ l vs, H l = none → RepL X.w X.K F vs (kvs.map (·.1)) → Q (.ref l) (upd H l (.lst vs))
theorem cr_listD (hc : X.calm = true) : CallR X (.type "list") (rListD X) := by
  intro pins s σ H xs us Q I r h
  obtain ⟨F, a, n, es, kvs, rfl, ha, re, q⟩ := h
  obtain ⟨u, rfl, ru⟩ := vals1 r
  cases (show u = Value.ref a from ru)
  obtain ⟨h1, h2, ep, dr⟩ := dO_at I ha
  obtain ⟨vs, e1, e2⟩ := re.keys
  refine PySem.W.kdl_call (KdlSrc.rawDict h1) (I.ok.hd hc) dr (by simpa using h2) fun h' tk acc' c' keep hS items => ?_
  have e3 : acc'.toList = es.map (·.key) := by
    apply List.ext_getElem?
    intro i
    rw [List.getElem?_map, Array.getElem?_toList]
    cases hi : acc'[i]? with
    | none =>
      have : es.length ≤ i := by
        have h3 := items.1
        have h4 : acc'.size ≤ i := Array.getElem?_eq_none_iff.mp hi
        simp at h3
        omega
      rw [List.getElem?_eq_none this]; rfl
    | some v =>
      obtain ⟨hlt, hv⟩ := items.2 i v hi
      have hl : i < es.length := by simpa using hlt
      rw [List.getElem?_eq_getElem hl]
      show some v = some es[i].key
      rw [hv]
      simp
  refine ⟨.ref s.heap.objs.size, _, I.laid (a := s.heap.objs.size) (o := .lst vs) keep (Nat.le_refl _) ⟨?_, acc'.toList, c', by rw [e3]; exact e1, by simpa using hS⟩, rfl, q _ vs (I.hok.fresh (Nat.le_refl _)) e2⟩
  rw [e1.length, List.length_map]
  exact h2
def gListD : D → Option PR
  | .dct kvs => some (.nl (kvs.map (·.1)))
  | _ => none
theorem fn_listD (hc : X.calm = true) : FnG X (.type "list") (g1 gListD) := by
  refine ⟨_, cr_listD hc, fun F H vs ds p Q s t e0 q => ?_⟩
  obtain ⟨d, rfl, e⟩ := g1_some e0
  obtain ⟨v, rfl, tv⟩ := vals_one t rfl
  cases d with
  | dct kvs =>
    cases e
    obtain ⟨a, n, es, rfl, h, r, _⟩ := tv.dct s
    exact ⟨F, a, n, es, kvs, rfl, h, r, fun l us hl hr => q l us hl hr⟩
  | _ => cases e
/-! ### one of two built-ins' rules -/
def orF (g g' : List D → Option PR) (ds : List D) : Option PR := match g ds with
  | some p => some p
  | none => g' ds
theorem FnG.or {f : Value} {g g' : List D → Option PR} (a : FnG X f g) (b : FnG X f g') : FnG X f (orF g g') := by
  obtain ⟨r, a1, a2⟩ := a
  obtain ⟨r', b1, b2⟩ := b
  refine ⟨_, a1.or b1, fun F H vs ds p Q s t e q => ?_⟩
  unfold orF at e
  cases h : g ds with
  | some p' => rw [h] at e; cases e; exact .inl (a2 F H vs ds p Q s t h q)
  | none => rw [h] at e; exact .inr (b2 F H vs ds p Q s t e q)
theorem fn_list2 (hc : X.calm = true) : FnG X (.type "list") (orF (g1 gListOf) (g1 gListD)) := FnG.or fn_list (fn_listD hc)
end
end WS
/-! Wza: join. -/
namespace WS
open PySem L2

/-- the texts of a row -/
def txts : List D → Option (List (List Nat))
  | [] => some []
  | .str s :: ds => (txts ds).map (s :: ·)
  | _ :: _ => none
theorem txts_rep {w : World} {K : PySem.W.Frag} {F : Hp} : ∀ {ds : List D} {ss : List (List Nat)} {vs : List V}, txts ds = some ss → RepL w K F vs ds → vs = ss.map (fun s => V.str (mkS s)) ∧ ∀ s ∈ ss, okS s = true
  | [], _, _, h, r => by cases h; cases r; exact ⟨rfl, fun _ z => nomatch z⟩
  | d :: ds, ss, _, h, r => by
    cases r with
    | cons r1 r2 =>
      cases d with
      | str s =>
        cases r1 with
        | str _ o l =>
          unfold txts at h
          cases e : txts ds with
          | none => rw [e] at h; cases h
          | some ss' =>
            rw [e] at h; cases h
            obtain ⟨h1, h2⟩ := txts_rep e r2
            refine ⟨by rw [h1]; rfl, fun z hz => ?_⟩
            rcases List.mem_cons.mp hz with rfl | hz
            · exact o
            · exact h2 z hz
      | _ => cases h
def joinN (sep : List Nat) : List (List Nat) → List Nat
  | [] => []
  | [x] => x
  | x :: y :: r => x ++ sep ++ joinN sep (y :: r)
theorem join_mk (sep : List Nat) : ∀ ss : List (List Nat), Str.join (mkS sep) (ss.map mkS) = mkS (joinN sep ss)
  | [] => rfl
  | [x] => rfl
  | x :: y :: r => by
    have ih := join_mk sep (y :: r)
    show mkS x ++ mkS sep ++ Str.join (mkS sep) ((y :: r).map mkS) = _
    rw [ih, mkS_append, mkS_append]
    rfl
theorem join_ok {sep : List Nat} (h : okS sep = true) : ∀ {ss : List (List Nat)}, (∀ s ∈ ss, okS s = true) → okS (joinN sep ss) = true
  | [], _ => rfl
  | [x], hx => hx x (List.mem_cons_self ..)
  | x :: y :: r, hx => okS_append (okS_append (hx x (List.mem_cons_self ..)) h) (join_ok h fun z hz => hx z (List.mem_cons_of_mem _ hz))
theorem join_len (sep : List Nat) : ∀ ss : List (List Nat), (joinN sep ss).length ≤ (ss.map (·.length)).sum + ss.length * sep.length
  | [] => by simp [joinN]
  | [x] => by simp [joinN]
  | x :: y :: r => by
    have ih := join_len sep (y :: r)
    show (x ++ sep ++ joinN sep (y :: r)).length ≤ _
    rw [List.length_append, List.length_append]
    simp only [List.map_cons, List.sum_cons, List.length_cons, Nat.succ_mul] at ih ⊢
    omega
def joinP (sep : List Nat) (ds : List D) : Option PR := match txts ds with
  | some ss => if lim ((ss.map (·.length)).sum + ss.length * sep.length) = true then some (.sc (.str (joinN sep ss))) else none
  | none => none
def gJoin : D → List D → Option PR
  | .str sep, [.lst ds] => joinP sep ds
  | .str sep, [.tup ds] => joinP sep ds
  | _, _ => none
section
variable {X : Cx}
theorem join_end {F H : Hp} {sep : List Nat} {ds : List D} {vs : List V} {a : Addr} {x y : V} {p : PR} {Q : VK} (ex : x = .str (mkS sep)) (ok : okS sep = true) (ey : y = .ref a) (hq : SqL X.K H a vs ∨ SqT X.K H a vs) (r : RepL X.w X.K F vs ds) (e : joinP sep ds = some p) (q : PRQ X.w X.K F H p Q) :
    ∃ b p', ∃ ys : List Str, x = .str b ∧ [y] = [.ref p'] ∧ (SqL X.K H p' (ys.map V.str) ∨ SqT X.K H p' (ys.map V.str)) ∧ (ys.map (·.length)).sum + ys.length * b.length ≤ 16777216 ∧ Q (.str (Txt.join b ys)) H := by
  unfold joinP at e
  cases ht : txts ds with
  | none => rw [ht] at e; cases e
  | some ss =>
    simp only [ht] at e
    by_cases hl : lim ((ss.map (·.length)).sum + ss.length * sep.length) = true
    · rw [if_pos hl] at e
      cases e
      obtain ⟨h1, h2⟩ := txts_rep ht r
      have h3 : vs = (ss.map mkS).map V.str := by rw [h1, List.map_map]; rfl
      refine ⟨mkS sep, a, ss.map mkS, ex, by rw [ey], by rw [← h3]; exact hq, ?_, ?_⟩
      · have e1 : (ss.map mkS).map (·.length) = ss.map (·.length) := by
          rw [List.map_map]
          exact List.map_congr_left fun s _ => mkS_length s
        rw [e1, List.length_map, mkS_length]
        exact of_decide_eq_true hl
      · rw [show Txt.join (mkS sep) (ss.map mkS) = Str.join (mkS sep) (ss.map mkS) from StrLaws.glued_eq_join _ _, join_mk]
        exact q _ (.str _ (join_ok ok h2) (Nat.le_trans (join_len sep ss) (lim_le hl)))
    · rw [if_neg hl] at e; cases e
theorem met_join : MetG X "str.join" gJoin := by
  refine ⟨_, mt_join, fun F H x vs d ds p Q s t ts e q => ?_⟩
  unfold gJoin at e
  split at e
  · rename_i sep es
    obtain ⟨v, rfl, tv⟩ := vals_one ts rfl
    obtain ⟨ex, ok, _⟩ := t.str
    obtain ⟨a, us, ey, h, r⟩ := tv.lst s
    exact join_end ex ok ey (.inl (.of h)) r e q
  · rename_i sep es
    obtain ⟨v, rfl, tv⟩ := vals_one ts rfl
    obtain ⟨ex, ok, _⟩ := t.str
    obtain ⟨a, us, ey, h, r⟩ := tv.tup s
    exact join_end ex ok ey (.inr h) r e q
  · cases e
end
end WS
/-! Wzb: list(text). -/
namespace WS
open PySem L2

section
variable {X : Cx}
def rListS : List V → Hp → VK → Prop := fun xs H Q => ∃ z : List Nat, xs = [.str (mkS z)] ∧ z.length ≤ sizeLine ∧ ∀ l, H l = none → Q (.ref l) (upd H l (.lst (z.map fun n => V.str (mkS [n]))))
theorem cr_listS (hc : X.calm = true) : CallR X (.type "list") rListS := by
  intro pins s σ H xs us Q I r h
  obtain ⟨z, rfl, hz, q⟩ := h
  obtain ⟨u, rfl, t, rfl⟩ := vals1 r
  refine call_list_str (I.ok.hd hc) (mkS z) t (fun h' tk acc' c' keep hS items => ?_) (by simpa using hz)
  have e3 : Vals (z.map fun n => V.str (mkS [n])) acc'.toList := by
    have hn : acc'.size = z.length := by simpa using items.1
    have get : ∀ i v, acc'[i]? = some v → ∃ n u, z[i]? = some n ∧ v = Value.str (mkS [n]) u := fun i v hi => by
      obtain ⟨c, u, hc', e⟩ := items.2 i v hi
      exact ⟨c, u, by simpa using hc', e⟩
    have go : ∀ (zs : List Nat) (vs : List Value), vs.length = zs.length → (∀ (i : Nat) v, vs[i]? = some v → ∃ n u, zs[i]? = some n ∧ v = Value.str (mkS [n]) u) → Vals (zs.map fun n => V.str (mkS [n])) vs := by
      intro zs
      induction zs with
      | nil => intro vs hl _; rw [List.length_eq_zero_iff.mp hl]; exact .nil
      | cons n zs ih =>
        intro vs hl hv
        cases vs with
        | nil => simp at hl
        | cons v vs =>
          obtain ⟨n', u, e1, e2⟩ := hv 0 v rfl
          cases e1
          exact .cons ⟨u, e2⟩ (ih vs (by simpa using hl) fun i w hw => hv (i + 1) w (by simpa using hw))
    exact go z acc'.toList (by simpa using hn) fun i v hv => get i v (by simpa using hv)
  refine ⟨.ref s.heap.objs.size, _, I.laid (a := s.heap.objs.size) (o := .lst (z.map fun n => V.str (mkS [n]))) keep (Nat.le_refl _) ⟨by rw [List.length_map]; exact hz, acc'.toList, c', e3, by simpa using hS⟩, rfl, q _ (I.hok.fresh (Nat.le_refl _))⟩
def gListS : D → Option PR
  | .str z => some (.nl (z.map fun n => .str [n]))
  | _ => none
theorem fn_listS (hc : X.calm = true) : FnG X (.type "list") (g1 gListS) := by
  refine ⟨_, cr_listS hc, fun F H vs ds p Q s t e0 q => ?_⟩
  obtain ⟨d, rfl, e⟩ := g1_some e0
  obtain ⟨v, rfl, tv⟩ := vals_one t rfl
  cases d with
  | str z =>
    cases e
    obtain ⟨rfl, o, l⟩ := tv.str
    refine ⟨z, rfl, l, fun l' hl => q l' _ hl ?_⟩
    have go : ∀ zs : List Nat, okS zs = true → RepL X.w X.K F (zs.map fun n => V.str (mkS [n])) (zs.map fun n => D.str [n]) := fun zs => by
      induction zs with
      | nil => intro _; exact .nil
      | cons n zs ih =>
        intro h
        unfold okS at h
        rw [List.all_cons, Bool.and_eq_true] at h
        exact .cons (.str [n] (by unfold okS; rw [List.all_cons, h.1]; rfl) (show 1 ≤ sizeLine by rw [sizeLine_eq]; decide)) (ih h.2)
    exact go z o
  | _ => cases e
theorem fn_list3 (hc : X.calm = true) : FnG X (.type "list") (orF (orF (g1 gListOf) (g1 gListD)) (g1 gListS)) := FnG.or (fn_list2 hc) (fn_listS hc)
end
end WS
/-! Wzc: sorted(list). -/
namespace WS
open PySem L2

/-- the order of data -/
def ltD (a b : D) : Bool := PySem.W.dataLt (toPy a) (toPy b)
def leD (a b : D) : Bool := !ltD b a
def isT1 : PyData → Bool
  | .tuple (_ :: _) => true
  | _ => false
def isFl : PyData → Bool
  | .none => false
  | .tuple _ => false
  | _ => true
/-- data that may be put in order -/
def srtP (ps : List PyData) : Bool := (ps.all fun d => ps.all fun e => PySem.W.alike d e) && (ps.all isT1 || ps.all isFl)
def srtB (ds : List D) : Bool := srtP (ds.map toPy) && ds.all fun d => decide (dp d ≤ 60)
theorem srtP_alike {ps : List PyData} (h : srtP ps = true) : PySem.W.AllAlike ps := by
  unfold srtP at h
  rw [Bool.and_eq_true, List.all_eq_true] at h
  exact fun d hd e he => List.all_eq_true.mp (h.1 d hd) e he
theorem srtP_sort {ps : List PyData} (h : srtP ps = true) : PySem.W.Sortable ps := by
  unfold srtP at h
  rw [Bool.and_eq_true, Bool.or_eq_true, List.all_eq_true, List.all_eq_true, List.all_eq_true] at h
  rcases h.2 with h | h
  · refine .inl fun d hd => ?_
    have := h d hd
    unfold isT1 at this
    split at this
    · exact ⟨_, _, rfl⟩
    · cases this
  · refine .inr fun d hd => ?_
    have := h d hd
    unfold isFl at this
    split at this
    · cases this
    · cases this
    · exact ⟨by assumption, by assumption⟩
theorem leD_eq : PySem.W.dataLe false toPy = leD := by
  rw [PySem.W.dataLe_eq]
  rfl
def srtD (ds : List D) : List D := ds.mergeSort leD
section
variable {w : World} {K : PySem.W.Frag} {F H : Hp}
theorem RepL.each {R : Value → D → Prop} (hR : ∀ v u d, RelV v u → Rep w K F v d → R u d) : ∀ {ds : List D} {vs : List V} {us : List Value}, RepL w K F vs ds → Vals vs us → PySem.W.EachIs R us ds
  | [], _, _, r, t => by cases r; cases t; exact .nil
  | d :: ds, _, _, r, t => by
    cases r with
    | cons a b => cases t with | cons e f => exact .cons (hR _ _ _ e a) (RepL.each hR b f)
theorem RepL.uneach : ∀ {ds : List D} {us : List Value}, PySem.W.EachIs (fun u d => ∃ v, RelV v u ∧ Rep w K F v d) us ds → ∃ vs, Vals vs us ∧ RepL w K F vs ds
  | [], _, h => by cases h; exact ⟨[], .nil, .nil⟩
  | d :: ds, _, h => by
    cases h with
    | cons a b =>
      obtain ⟨v, h1, h2⟩ := a
      obtain ⟨vs, h3, h4⟩ := RepL.uneach b
      exact ⟨v :: vs, .cons h1 h3, .cons h2 h4⟩
end
section
variable {X : Cx} {c : XC} {W : WX} {pos : Pos}
def rSortedD (X : Cx) : List V → Hp → VK → Prop := fun xs H Q => ∃ F a vs ds, xs = [.ref a] ∧ SqL X.K H a vs ∧ Sub F H ∧ RepL X.w X.K F vs ds ∧ srtB ds = true ∧ ∀ l us, H l = none → RepL X.w X.K F us (srtD ds) → Q (.ref l) (upd H l (.lst us))
theorem cr_sortedD (hu : X.A.units + 65 < cLine) : CallR X (.builtin "sorted") (rSortedD X) := by
  intro pins s σ H xs us Q I r h
  obtain ⟨F, a, vs, ds, rfl, hs, sb, rp, ok, q⟩ := h
  obtain rfl := Vals.ref1 r
  obtain ⟨its, rv, hl, hz⟩ := I.list hs
  unfold srtB at ok
  rw [Bool.and_eq_true, List.all_eq_true] at ok
  have hlen : vs.length = ds.length := rp.length
  have dpo : ∀ d ∈ ds, dp d ≤ 60 := fun d hd => of_decide_eq_true (ok.2 d hd)
  have e1 : PySem.W.EachIs (fun u d => ∃ v, RelV v u ∧ Rep X.w X.K F v d) its ds := rp.each (fun v u d a b => ⟨v, a, b⟩) rv
  have e2 : PySem.W.EachIs (fun u d => ∃ as, Reads s.heap u (toPy d) as) its ds := (PySem.W.each_mem e1).mono fun u d ⟨⟨v, h1, h2⟩, hd⟩ =>
    Dp.reads I (toPy d) v u ((h2.mono sb).dp (by have := dpo d hd; omega)) h1
  refine PySem.W.sorted_data (bs := ds) (enc := toPy) hl.isList e1 e2 (srtP_alike ok.1) (srtP_sort ok.1) (by rw [← hlen]; exact hz) (fun d hd => ?_) fun out ho eo => ?_
  · obtain ⟨v, hv⟩ : ∃ v, Rep X.w X.K F v d := by
      obtain ⟨i, hi⟩ := List.getElem?_of_mem hd
      obtain ⟨v, _, h⟩ := rp.get hi
      exact ⟨v, h⟩
    have := dpo d hd
    rw [(hv.lay (by omega)).2]
    omega
  · rw [leD_eq] at eo
    obtain ⟨us, h1, h2⟩ := RepL.uneach eo
    obtain ⟨ep, he'⟩ := PyProof.Rows.sortedAll_at s.heap its (List.toArray out)
    have hl' : us.length ≤ sizeLine := by
      rw [h1.length, ho, ← hlen]
      exact hz
    exact ⟨.ref _, upd H (s.heap.objs.size + 1) (.lst us), I.laid (t' := s.toks) (fun _ _ => PyProof.Rows.sortedAll_old) (Nat.le_succ _) ⟨hl', out, ep, h1, by simpa using he'⟩, rfl, q _ _ (I.hok.fresh (Nat.le_succ _)) h2⟩
def gSorted : D → Option PR
  | .lst ds => if srtB ds = true then some (.nl (srtD ds)) else none
  | _ => none
theorem fn_sorted (hu : X.A.units + 65 < cLine) : FnG X (.builtin "sorted") (g1 gSorted) := by
  refine ⟨_, cr_sortedD hu, fun F H vs ds p Q s t e0 q => ?_⟩
  obtain ⟨d, rfl, e⟩ := g1_some e0
  obtain ⟨v, rfl, tv⟩ := vals_one t rfl
  cases d with
  | lst ds =>
    have e : (if srtB ds = true then some (PR.nl (srtD ds)) else none) = some p := e
    by_cases h : srtB ds = true
    · rw [if_pos h] at e
      cases e
      obtain ⟨a, us, rfl, h1, h2⟩ := tv.lst s
      exact ⟨F, a, us, ds, rfl, .of h1, s, h2, h, fun l us hl hr => q l us hl hr⟩
    · rw [if_neg h] at e; cases e
  | _ => cases e
end
end WS
/-! Wzd: sorted(list, key=def). -/
namespace WS
open PySem L2 PySem.Calls PyProof.Rows
open PySem.W (EachIs copyHeap copyHeap_at copyHeap_old)
section
variable {prog : Program} {w : World} {A : Around} {s : Shared} {a kS : Addr} {vs : List Value} {e1 : Nat} {b : Bool} {P : PySem.Fin → Shared → Prop} {E : Value → Shared → Prop} {f : Value}
/-- a call of the key keeps what it must -/
def TurnJ (prog : Program) (w : World) (A : Around) (f : Value) (vs : List Value) (a kS : Addr) (J : Nat → Shared → List Value → Prop) : Prop :=
  ∀ (i : Nat) (v : Value) (s1 : Shared) (kA : List Value), vs[i]? = some v → J i s1 kA → (∃ o, s1.heap.get? kS = some o) → (∃ o, s1.heap.get? a = some o) →
    wpAny (model prog w) A (call f [v]) (fun u s2 => J (i + 1) s2 (kA ++ [u]) ∧ (∀ ob, s1.heap.get? kS = some ob → s2.heap.get? kS = some ob) ∧ ∀ ob, s1.heap.get? a = some ob → s2.heap.get? a = some ob) (fun _ _ => False) s1
def PushJ (kS : Addr) (J : Nat → Shared → List Value → Prop) : Prop := ∀ i s1 kA h', J i s1 kA → Heap.SameBut kS s1.heap h' → J i { s1 with heap := h' } kA
theorem keyJ_rest {J : Nat → Shared → List Value → Prop} (nk : s.heap.get? kS = some (seqObj "list" #[] 0)) (na : s.heap.get? a = some (seqObj "list" #[] e1)) (hka : kS ≠ a) (hZ : vs.length ≤ sizeLine) (j0 : J 0 s []) (jl : ∀ i s1 kA, J i s1 kA → kA.length = i) (jp : PushJ kS J) (turn : TurnJ prog w A f vs a kS J)
    (done : ∀ s1 kA e, J vs.length s1 kA → s1.heap.get? kS = some (seqObj "list" (List.toArray kA) e) → s1.heap.get? a = some (seqObj "list" #[] e1) → wpAny (model prog w) A (ksk_end a b vs.toArray e1 (.ref kS) (List.toArray kA)) P E s1) :
    wpAny (model prog w) A (ksk_rest a f b vs.toArray e1 (.ref kS)) P E s := by
  unfold ksk_rest
  refine wpAny_bind (wpAny_rule ?_)
  first
    | rw [List.forIn_toArray]
    | (rw [← Array.forIn_toList]; simp only [List.toList_toArray])
  refine wpAny_bind (ksk_fold (fun i s' => ∃ kA e, J i s' kA ∧ s'.heap.get? kS = some (seqObj "list" (List.toArray kA) e) ∧ s'.heap.get? a = some (seqObj "list" #[] e1)) vs 0 s ⟨[], 0, j0, nk, na⟩ ?step ?done)
  case step =>
    rintro j x s' hx ⟨kA, e, jj, nk', na'⟩
    simp only [Nat.zero_add] at jj ⊢
    have hj : j < vs.length := (List.getElem?_eq_some_iff.mp hx).1
    refine wpAny_bind (wpAny_attempt (wpAny_mono (turn j x s' kA hx jj ⟨_, nk'⟩ ⟨_, na'⟩) (fun v s'' he => ?_) fun _ _ hF => hF.elim))
    obtain ⟨j2, hk2, ha2⟩ := he
    try dsimp only
    have nk2 := hk2 _ nk'
    have hz : kA.length ≤ sizeLine := by
      rw [jl _ _ _ jj]
      omega
    have s1 := Heap.SameBut.update s''.heap kS (Obj.mapSeq (·.push v))
    obtain ⟨c2, hc2⟩ : ∃ c2, (s''.heap.update kS (Obj.mapSeq (·.push v))).get? kS = some (seqObj "list" ((List.toArray kA).push v) c2) := ⟨_, get?_update_seq nk2 (·.push v)⟩
    refine wpAny_bind (listUpdate_at nk2 rfl ?_ (by rw [List.size_toArray]; exact hz) (by rw [Array.size_push, List.size_toArray]; omega))
    exact wpAny_pure ⟨rfl, kA ++ [v], c2, jp _ _ _ _ j2 s1, by simpa using hc2, (s1.2 a hka.symm).trans (ha2 _ na')⟩
  case done =>
    rintro s' ⟨kA, e, jj, nk', na'⟩
    rw [Nat.zero_add] at jj
    try dsimp only
    refine wpAny_bind (listItems_at nk' rfl ?_)
    exact done s' kA e jj nk' na'
end
section
variable {prog : Program} {w : World} {A : Around} {s : Shared} {vs : List Value} {E : Value → Shared → Prop} {f : Value} {β : Type} {bs : List β} {R : Value → β → Prop} {k : β → PyData}
theorem sorted_keyJ {l : Addr} {kw : List (Str × Value)} {b : Bool} {Q : Value → Shared → Prop} (hl : s.heap.IsList l vs.toArray) (e : EachIs R vs bs) (hal : PySem.W.AllAlike (bs.map k)) (hk : PySem.W.Sortable (bs.map k)) (hL : vs.length ≤ sizeLine)
    (hu : ∀ x, x ∈ bs → A.units + 2 + (k x).depth < cLine) (ha1 : argsOk "sorted" ⟨[.ref l], kw⟩) (ha2 : ∀ x, argsOk "list.sort" ⟨[.ref x], kw⟩) (ht : ∀ x, Builtin.«list.sort» ⟨[.ref x], kw⟩ = ksk_tree x f b)
    (run : ∀ (a kS : Addr) (h4 : Heap), kS ≠ a → s.heap.objs.size ≤ a → s.heap.objs.size ≤ kS → (∀ b o, s.heap.get? b = some o → h4.get? b = some o) →
      ∃ J : Nat → Shared → List Value → Prop, J 0 { s with heap := h4 } [] ∧ (∀ i s1 kA, J i s1 kA → kA.length = i) ∧ PushJ kS J ∧ TurnJ prog w A.in1.in1 f vs a kS J ∧ (∀ s1 kA, J vs.length s1 kA → EachIs (fun v d => ∃ as, Reads s1.heap v d as) kA (bs.map k)) ∧
        ∀ s1 kA h' tk c out, J vs.length s1 kA → (∀ b o, b ≠ a → b ≠ kS → s1.heap.get? b = some o → h'.get? b = some o) → h'.get? a = some (seqObj "list" (List.toArray out) c) → EachIs R out (bs.mergeSort (PySem.W.dataLe b k)) → Q (.ref a) { s1 with heap := h', toks := tk }) :
    wpAny (model prog w) A (call (.builtin "sorted") [.ref l] kw) Q E s := by
  refine PySem.W.sorted_of_sort hl hL ha1 ha2 fun E' => ?_
  rw [ht]
  have ho : (copyHeap s.heap vs).get? (s.heap.objs.size + 1) = some (seqObj "list" vs.toArray 0) := copyHeap_at s.heap vs
  have ha : s.heap.objs.size + 1 < (copyHeap s.heap vs).objs.size := Heap.lt_size ho
  obtain ⟨e1, ho1⟩ : ∃ e1, ((copyHeap s.heap vs).update (s.heap.objs.size + 1) (Obj.mapSeq fun _ => (#[] : Array Value))).get? (s.heap.objs.size + 1) = some (seqObj "list" #[] e1) := ⟨_, get?_update_seq ho fun _ => #[]⟩
  have hkS : (((copyHeap s.heap vs).update (s.heap.objs.size + 1) (Obj.mapSeq fun _ => (#[] : Array Value))).push (seqObj "tuple" vs.toArray 0)).objs.size = (copyHeap s.heap vs).objs.size + 1 := by rw [size_push', Heap.size_update]
  unfold ksk_tree
  refine wpAny_bind (listItems_at ho rfl ?_)
  refine wpAny_bind (listUpdate_at ho rfl ?_ (by rw [List.size_toArray]; exact hL) (Nat.zero_le _))
  refine wpAny_bind (seqEpoch_at ho1 rfl ?_)
  refine wpAny_bind (wpAny_newTuple ?_ (by show vs.length ≤ _; exact hL))
  refine wpAny_bind (wpAny_newList ?_ (Nat.zero_le _))
  refine wpAny_holding ?_
  have keep : ∀ b o, s.heap.get? b = some o → ((((copyHeap s.heap vs).update (s.heap.objs.size + 1) (Obj.mapSeq fun _ => (#[] : Array Value))).push (seqObj "tuple" vs.toArray 0)).push (seqObj "list" #[] 0)).get? b = some o := fun b o q => by
    refine Heap.get?_push_of_some _ (Heap.get?_push_of_some _ ?_)
    rw [Heap.get?_update_ne _ _ _ _ (Nat.ne_of_lt (Nat.lt_succ_of_lt (Heap.lt_size q)))]
    exact copyHeap_old q
  obtain ⟨J, j0, jl, jp, turn, rd, fin⟩ := run (s.heap.objs.size + 1) (((copyHeap s.heap vs).update (s.heap.objs.size + 1) (Obj.mapSeq fun _ => (#[] : Array Value))).push (seqObj "tuple" vs.toArray 0)).objs.size _ (by rw [hkS]; exact Nat.ne_of_gt (Nat.lt_succ_of_lt ha)) (Nat.le_succ _) (by rw [hkS]; omega) keep
  refine keyJ_rest (s := { s with heap := (((copyHeap s.heap vs).update (s.heap.objs.size + 1) (Obj.mapSeq fun _ => (#[] : Array Value))).push (seqObj "tuple" vs.toArray 0)).push (seqObj "list" #[] 0) }) (J := J) (Heap.get?_push_size _ rfl) (Heap.get?_push_of_some _ (Heap.get?_push_of_some _ ho1))
    (by rw [hkS]; exact Nat.ne_of_gt (Nat.lt_succ_of_lt ha)) hL j0 jl jp turn fun s1 kA e2 jj nk na => ?_
  have hk' := rd s1 kA jj
  have hsz : (List.toArray kA).size = vs.length := by
    rw [List.size_toArray, jl _ _ _ jj]
  obtain ⟨G, g1, g2⟩ := restrict s1.heap (fun b => b != (((copyHeap s.heap vs).update (s.heap.objs.size + 1) (Obj.mapSeq fun _ => (#[] : Array Value))).push (seqObj "tuple" vs.toArray 0)).objs.size)
  refine PySem.W.keyH_end (κ := PySem.W.dataKind s1.heap (bs.map k)) (h₁ := G) (fun b o _ q => ?_) (g2 _ (by simp)) nk na (by rw [hkS]; exact Nat.ne_of_gt (Nat.lt_succ_of_lt ha)) (PySem.W.SortsAt.data (s := s1) (by simpa using hk') hal hk (PySem.W.bound_map (A := A.in1.in1) hu)) hsz hL fun h3 tk3 c kp n3 => ⟨rfl, ?_⟩
  · by_cases hb : b = (((copyHeap s.heap vs).update (s.heap.objs.size + 1) (Obj.mapSeq fun _ => (#[] : Array Value))).push (seqObj "tuple" vs.toArray 0)).objs.size
    · rw [hb, g2 _ (by simp)] at q; cases q
    · rw [g1 b (by simpa using hb)] at q
      exact q
  · refine fin s1 kA h3 tk3 c _ jj (fun b o hb hb2 q => kp b o hb ?_) n3 (PySem.W.keyedOut_each k ⟨s1.heap, kA, hal, by simp, hk'⟩ e)
    rw [g1 b (by simpa using hb2)]
    exact q
end
mutual
theorem toPy_depth : ∀ d : D, dp d ≤ 64 → (toPy d).depth = dp d
  | .non, _ => by simp [toPy, PyData.depth, dp]
  | .bl _, _ => by simp [toPy, PyData.depth, dp]
  | .int _, _ => by simp [toPy, PyData.depth, dp]
  | .str _, _ => by simp [toPy, PyData.depth, dp]
  | .tup xs, h => by
    simp only [dp] at h
    simp only [toPy, PyData.depth, dp]
    rw [toPys_depth xs (by omega)]
  | .lst xs, h => by
    simp only [dp] at h
    simp only [toPy, PyData.depth, dp]
    rw [toPys_depth xs (by omega)]
  | .dct _, h => by simp [dp] at h
  | .scr _, h => by simp [dp] at h
  | .err _ _, h => by simp [dp] at h
theorem toPys_depth : ∀ ds : List D, dps ds ≤ 64 → PyData.depthAll (toPys ds) = dps ds
  | [], _ => by simp [toPys, PyData.depthAll, dps]
  | d :: ds, h => by
    simp only [dps] at h
    simp only [toPys, PyData.depthAll, dps]
    rw [toPy_depth d (by omega), toPys_depth ds (by omega)]
end
theorem each_mapD {α β γ : Type} {R : α → γ → Prop} (g : β → γ) : ∀ {as : List α} {bs : List β}, EachIs (fun a b => R a (g b)) as bs → EachIs R as (bs.map g)
  | _, _, .nil => .nil
  | _, _, .cons h t => .cons h (each_mapD g t)
/-- the keys -/
def keysF (fn : Fn) : List D → Option (List D)
  | [] => some []
  | d :: ds => match fn [.fz d] with
    | .ok (.fro k) _ => (keysF fn ds).map (k :: ·)
    | _ => none
theorem keysF_get {fn : Fn} : ∀ {ds ks : List D}, keysF fn ds = some ks → ks.length = ds.length ∧ ∀ (i : Nat) d, ds[i]? = some d → ∃ k outs, fn [.fz d] = .ok (.fro k) outs ∧ ks[i]? = some k
  | [], _, h => by cases h; exact ⟨rfl, fun i d q => by simp at q⟩
  | d :: ds, ks, h => by
    unfold keysF at h
    split at h
    · rename_i k outs e
      cases h2 : keysF fn ds with
      | none => rw [h2] at h; cases h
      | some ks' =>
        rw [h2] at h; cases h
        obtain ⟨h3, h4⟩ := keysF_get h2
        refine ⟨by simp [h3], fun i d' q => ?_⟩
        cases i with
        | zero => simp at q; subst q; exact ⟨k, outs, e, rfl⟩
        | succ i => exact h4 i d' (by simpa using q)
    · cases h
def leK (a b : D × D) : Bool := leD a.2 b.2
def srtK (ds ks : List D) : List D := ((ds.zip ks).mergeSort leK).map (·.1)
theorem leK_eq : PySem.W.dataLe false (fun p : D × D => toPy p.2) = leK := by
  rw [PySem.W.dataLe_eq]
  rfl
abbrev noB : Addr → Prop := fun _ => False
section
variable {X : Cx} {c : XC} {W : WX} {pos : Pos}
def rSortK (X : Cx) (fa : Addr) (fn : Fn) : List V → List V → Hp → VK → Prop := fun vs zs H Q => ∃ F a items ds ks, vs = [.ref a] ∧ zs = [.ref fa] ∧ SqL X.K H a items ∧ Sub F H ∧ RepL X.w X.K F items ds ∧ keysF fn ds = some ks ∧ srtB ks = true ∧
  ∀ F' H' l us, Sub F' H' → Fr F H noB F' H' noB → H' l = none → H l = none → RepL X.w X.K F' us (srtK ds ks) → Q (.ref l) (upd H' l (.lst us))
theorem RepL.zipE {w : World} {K : PySem.W.Frag} {F : Hp} : ∀ {ds ks : List D} {vs : List V} {us : List Value}, RepL w K F vs ds → Vals vs us → ks.length = ds.length → EachIs (fun u (p : D × D) => ∃ v, RelV v u ∧ Rep w K F v p.1) us (ds.zip ks)
  | [], _, _, _, r, t, _ => by cases r; cases t; exact .nil
  | d :: ds, [], _, _, r, t, h => by simp at h
  | d :: ds, k :: ks, _, _, r, t, h => by
    cases r with
    | cons a b => cases t with | cons e f => exact .cons ⟨_, e, a⟩ (RepL.zipE b f (by simpa using h))
theorem vals_snoc : ∀ {vs : List V} {us : List Value} {v : V} {u : Value}, Vals vs us → RelV v u → Vals (vs ++ [v]) (us ++ [u])
  | _, _, _, _, .nil, r => .cons r .nil
  | _, _, _, _, .cons a t, r => .cons a (vals_snoc t r)
theorem cr_sortK {CXp : CXT} {j : Nat} {fa : Addr} {fd : FuncData} {ps : List Str} {fn : Fn} (Fk : FnOk X.prog X.w X.K X.mg X.base CXp j fa fd ps (spD X.w X.K c fn 1)) (hr : Room (j + 2) X.A) (hb : Binds X.K fd ps []) (hps : ps.length = 1)
    (nx : ∀ outer H s e s', ¬ CXp outer H s (fun _ _ _ => False) e s') (hu : X.A.units + 65 < cLine) : CallRK X (.builtin "sorted") [Str.ofString "key"] (rSortK X fa fn) := by
  intro pins s σ H xs zs us ws Q I r rz h
  obtain ⟨F, a, items, ds, ks, rfl, rfl, hs, sb, rp, hk, ok, q⟩ := h
  obtain rfl := Vals.ref1 r
  obtain ⟨w1, rfl, ew⟩ := vals1 rz
  obtain rfl : w1 = Value.ref fa := ew
  obtain ⟨its, rv, hl, hz⟩ := I.list hs
  obtain ⟨kl, kg⟩ := keysF_get hk
  unfold srtB at ok
  rw [Bool.and_eq_true, List.all_eq_true] at ok
  have dpo : ∀ d ∈ ks, dp d ≤ 60 := fun d hd => of_decide_eq_true (ok.2 d hd)
  have hlen : items.length = ds.length := rp.length
  have hil : its.length = ds.length := by rw [← rv.length, hlen]
  have hmap : (ds.zip ks).map (fun p : D × D => toPy p.2) = ks.map toPy := by
    rw [show (fun p : D × D => toPy p.2) = toPy ∘ Prod.snd from rfl, ← List.map_map, List.map_snd_zip (by omega)]
  have e1 := RepL.zipE (ks := ks) rp rv kl
  have nof : ∀ b, s.heap.objs.size ≤ b → b ∉ frs X.stack := fun b hb hm => by
    obtain ⟨_, o', e', _⟩ := I.stack.mem hm
    exact absurd (Nat.lt_of_lt_of_le (Heap.lt_size e') hb) (Nat.lt_irrefl _)
  have hbad : ∀ b, s.heap.objs.size ≤ b → ∀ o, s.heap.get? b ≠ some o := fun b hb o e => absurd (Nat.lt_of_lt_of_le (Heap.lt_size e) hb) (Nat.lt_irrefl _)
  refine sorted_keyJ (b := false) (f := .ref fa) (k := fun p : D × D => toPy p.2) hl.isList e1 (by rw [hmap]; exact srtP_alike ok.1) (by rw [hmap]; exact srtP_sort ok.1) (by rw [← rv.length]; exact hz) (fun p hp => ?_) (ksk_s1 _ _) (fun _ => ksk_l1 _ _) (fun _ => ksk_t1 _ _) fun a' kS h4 hka hga hgk keep4 => ?_
  · have hp2 : p.2 ∈ ks := (List.of_mem_zip (show (p.1, p.2) ∈ _ from hp)).2
    have := dpo _ hp2
    rw [toPy_depth p.2 (by omega)]
    omega
  · refine ⟨fun i s1 kA => ∃ Fi Hi kvs, kA.length = i ∧ s1.os = s.os ∧ AllBare s1.gens ∧ Un (frs X.stack) [] H Hi s.heap s1.heap ∧ HOk X.prog X.w Hi s1.heap ∧ Sub Fi Hi ∧ Fr F H noB Fi Hi noB ∧ Hi a' = none ∧ Hi kS = none ∧ Vals kvs kA ∧ RepL X.w X.K Fi kvs (ks.take i), ?j0, ?jl, ?jp, ?turn, ?rd, ?fin⟩
    case j0 => exact ⟨F, H, [], rfl, rfl, I.bare, Un.kept keep4, I.hok.kept keep4, sb, Fr.refl, I.hok.fresh hga, I.hok.fresh hgk, .nil, by rw [List.take_zero]; exact .nil⟩
    case jl => exact fun i s1 kA ⟨_, _, _, h, _⟩ => h
    case jp =>
      rintro i s1 kA h' ⟨Fi, Hi, kvs, hkl, hos, hbr, un, hok, sbi, fr, ha, hkS, vk, rk⟩ hsb
      refine ⟨Fi, Hi, kvs, hkl, hos, hbr, ⟨fun b o e n hf hx => ?_, fun b o e n hf hx => ?_, un.free, fun b o e hx => ?_, un.tups, un.frzs, un.tbls⟩, fun b u e => ?_, sbi, fr, ha, hkS, vk, rk⟩
      · exact (hsb.2 b fun z => hbad kS hgk o (z ▸ e)).trans (un.keep b o e n hf hx)
      · obtain ⟨sl, e2⟩ := un.slot b o e n hf hx
        exact ⟨sl, (hsb.2 b fun z => hbad kS hgk o (z ▸ e)).trans e2⟩
      · obtain ⟨o', e2⟩ := un.there b o e hx
        exact ⟨o', (hsb.2 b fun z => hbad kS hgk o (z ▸ e)).trans e2⟩
      · refine (hok b u e).stay (fun c' w' hc q => (hsb.2 c' ?_).trans q) (fun _ q => q) fun _ _ q => q
        intro z
        subst z
        rcases hc with hc | hc
        · rw [← hc, hkS] at e; cases e
        · rw [hkS] at hc; cases hc
    case turn =>
      rintro i v s1 kA hv ⟨Fi, Hi, kvs, hkl, hos, hbr, un, hok, sbi, fr, ha, hkS, vk, rk⟩ ⟨ok', hok'⟩ ⟨oa, hoa⟩
      have I1 : Inv X pins σ Hi s1 := I.call' hos un hok hbr (fun b z => absurd z (by simp))
      obtain ⟨hi, _⟩ := List.getElem?_eq_some_iff.mp hv
      obtain ⟨d, hd⟩ : ∃ d, ds[i]? = some d := ⟨_, List.getElem?_eq_getElem (by omega)⟩
      obtain ⟨k, outs, ef, ek⟩ := kg i d hd
      obtain ⟨x, hx, rx⟩ := rp.get hd
      have rxv : RelV x v := by
        obtain ⟨u, h1, h2⟩ := rv.get hx
        rw [h1] at hv; cases hv
        exact h2
      have S0 : StR X.w X.K Fi Hi ([x].map some) [Sl.fz d] := by
        refine ⟨sbi, rfl, fun i sl e t => ?_, fun i j si sj b ei ej ti tj _ _ => ?_⟩
        · cases i with
          | zero => cases e; exact ⟨_, rfl, rx.mono fr.mono⟩
          | succ i => cases e
        · cases i with
          | zero => cases ei; cases ti
          | succ i => cases ei
      have own0 : ∀ b, ownS ([x].map some) [Sl.fz d] b → False := fun b ⟨i, sl, e, t, _⟩ => by
        cases i with
        | zero => cases e; cases t
        | succ i => cases e
      have bnd := hb s1 [v] I1.kIn (by rw [List.append_nil, hps]; rfl)
      rw [List.append_nil] at bnd
      refine wpAny_call (codeAny_mono (Fk.run X.A.in1.in1 X.stack s1 Hi ⟨[v], []⟩ [v] [x] (fun v' H' => ∃ F', Sub F' H' ∧ Fr Fi Hi noB F' H' noB ∧ Rep X.w X.K F' v' k) (fun _ _ _ => False) (Room.in1 (Room.in1 hr)) (I1.env0.in1.in1) bnd (.cons rxv .nil) ⟨rfl, Fi, [.fz d], S0, fun sl h => by rw [List.mem_singleton.mp h]; rfl, ?_⟩) fun r s' hq => ?_)
      · rw [ef]
        exact fun v' F' H' st er f => ⟨F', st.sub, ⟨fun b u e n => f.keep b u e (fun z => own0 b z), fun b z => z.elim, fun b u e => (f.frz b u e).imp_right fun z => z.imp_left fun z => own0 b z, f.mono⟩, er⟩
      · cases r with
        | error e => exact nx _ _ _ _ _ hq
        | ok fl =>
          cases fl with
          | ret u =>
            obtain ⟨v', H', os2, br2, un2, hok2, rv2, F', sb2, fr2, rk2⟩ := hq
            have ek2 : ks.take (i + 1) = ks.take i ++ [k] := by rw [List.take_add_one, ek]; rfl
            refine ⟨⟨F', H', kvs ++ [v'], by simp [hkl], os2.trans hos, br2, un.trans un2, hok2, sb2, fr.trans fr2 (fun _ z => z), un2.free _ _ hoa ha (by simp), un2.free _ _ hok' hkS (by simp), vals_snoc vk rv2, ?_⟩, fun ob e => un2.keep _ _ e hkS (nof _ hgk) (by simp), fun ob e => un2.keep _ _ e ha (nof _ hga) (by simp)⟩
            rw [ek2]
            exact (rk.mono fr2.mono).append (.cons rk2 .nil)
          | next => exact False.elim hq
          | brk => exact False.elim hq
          | cont => exact False.elim hq
    case rd =>
      rintro s1 kA ⟨Fi, Hi, kvs, hkl, hos, hbr, un, hok, sbi, fr, ha, hkS, vk, rk⟩
      have I1 : Inv X pins σ Hi s1 := I.call' hos un hok hbr (fun b z => absurd z (by simp))
      rw [List.take_of_length_le (by omega)] at rk
      rw [hmap]
      refine PySem.W.each_map (R := fun v d => ∃ as, Reads s1.heap v d as) toPy ?_
      exact (PySem.W.each_mem (rk.each (R := fun u d => ∃ v, RelV v u ∧ Rep X.w X.K Fi v d) (fun v u d a b => ⟨v, a, b⟩) vk)).mono fun u d ⟨⟨v, h1, h2⟩, hd⟩ =>
        Dp.reads I1 (toPy d) v u ((h2.mono sbi).dp (by have := dpo d hd; omega)) h1
    case fin =>
      rintro s1 kA h' tk c' out ⟨Fi, Hi, kvs, hkl, hos, hbr, un, hok, sbi, fr, ha, hkS, vk, rk⟩ kp n3 eo
      rw [leK_eq] at eo
      have eo2 : EachIs (fun u d => ∃ v, RelV v u ∧ Rep X.w X.K F v d) out (srtK ds ks) := each_mapD (fun p : D × D => p.1) eo
      obtain ⟨us2, h1, h2⟩ := RepL.uneach eo2
      have hl2 : us2.length ≤ sizeLine := by
        have : us2.length = (srtK ds ks).length := h2.length
        rw [this]
        unfold srtK
        rw [List.length_map, List.length_mergeSort, List.length_zip]
        rw [hlen] at hz
        omega
      have keepH : HOk X.prog X.w Hi h' := fun b u e => by
        refine (hok b u e).stay (fun c2 w' hc q => kp c2 w' ?_ ?_ q) (fun _ q => q) fun _ _ q => q
        · intro z
          subst z
          rcases hc with hc | hc
          · rw [← hc, ha] at e; cases e
          · rw [ha] at hc; cases hc
        · intro z
          subst z
          rcases hc with hc | hc
          · rw [← hc, hkS] at e; cases e
          · rw [hkS] at hc; cases hc
      have hok3 : HOk X.prog X.w (upd Hi a' (.lst us2)) h' := keepH.laidN (fun _ _ q => q) ha ⟨hl2, out, c', h1, n3⟩
      have lt : ∀ b o, s.heap.get? b = some o → b ≠ a' ∧ b ≠ kS := fun b o e => ⟨fun z => hbad a' hga o (z ▸ e), fun z => hbad kS hgk o (z ▸ e)⟩
      have ltH : ∀ b u, H b = some u → b ≠ a' := fun b u e z => absurd (Nat.lt_of_lt_of_le (I.hok.lt e) (z ▸ hga)) (Nat.lt_irrefl _)
      have un3 : Un (frs X.stack) [] H (upd Hi a' (.lst us2)) s.heap h' := by
        refine ⟨fun b o e n hf hx => ?_, fun b o e n hf hx => ?_, fun b o e n hx => ?_, fun b o e hx => ?_, fun b xs e => ?_, fun b o u e => ?_, fun b ps e => ?_⟩
        · exact kp b o (lt b o e).1 (lt b o e).2 (un.keep b o e n hf hx)
        · obtain ⟨sl, e2⟩ := un.slot b o e n hf hx
          exact ⟨sl, kp b _ (lt b o e).1 (lt b o e).2 e2⟩
        · rw [upd_ne (lt b o e).1]
          exact un.free b o e n hx
        · obtain ⟨o', e2⟩ := un.there b o e hx
          exact ⟨o', kp b _ (lt b o e).1 (lt b o e).2 e2⟩
        · rw [upd_ne (ltH b _ e)]; exact un.tups b xs e
        · rw [upd_ne (ltH b _ e)]; exact un.frzs b o u e
        · rw [upd_ne (ltH b _ e)]; exact un.tbls b ps e
      exact ⟨.ref a', _, I.call' (s' := { s1 with heap := h', toks := tk }) hos un3 hok3 hbr (fun b z => absurd z (by simp)), rfl, q Fi Hi a' us2 sbi fr ha (I.hok.fresh hga) (h2.mono fr.mono)⟩
def outK (fn : Fn) (ρ : Env) : List D → Out R
  | [.lst ds] => match keysF fn ds with
    | some ks => if srtB ks = true then .ok (.tmp (.lst (srtK ds ks))) ρ else .bad
    | none => .bad
  | _ => .bad
theorem outK_or (fn : Fn) (ρ : Env) (ds : List D) : outK fn ρ ds = .bad ∨ ∃ r, outK fn ρ ds = .ok r ρ := by
  unfold outK
  split
  · split
    · split
      · exact .inr ⟨_, rfl⟩
      · exact .inl rfl
    · exact .inl rfl
  · exact .inl rfl
def eSortK (fn : Fn) (f : SemL) : SemE := fun ρ => (f ρ).bind fun rs ρ1 => outK fn ρ1 (rs.map (val ρ1))
end
end WS
/-! Wze: sorted(.., key=def) as an expression; < of data; text.index(sign); statements never reached; a, b = e. -/
namespace WS
open PySem L2
section
variable {X : Cx} {c : XC} {W : WX} {pos : Pos}
theorem okE_sortK {fn : Fn} {f : SemL} (h : okE f) : okE (eSortK fn f) := okE_bind h fun rs ρ => by
  rcases outK_or fn ρ (rs.map (val ρ)) with e | ⟨r, e⟩
  · rw [e]; trivial
  · rw [e]; exact LkE.refl ρ
theorem nx_L2 {P : Program} {w : World} : ∀ outer H s e s', ¬ L2.CX P w outer H s (fun _ _ _ => False) e s' := fun _ _ _ _ _ ⟨_, _, _, _, _, _, _, _, _, _, _, _, z⟩ => z
theorem tl_sortK {fn : Fn} {fa : Addr} {f : SemL} {σ : St} {H : Hp} {Q : VK} (h : TD X.w X.K c W (eSortK fn f) σ H Q) : TL X.w X.K c W f σ H fun vs H1 => rSortK X fa fn vs [.ref fa] H1 Q := by
  obtain ⟨F, ρ, S, h⟩ := h
  refine ⟨F, ρ, S, ?_⟩
  unfold eSortK at h
  cases e : f ρ with
  | bad => rw [e] at h; exact h
  | exn x ρ1 => rw [e] at h; exact h
  | ok rs ρ1 =>
    rw [e] at h
    intro vs F1 H1 S1 r1 f1
    have h := Post.step (out := outK fn ρ1 (rs.map (val ρ1))) f1 (fun b z => .inl z) h
    have tops := r1.tops S1
    generalize rs.map (val ρ1) = ds0 at h tops
    unfold outK at h
    split at h
    · rename_i ds
      obtain ⟨v, rfl, tv⟩ := vals_one tops rfl
      obtain ⟨a, us, rfl, h1, h2⟩ := tv.lst S1.sub
      split at h
      · rename_i ks hk
        by_cases hs : srtB ks = true
        · rw [if_pos hs] at h
          refine ⟨F1, a, us, ds, ks, rfl, rfl, .of h1, S1.sub, h2, hk, hs, fun F' H' l us' sb fr n n1 r => ?_⟩
          have nF := sb.fresh n
          have no : ¬ ownS σ ρ1 l := fun z => by obtain ⟨o, q⟩ := S1.ownThere z; rw [n1] at q; cases q
          have kp : ∀ b u, H1 b = some u → (upd H' l (.lst us')) b = some u := fun b u e => by
            rw [upd_ne (ne_of_none e n1)]
            exact fr.keep b u e fun z => z
          refine h (.ref l) F' (upd H' l (.lst us')) (S1.new (sb.new n) fr.mono kp fun b z => ?_) ⟨l, rfl, nF, ⟨us', upd_same, r⟩, no⟩ ⟨fun b u e _ => kp b u e, fun b z => ?_, fun b u e => ?_, fr.mono⟩
          · cases q : F' b with
            | none => exact .inl rfl
            | some u =>
              rcases fr.frz b u q with y | y | y
              · rw [z] at y; cases y
              · exact y.elim
              · exact .inr y
          · rcases z with z | ⟨d, z, e⟩
            · exact .inl z
            · cases e; exact .inr n1
          · rcases fr.frz b u e with y | y | y
            · exact .inl y
            · exact y.elim
            · exact .inr (.inr y)
        · rw [if_neg hs] at h; exact False.elim h
      · exact False.elim h
    · exact False.elim h
theorem se_sortK {CXp : CXT} {j : Nat} {fa : Addr} {fd : FuncData} {ps : List Str} {fn : Fn} {p pk kp : Pos} {xf : Str} {e : Expr} {f : SemL} (Fk : FnOk X.prog X.w X.K X.mg X.base CXp j fa fd ps (spD X.w X.K c fn 1)) (hr : Room (j + 2) X.A) (hb : Binds X.K fd ps []) (hps : ps.length = 1)
    (nx : ∀ outer H s e s', ¬ CXp outer H s (fun _ _ _ => False) e s') (hu : X.A.units + 65 < cLine) (hg : Gl X "sorted") (hm : X.mg "sorted" = none) (hgf : Gl X xf) (hmf : X.mg xf = some (.ref fa)) (hdf : (xf == ("__debug__" : Str)) = false) (ha : SA X c W [e] f)
    (he : backTo pos (starEach [e] X.env) = [(false, eval e X.env)]) (hpl : (backTo pos (starEach [e] X.env)).any (·.1) = false)
    (hall : (backToKw pos (keywordEach [⟨some "key", .Name xf pk, kp⟩] X.env)).all (·.1.isSome) = true) (hnone : (backToKw pos (keywordEach [⟨some "key", .Name xf pk, kp⟩] X.env)).any (·.1.isNone) = false) (hks : (backToKw pos (keywordEach [⟨some "key", .Name xf pk, kp⟩] X.env)).filterMap (·.1) = [Str.ofString "key"]) :
    SE X c W (.Call (.Name "sorted" p) [e] [⟨some "key", .Name xf pk, kp⟩] pos) (eSortK fn f) :=
  ⟨PE.imp (pe_callBK (cr_sortK Fk hr hb hps nx hu) hg hm (by decide +kernel) ha.pa (pk_cons (pe_glob (v := .ref fa) hgf hmf rfl hdf) pk_nil) (by decide) rfl he hpl hall hnone hks) fun σ H Q h => tl_sortK h, okE_sortK ha.ok⟩

/-! ### < of data -/
def gLtD (d e : D) : Option PR := match d, e with
  | .tup xs, .tup ys => if (PySem.W.alike (toPy (.tup xs)) (toPy (.tup ys)) && decide (dp (.tup xs) ≤ 60) && decide (dp (.tup ys) ≤ 60)) = true then some (.sc (.bl (ltD (.tup xs) (.tup ys)))) else none
  | _, _ => none
def rLtD (X : Cx) : R2 := fun x y H Q => ∃ F xs ys, Sub F H ∧ Rep X.w X.K F x (.tup xs) ∧ Rep X.w X.K F y (.tup ys) ∧ PySem.W.alike (toPy (.tup xs)) (toPy (.tup ys)) = true ∧ dp (.tup xs) ≤ 60 ∧ dp (.tup ys) ≤ 60 ∧ Q (.bl (ltD (.tup xs) (.tup ys))) H
theorem op_ltD (hu : X.A.units + 65 < cLine) : OpR X (compareOp .Lt) (rLtD X) := by
  intro pins s σ H x y v u Q I rx ry h
  obtain ⟨F, xs, ys, sb, r1, r2, al, l1, l2, q⟩ := h
  obtain ⟨as, h1⟩ := Dp.reads I _ x v ((r1.mono sb).dp (by omega)) rx
  obtain ⟨bs, h2⟩ := Dp.reads I _ y u ((r2.mono sb).dp (by omega)) ry
  refine PySem.W.rcLt_alike _ _ X.A s v u as bs h1 h2 al (by simp [toPy]) ?_ X.prog X.w X.xe _ ⟨.bl _, H, I, rfl, q⟩
  rw [toPy_depth _ (by omega), toPy_depth _ (by omega)]
  omega
theorem opG_ltD (hu : X.A.units + 65 < cLine) : OpG X (compareOp .Lt) gLtD := by
  refine ⟨_, op_ltD hu, fun F H x y d e p Q s t1 t2 h q => ?_⟩
  unfold gLtD at h
  split at h
  · rename_i xs ys
    split at h
    · rename_i hc
      cases h
      rw [Bool.and_eq_true, Bool.and_eq_true, decide_eq_true_iff, decide_eq_true_iff] at hc
      exact ⟨H, xs, ys, Sub.refl _, t1.rep s, t2.rep s, hc.1.1, hc.1.2, hc.2, q _ (.bl _)⟩
    · cases h
  · cases h

/-! ### statements that are never reached -/
theorem ss_never {s : Stmt} : SS X c W s (fun _ => .bad) := ⟨PS.imp ps_never fun D σ H ⟨F, ρ, S, q⟩ => q, fun ρ => trivial⟩

/-! ### a, b = e -/
def sAsg (tg : Tgt) (f : SemE) : SemS := fun ρ => (f ρ).sbind fun r ρ1 => (frz ρ1 r).sbind fun d ρ2 => match tg d ρ2 with
  | some ρ3 => .nx ρ3
  | none => .bad
theorem okT_asg {f : SemE} {tg : Tgt} (h : okE f) (hg : ∀ d ρ ρ', tg d ρ = some ρ' → LkT ρ ρ') : okT (sAsg tg f) := okT_sbind h fun r => okT_sbind (okE_frz r) fun d ρ => by
  show LkS ρ (match tg d ρ with | some ρ3 => .nx ρ3 | none => .bad)
  cases e : tg d ρ with
  | none => trivial
  | some ρ3 => exact hg d ρ ρ3 e
theorem ss_asg {tgt e : Expr} {tg : Tgt} {is : List Nat} {f : SemE} (h : SE X c W e f) (hg : SG X tgt tg is) (hs : swapsWithSole [tgt] e pos.line X.env = pure false) (hw : swappedStores [tgt] e X.env = pure none) (h1 : (assignEach [tgt] X.env).map (·.2) = [assign tgt X.env]) :
    SS X c W (.Assign [tgt] e pos) (sAsg tg f) := by
  refine ⟨PS.imp (ps_asg h.pe hg.pg hs hw h1) fun D σ H ⟨F, ρ, S, q⟩ => ?_, okT_asg h.ok hg.lk⟩
  refine ts_bind h.ok S q fun v r ρ1 F1 H1 S1 e1 f1 l h2 => ?_
  cases ef : frz ρ1 r with
  | bad => rw [ef] at h2; exact False.elim h2
  | exn x ρ2 =>
    exfalso
    unfold frz at ef
    cases r with
    | fro d => cases ef
    | tmp d => cases ef
    | «at» j =>
      simp only at ef
      split at ef <;> cases ef
  | ok d ρ2 =>
    rw [ef] at h2
    obtain ⟨F2, f2, q2⟩ := frz_one S1 e1 ef
    have h2 : PostS X.w X.K c W σ F H ρ (match tg d ρ2 with | some ρ3 => .nx ρ3 | none => .bad) D := h2
    cases et : tg d ρ2 with
    | none => rw [et] at h2; exact False.elim h2
    | some ρ3 =>
      rw [et] at h2
      refine ⟨F2, ρ2, ρ3, d, f2.st, q2, et, fun σ' S' ls own len _ => h2 σ' F2 H1 S' (LS.trans (fun _ _ _ _ => rfl) (Lk.slT (LkE.trans l f2.lk)) ls) ⟨f1.keep, fun b z => f1.new b (.inl (f2.own b (own b z))), fun b u z => ?_, f1.mono.trans f2.mono⟩⟩
      rcases f2.frz b u z with z | ⟨z1, z2⟩
      · exact f1.frz b u z
      · refine .inr (f1.new b ?_)
        rcases z2 with z2 | ⟨d2, z2⟩
        · exact .inl z2
        · exact .inr ⟨d2, z2, z1⟩
end
/-! ### text.index(sign) -/
section
open StrLaws Builtin Builtin.Str
theorem occ_idx {s : List Nat} {x : Nat} (h : x ∈ s) : occurrences (mkS s) (mkS [x]) 0 (mkS s).length 1 = [s.idxOf x] := by
  have reads : ∀ i, At (mkS s) (mkS [x]) (mkS s).length i ↔ s[i]? = some x := fun i => subAt_one (mkS s) x i
  have lt : s.idxOf x < s.length := List.idxOf_lt_length_of_mem h
  have first : s[s.idxOf x]? = some x := by rw [List.getElem?_eq_getElem lt, List.getElem_idxOf]
  rcases occ_head (mkS s) (mkS [x]) 1 (Nat.le_refl 1) with ⟨_, no⟩ | ⟨i, r, e, yes, before⟩
  · exact absurd ((reads _).mpr first) (no _)
  · have le := occ_length_le (mkS s) (mkS [x]) 0 (mkS s).length 1
    have is : s[i]? = some x := (reads i).mp yes
    have : i = s.idxOf x := by
      rcases Nat.lt_trichotomy i (s.idxOf x) with z | z | z
      · obtain ⟨_, z2⟩ := List.getElem?_eq_some_iff.mp is
        have not_yet : (s[i] == x) = false := List.not_of_lt_findIdx (p := (· == x)) z
        rw [z2, beq_self_eq_true] at not_yet
        exact absurd not_yet (by decide)
      · exact z
      · exact absurd ((reads _).mpr first) (before _ z)
    rw [e] at le ⊢
    cases r with
    | nil => rw [this]
    | cons _ _ => simp at le
end
def gIndexS : D → List D → Option PR
  | .str s, [.str [x]] => if x ∈ s then some (.sc (.int (s.idxOf x))) else none
  | _, _ => none
section
variable {X : Cx}
theorem met_indexS : MetG X "str.index" gIndexS := by
  refine ⟨_, mt_sindex, fun F H x vs d ds p Q s t ts e q => ?_⟩
  unfold gIndexS at e
  split at e
  · rename_i z y
    obtain ⟨v, rfl, tv⟩ := vals_one ts rfl
    obtain ⟨ex, ok, _⟩ := t.str
    obtain ⟨ey, _, _⟩ := tv.str
    split at e
    · rename_i hm
      cases e
      exact ⟨mkS z, mkS [y], z.idxOf y, [], ex, by rw [ey], occ_idx hm, q _ (.int _)⟩
    · cases e
  · cases e
end
end WS
/-! Wzf: what is wanted of a meaning, backwards: calls by their promise, loops by an invariant. -/
namespace WS
open PySem L2

abbrev XQ := Ex → Env → Prop
def noX : XQ := fun _ _ => False
def wE {α : Type} (o : Out α) (Q : α → Env → Prop) (X : XQ) : Prop := match o with
  | .ok a ρ => Q a ρ
  | .exn x ρ => X x ρ
  | .bad => False
def wS (o : SOut) (N : Env → Prop) (T : R → Env → Prop) (B C : Env → Prop) (X : XQ) : Prop := match o with
  | .nx ρ => N ρ
  | .rt r ρ => T r ρ
  | .bk ρ => B ρ
  | .ct ρ => C ρ
  | .exn x ρ => X x ρ
  | .bad => False
def wF (o : FOut) (Q : R → List Sl → Prop) (X : Ex → List Sl → Prop) : Prop := match o with
  | .ok r os => Q r os
  | .exn x os => X x os
  | .bad => False
def no0 : Env → Prop := fun _ => False
def noF : Ex → List Sl → Prop := fun _ _ => False
section
variable {α β : Type} {N B C : Env → Prop} {T : R → Env → Prop} {X : XQ} {ρ : Env}
theorem w_ok (a : α) (ρ : Env) (Q : α → Env → Prop) (X : XQ) : wE (.ok a ρ) Q X = Q a ρ := rfl
theorem w_exn (x : Ex) (ρ : Env) (Q : α → Env → Prop) (X : XQ) : wE (.exn x ρ) Q X = X x ρ := rfl
def wK (k : α → Env → Out β) (Q : β → Env → Prop) (X : XQ) : α → Env → Prop := fun a ρ => wE (k a ρ) Q X
theorem w_K (k : α → Env → Out β) (Q : β → Env → Prop) (X : XQ) (a : α) (ρ : Env) : wK k Q X a ρ = wE (k a ρ) Q X := rfl
theorem w_bind (o : Out α) (k : α → Env → Out β) (Q : β → Env → Prop) (X : XQ) : wE (o.bind k) Q X = wE o (wK k Q X) X := by cases o <;> rfl
def wKS (k : α → Env → SOut) (N : Env → Prop) (T : R → Env → Prop) (B C : Env → Prop) (X : XQ) : α → Env → Prop := fun a ρ => wS (k a ρ) N T B C X
theorem w_KS (k : α → Env → SOut) (N : Env → Prop) (T : R → Env → Prop) (B C : Env → Prop) (X : XQ) (a : α) (ρ : Env) : wKS k N T B C X a ρ = wS (k a ρ) N T B C X := rfl
theorem w_sbind (o : Out α) (k : α → Env → SOut) (N : Env → Prop) (T : R → Env → Prop) (B C : Env → Prop) (X : XQ) : wS (o.sbind k) N T B C X = wE o (wKS k N T B C X) X := by cases o <;> rfl
theorem w_nx (ρ : Env) (N : Env → Prop) (T : R → Env → Prop) (B C : Env → Prop) (X : XQ) : wS (.nx ρ) N T B C X = N ρ := rfl
theorem w_rt (r : R) (ρ : Env) (N : Env → Prop) (T : R → Env → Prop) (B C : Env → Prop) (X : XQ) : wS (.rt r ρ) N T B C X = T r ρ := rfl
theorem w_bk (ρ : Env) (N : Env → Prop) (T : R → Env → Prop) (B C : Env → Prop) (X : XQ) : wS (.bk ρ) N T B C X = B ρ := rfl
theorem w_ct (ρ : Env) (N : Env → Prop) (T : R → Env → Prop) (B C : Env → Prop) (X : XQ) : wS (.ct ρ) N T B C X = C ρ := rfl
theorem w_sx (x : Ex) (ρ : Env) (N : Env → Prop) (T : R → Env → Prop) (B C : Env → Prop) (X : XQ) : wS (.exn x ρ) N T B C X = X x ρ := rfl
def wKT (g : SemS) (N : Env → Prop) (T : R → Env → Prop) (B C : Env → Prop) (X : XQ) : Env → Prop := fun ρ => wS (g ρ) N T B C X
theorem w_KT (g : SemS) (N : Env → Prop) (T : R → Env → Prop) (B C : Env → Prop) (X : XQ) (ρ : Env) : wKT g N T B C X ρ = wS (g ρ) N T B C X := rfl
theorem w_then (o : SOut) (g : SemS) (N : Env → Prop) (T : R → Env → Prop) (B C : Env → Prop) (X : XQ) : wS (o.then g) N T B C X = wS o (wKT g N T B C X) T B C X := by cases o <;> rfl
theorem w_turn (o : SOut) (u : Env → Env) (g : SemS) (N : Env → Prop) (T : R → Env → Prop) (B C : Env → Prop) (X : XQ) : wS (o.turn u g) N T B C X = wS o (wKT g N T B C X) (fun r ρ => T r (u ρ)) (fun ρ => N (u ρ)) (wKT g N T B C X) (fun x ρ => X x (u ρ)) := by cases o <;> rfl
/-- what stands behind a piece, once for all its ways -/
theorem cut_s {o : SOut} (M : Env → Prop) (h : wS o M T B C X) (k : ∀ ρ, M ρ → N ρ) : wS o N T B C X := by
  cases o <;> first | exact k _ h | exact h
theorem cut_e {o : Out α} {Q : α → Env → Prop} (M : α → Env → Prop) (h : wE o M X) (k : ∀ a ρ, M a ρ → Q a ρ) : wE o Q X := by
  cases o <;> first | exact k _ _ h | exact h
theorem cut_f {o : FOut} {Q : R → List Sl → Prop} {Y : Ex → List Sl → Prop} (M : R → List Sl → Prop) (h : wF o M Y) (k : ∀ r os, M r os → Q r os) : wF o Q Y := by
  cases o <;> first | exact k _ _ h | exact h
/-- branches -/
theorem w_if {f g : SemS} {b : Bool} (h1 : b = true → wS (f ρ) N T B C X) (h2 : b = false → wS (g ρ) N T B C X) : wS (kIfS f g b ρ) N T B C X := by
  cases b with
  | true => exact h1 rfl
  | false => exact h2 rfl
theorem w_ife {f g : SemE} {b : Bool} {Q : R → Env → Prop} (h1 : b = true → wE (f ρ) Q X) (h2 : b = false → wE (g ρ) Q X) : wE (kIfE f g b ρ) Q X := by
  cases b with
  | true => exact h1 rfl
  | false => exact h2 rfl
theorem w_an {g : SemT} {b : Bool} {Q : Bool → Env → Prop} (h1 : b = true → wE (g ρ) Q X) (h2 : b = false → Q false ρ) : wE (kAn g b ρ) Q X := by
  cases b with
  | true => exact h1 rfl
  | false => exact h2 rfl
theorem w_or {g : SemT} {b : Bool} {Q : Bool → Env → Prop} (h1 : b = true → Q true ρ) (h2 : b = false → wE (g ρ) Q X) : wE (kOr g b ρ) Q X := by
  cases b with
  | true => exact h1 rfl
  | false => exact h2 rfl
theorem w_ean {g : SemE} {b : Bool} {Q : R → Env → Prop} (h1 : b = true → wE (g ρ) Q X) (h2 : b = false → Q (.fro (.bl false)) ρ) : wE (kAnE g b ρ) Q X := by
  cases b with
  | true => exact h1 rfl
  | false => exact h2 rfl
theorem w_eor {g : SemE} {b : Bool} {Q : R → Env → Prop} (h1 : b = true → Q (.fro (.bl true)) ρ) (h2 : b = false → wE (g ρ) Q X) : wE (kOrE g b ρ) Q X := by
  cases b with
  | true => exact h1 rfl
  | false => exact h2 rfl
/-- calls -/
def wC (ρ : Env) (rs : List R) (Q : R → Env → Prop) : R → List Sl → Prop := fun r os => Q r (wbs ρ rs os)
def wCX (ρ : Env) (rs : List R) (X : XQ) : Ex → List Sl → Prop := fun x os => X x (wbs ρ rs os)
theorem w_C (ρ : Env) (rs : List R) (Q : R → Env → Prop) (r : R) (os : List Sl) : wC ρ rs Q r os = Q r (wbs ρ rs os) := rfl
theorem w_CX (ρ : Env) (rs : List R) (X : XQ) (x : Ex) (os : List Sl) : wCX ρ rs X x os = X x (wbs ρ rs os) := rfl
theorem w_call (ρ : Env) (rs : List R) (o : FOut) (Q : R → Env → Prop) (X : XQ) : wE (kCallO ρ rs o) Q X = wF o (wC ρ rs Q) (wCX ρ rs X) := by cases o <;> rfl
theorem w_fok (r : R) (os : List Sl) (Q : R → List Sl → Prop) (X : Ex → List Sl → Prop) : wF (.ok r os) Q X = Q r os := rfl
theorem w_fx (x : Ex) (os : List Sl) (Q : R → List Sl → Prop) (X : Ex → List Sl → Prop) : wF (.exn x os) Q X = X x os := rfl
/-- a def's end -/
def wN (ps : List Sl) (Q : R → List Sl → Prop) : Env → Prop := fun ρ => wF (endO ps (.nx ρ)) Q noF
def wT (ps : List Sl) (Q : R → List Sl → Prop) : R → Env → Prop := fun r ρ => wF (endO ps (.rt r ρ)) Q noF
def wX (ps : List Sl) (X : Ex → List Sl → Prop) : XQ := fun x ρ => wF (endO ps (.exn x ρ)) (fun _ _ => False) X
theorem w_fn (n : Nat) (b : SemS) (ps : List Sl) (Q : R → List Sl → Prop) (X : Ex → List Sl → Prop) : wS (b (ps ++ List.replicate (n - ps.length) .un)) (wN ps Q) (wT ps Q) no0 no0 (wX ps X) → wF (fnOf n b ps) Q X := by
  rw [e_fn]
  intro h
  have fo : ∀ (ρ : Env) (k : List Sl → FOut) (q : ∀ os, (∃ r, k os = .ok r os) ∨ ∃ x, k os = .exn x os), True := fun _ _ _ => trivial
  cases e : b (ps ++ List.replicate (n - ps.length) .un) with
  | nx ρ =>
    rw [e] at h
    have h : wF (finO ps ρ (.ok (.fro .non))) Q noF := h
    show wF (finO ps ρ (.ok (.fro .non))) Q X
    unfold finO at h ⊢
    split at h
    · rename_i c; rw [if_pos c]; exact h
    · exact h.elim
  | rt r ρ =>
    rw [e] at h
    have h : wF (match fin ρ r with | some (r', ρ') => finO ps ρ' (.ok r') | none => .bad) Q noF := h
    show wF (match fin ρ r with | some (r', ρ') => finO ps ρ' (.ok r') | none => .bad) Q X
    cases e2 : fin ρ r with
    | none => rw [e2] at h; exact h.elim
    | some p =>
      rw [e2] at h
      simp only at h ⊢
      unfold finO at h ⊢
      split at h
      · rename_i c; rw [if_pos c]; exact h
      · exact h.elim
  | exn x ρ =>
    rw [e] at h
    have h : wF (finO ps ρ (.exn x)) (fun _ _ => False) X := h
    show wF (finO ps ρ (.exn x)) Q X
    unfold finO at h ⊢
    split at h
    · rename_i c; rw [if_pos c]; exact h
    · exact h.elim
  | bk ρ => rw [e] at h; exact h.elim
  | ct ρ => rw [e] at h; exact h.elim
  | bad => rw [e] at h; exact h.elim
theorem wF_ok {o : FOut} {Q : R → List Sl → Prop} (h : wF o Q noF) : ∃ r os, o = .ok r os ∧ Q r os := by
  cases o with
  | ok r os => exact ⟨r, os, rfl, h⟩
  | exn x os => exact h.elim
  | bad => exact h.elim
/-- loops -/
theorem for_s {tg : Tgt} {b : SemS} {u : Env → Env} (P : List D → Env → Prop) (hstep : ∀ d ds ρ, P (d :: ds) ρ → ∃ ρ1, tg d ρ = some ρ1 ∧ wS (b ρ1) (P ds) (fun r ρ' => T r (u ρ')) (fun ρ' => N (u ρ')) (P ds) (fun x ρ' => X x (u ρ'))) (hend : ∀ ρ, P [] ρ → N (u ρ)) :
    ∀ (items : List D) (ρ : Env), P items ρ → wS (forL tg b u items ρ) N T B C X
  | [], ρ, h0 => hend ρ h0
  | d :: ds, ρ, h0 => by
    obtain ⟨ρ1, e, h⟩ := hstep d ds ρ h0
    have ih := for_s P hstep hend ds
    unfold forL
    rw [e]
    show wS ((b ρ1).turn u (forL tg b u ds)) N T B C X
    cases e2 : b ρ1 <;> rw [e2] at h <;> first | exact ih _ h | exact h
theorem while_s {t : SemT} {b : SemS} (P : Nat → Env → Prop) (hstep : ∀ m ρ, P m ρ → wE (t ρ) (fun k ρ1 => if k = true then ∃ m', m = m' + 1 ∧ wS (b ρ1) (P m') T N (P m') X else N ρ1) X) :
    ∀ (n m : Nat) (ρ : Env), m < n → P m ρ → wS (sWhile n t b ρ) N T B C X
  | 0, m, ρ, h, _ => absurd h (by omega)
  | n + 1, m, ρ, h, hp => by
    have hs := hstep m ρ hp
    have ih := while_s P hstep n
    show wS ((t ρ).sbind fun k ρ1 => if k = true then (b ρ1).loop (sWhile n t b) else .nx ρ1) N T B C X
    cases e : t ρ with
    | bad => rw [e] at hs; exact hs
    | exn x ρ1 => rw [e] at hs; exact hs
    | ok k ρ1 =>
      rw [e] at hs
      have hs : if k = true then ∃ m', m = m' + 1 ∧ wS (b ρ1) (P m') T N (P m') X else N ρ1 := hs
      show wS (if k = true then (b ρ1).loop (sWhile n t b) else .nx ρ1) N T B C X
      cases k with
      | false => exact hs
      | true =>
        obtain ⟨m', hm, hb⟩ := hs
        show wS ((b ρ1).loop (sWhile n t b)) N T B C X
        cases e2 : b ρ1 <;> rw [e2] at hb <;> first | exact ih m' _ (by omega) hb | exact hb
/-- comprehensions -/
theorem comp_s {tg : Tgt} {is : List Nat} {tt : SemT} {te : SemE} {Q : List D → Env → Prop} (P : List D → List D → Env → Prop) (hstep : ∀ d ds acc ρ, P (d :: ds) acc ρ → ∃ ρ1, tg d (wipeE ρ is) = some ρ1 ∧
      wE (tt ρ1) (fun b ρ2 => if b = true then wE (te ρ2) (fun r ρ3 => wE (frz ρ3 r) (fun y ρ4 => lim (acc.length + 1) = true ∧ P ds (acc ++ [y]) (back ρ is ρ4)) noX) noX else P ds acc (back ρ is ρ2)) noX) (hend : ∀ acc ρ, P [] acc ρ → Q acc ρ) :
    ∀ (items acc : List D) (ρ : Env), P items acc ρ → wE (compL tg is tt te items acc ρ) Q noX
  | [], acc, ρ, h0 => hend acc ρ h0
  | d :: ds, acc, ρ, h0 => by
    obtain ⟨ρ1, e, h⟩ := hstep d ds acc ρ h0
    have ih := comp_s P hstep hend ds
    unfold compL
    rw [e]
    show wE ((tt ρ1).bindN _) Q noX
    cases e2 : tt ρ1 with
    | bad => rw [e2] at h; exact h
    | exn x ρ2 => rw [e2] at h; exact h
    | ok b ρ2 =>
      rw [e2] at h
      simp only [bindN_ok]
      cases b with
      | false => exact ih _ _ h
      | true =>
        have h : wE (te ρ2) (fun r ρ3 => wE (frz ρ3 r) (fun y ρ4 => lim (acc.length + 1) = true ∧ P ds (acc ++ [y]) (back ρ is ρ4)) noX) noX := h
        rw [if_pos rfl]
        cases e3 : te ρ2 with
        | bad => rw [e3] at h; exact h
        | exn x ρ3 => rw [e3] at h; exact h
        | ok r ρ3 =>
          rw [e3] at h
          have h : wE (frz ρ3 r) (fun y ρ4 => lim (acc.length + 1) = true ∧ P ds (acc ++ [y]) (back ρ is ρ4)) noX := h
          simp only [bindN_ok]
          cases e4 : frz ρ3 r with
          | bad => rw [e4] at h; exact h
          | exn x ρ4 => rw [e4] at h; exact h
          | ok y ρ4 =>
            rw [e4] at h
            obtain ⟨h1, h2⟩ := h
            simp only [bindN_ok]
            rw [if_pos h1]
            exact ih _ _ h2
def wCo (u : Env → Env) (Q : R → Env → Prop) : List D → Env → Prop := fun ds ρ => Q (.tmp (.lst ds)) (u ρ)
theorem w_Co (u : Env → Env) (Q : R → Env → Prop) (ds : List D) (ρ : Env) : wCo u Q ds ρ = Q (.tmp (.lst ds)) (u ρ) := rfl
theorem w_compE {u : Env → Env} {o : Out (List D)} {Q : R → Env → Prop} (h : wE o (wCo u Q) noX) : wE (compE u o) Q X := by
  cases o with
  | ok ds ρ => exact h
  | exn x ρ => exact h.elim
  | bad => exact h.elim
end
/-! ### loops over what is owned -/
def kForA (tg : Tgt) (b : SemS) (i : Nat) (ρ : Env) : Option (List D) → SOut
  | none => .bad
  | some items => forL tg b (unlk ρ) items (lock [.at i] ρ)
def ownS' (b : Bool) (o : SOut) : SOut := if b = true then o else .bad
theorem fo_ownS (o : SOut) : ownS' true o = o := rfl
theorem fo_for_a (itm : List D → Option (List D)) (tg : Tgt) (b : SemS) (i : Nat) (ρ : Env) : kFor itm tg b [.at i] ρ = ownS' (ρ.getD i .un).own (kForA tg b i ρ (itm [(ρ.getD i .un).get])) := by
  unfold kFor kForA ownS'
  show (match itm [(ρ.getD i .un).get] with | none => _ | some items => _) = _
  cases itm [(ρ.getD i .un).get] with
  | none => simp
  | some items =>
    show (if (false && true) = true then _ else if ((ρ.getD i .un).own && true) = true then _ else _) = _
    rw [if_neg (by decide), Bool.and_true]
theorem fo_for_t (itm : List D → Option (List D)) (tg : Tgt) (b : SemS) (d : D) (ρ : Env) : kFor itm tg b [.tmp d] ρ = kForI tg b ρ (itm [d]) := by
  unfold kFor kForI
  show (match itm [d] with | none => _ | some items => _) = _
  cases itm [d] <;> rfl
theorem fo_for_ff (itm : List D → Option (List D)) (tg : Tgt) (b : SemS) (d e : D) (ρ : Env) : kFor itm tg b [.fro d, .fro e] ρ = kForI tg b ρ (itm [d, e]) := by
  unfold kFor kForI
  show (match itm [d, e] with | none => _ | some items => _) = _
  cases itm [d, e] <;> rfl
end WS
/-! Wzg: operations with a condition, as rules; more evaluation. -/
namespace WS
open PySem L2
section
variable {ρ : Env} {Q : R → Env → Prop} {X : XQ}
theorem w_mul {a b : Int} (h : a.natAbs < 2 ^ 250) (h2 : b.natAbs < 2 ^ 250) (q : Q (.fro (.int (a * b))) ρ) : wE (outP ρ (gMul (.int a) (.int b))) Q X := by rw [o_mul h h2]; exact q
theorem w_mod {a b : Int} (h : 0 < b) (q : Q (.fro (.int (a % b))) ρ) : wE (outP ρ (gMod (.int a) (.int b))) Q X := by rw [o_mod h]; exact q
theorem w_div {a b : Int} (h : 0 < b) (h2 : b < 2 ^ 64) (q : Q (.fro (.int (a / b))) ρ) : wE (outP ρ (gDiv (.int a) (.int b))) Q X := by rw [o_div h h2]; exact q
theorem w_pow {a b : Int} (h : 0 ≤ b ∧ b ≤ 1000000 ∧ a.natAbs < 2 ^ 64) (q : Q (.fro (.int (a ^ b.toNat))) ρ) : wE (outP ρ (gPow (.int a) (.int b))) Q X := by rw [o_pow h]; exact q
theorem w_addS {a b : List Nat} (h : a.length + b.length ≤ 16777216) (q : Q (.fro (.str (a ++ b))) ρ) : wE (outP ρ (gAdd (.str a) (.str b))) Q X := by rw [ev_addS h]; exact q
theorem w_addL {a b : List D} (h : a.length + b.length ≤ 16777216) (q : Q (.tmp (.lst (a ++ b))) ρ) : wE (outP ρ (gAdd (.lst a) (.lst b))) Q X := by rw [ev_addL h]; exact q
theorem w_ixN {ns : List Int} {i : Int} (h : 0 ≤ i) (h2 : i < ns.length) (q : ∀ c, Q (.fro (.int c)) ρ) : wE (outP ρ (orG gIx gIxD (.scr ns) (.int i))) Q X := by
  obtain ⟨c, e⟩ := ev_ix_scr h h2
  rw [e]; exact q c
theorem w_ixS {s : List Nat} {i : Int} (h : 0 ≤ i) (h2 : i < s.length) (q : ∀ c, c ∈ s → s[i.toNat]? = some c → Q (.fro (.str [c])) ρ) : wE (outP ρ (orG gIx gIxD (.str s) (.int i))) Q X := by
  obtain ⟨c, m, g, e⟩ := ev_ix_str h h2
  rw [e]; exact q c m g
theorem w_ixL {s : List D} {i : Int} (h : 0 ≤ i) (h2 : i < s.length) (q : ∀ c, c ∈ s → s[i.toNat]? = some c → Q (.fro c) ρ) : wE (outP ρ (orG gIx gIxD (.lst s) (.int i))) Q X := by
  obtain ⟨c, m, g, e⟩ := ev_ix_lst h h2
  rw [e]; exact q c m g
theorem w_ixT {s : List D} {i : Int} (h : 0 ≤ i) (h2 : i < s.length) (q : ∀ c, c ∈ s → s[i.toNat]? = some c → Q (.fro c) ρ) : wE (outP ρ (orG gIx gIxD (.tup s) (.int i))) Q X := by
  obtain ⟨c, m, g, e⟩ := ev_ix_tup h h2
  rw [e]; exact q c m g
theorem w_eqD {d e : D} (h : ok64 d = true) (h2 : ok64 e = true) (q : Q (.fro (.bl (eqD d e))) ρ) : wE (outP ρ (gEq d e)) Q X := by
  unfold gEq
  rw [h, h2]; exact q
theorem w_neD {d e : D} (h : ok64 d = true) (h2 : ok64 e = true) (q : Q (.fro (.bl (!eqD d e))) ρ) : wE (outP ρ (gNe d e)) Q X := by
  unfold gNe
  rw [h, h2]; exact q
theorem w_idx {s : List Nat} {x : Nat} (h : x ∈ s) (q : Q (.fro (.int (s.idxOf x))) ρ) : wE (outP ρ (gIndexS (.str s) [.str [x]])) Q X := by
  unfold gIndexS
  simp only [h, if_true]
  exact q
theorem w_outK {fn : Fn} {ds ks : List D} (h : keysF fn ds = some ks) (h2 : srtB ks = true) (q : Q (.tmp (.lst (srtK ds ks))) ρ) : wE (outK fn ρ [.lst ds]) Q X := by
  unfold outK
  simp only [h, h2, if_true]
  exact q
theorem w_srt {ds : List D} (h : srtB ds = true) (q : Q (.tmp (.lst (srtD ds))) ρ) : wE (outP ρ (g1 gSorted [.lst ds])) Q X := by
  show wE (outP ρ (if srtB ds = true then some (.nl (srtD ds)) else none)) Q X
  rw [if_pos h]; exact q
theorem w_append {xs : List D} {x : D} {i : Nat} (h : xs.length + 1 ≤ 16777216) (q : wE (outS i ρ (some (.lst (xs ++ [x]), .non))) Q X) : wE (outS i ρ (gAppend (.lst xs) [x])) Q X := by
  have e : gAppend (.lst xs) [x] = some (.lst (xs ++ [x]), .non) := by
    show (if lim (xs.length + 1) = true then _ else _) = _
    rw [if_pos (show lim (xs.length + 1) = true from decide_eq_true h)]
  rw [e]; exact q
theorem w_extend {xs ys : List D} {i : Nat} (h : xs.length + ys.length ≤ 16777216) (q : wE (outS i ρ (some (.lst (xs ++ ys), .non))) Q X) : wE (outS i ρ (gExtend (.lst xs) [.lst ys])) Q X := by
  have e : gExtend (.lst xs) [.lst ys] = some (.lst (xs ++ ys), .non) := by
    show (if lim (xs.length + ys.length) = true then _ else _) = _
    rw [if_pos (show lim (xs.length + ys.length) = true from decide_eq_true h)]
  rw [e]; exact q
theorem w_insert {xs : List D} {k : Int} {x : D} {i : Nat} (h : xs.length + 1 ≤ 16777216) (h0 : 0 ≤ k) (h1 : k < 2 ^ 63) (q : wE (outS i ρ (some (.lst (xs.take k.toNat ++ [x] ++ xs.drop k.toNat), .non))) Q X) : wE (outS i ρ (gInsert (.lst xs) [.int k, x])) Q X := by
  have e : gInsert (.lst xs) [.int k, x] = some (.lst (xs.take k.toNat ++ [x] ++ xs.drop k.toNat), .non) := by
    show (if (lim (xs.length + 1) && decide (0 ≤ k) && decide (k < 2 ^ 63)) = true then _ else _) = _
    rw [show lim (xs.length + 1) = true from decide_eq_true h, decide_eq_true h0, decide_eq_true h1]
    rfl
  rw [e]; exact q
theorem w_range1 {tg : Tgt} {b : SemS} {n : Int} {N : Env → Prop} {T : R → Env → Prop} {B C : Env → Prop} (h : 0 ≤ n) (h2 : n ≤ 2 ^ 40) (q : wS (forL tg b id (upTo 0 n.toNat) ρ) N T B C X) : wS (kForI tg b ρ (itRange1 [.int n])) N T B C X := by
  have e : itRange1 [.int n] = some (upTo 0 n.toNat) := by
    show (if big n = true then _ else _) = _
    rw [if_pos (show big n = true from decide_eq_true (by omega))]
  rw [e]; exact q
theorem w_range1c {tg : Tgt} {is : List Nat} {tt : SemT} {te : SemE} {n : Int} (h : 0 ≤ n) (h2 : n ≤ 2 ^ 40) (q : wE (compE id (compL tg is tt te (upTo 0 n.toNat) [] ρ)) Q X) : wE (kCompI tg is tt te true ρ (itRange1 [.int n])) Q X := by
  have e : itRange1 [.int n] = some (upTo 0 n.toNat) := by
    show (if big n = true then _ else _) = _
    rw [if_pos (show big n = true from decide_eq_true (by omega))]
  rw [e]; exact q
end
/-- the rest of a range -/
theorem upTo_zero (lo : Int) : upTo lo 0 = [] := rfl
theorem upTo_succ (lo : Int) (n : Nat) : upTo lo (n + 1) = .int lo :: upTo (lo + 1) n := by
  unfold upTo
  rw [List.range_succ_eq_map, List.map_cons, List.map_map]
  congr 1
  · simp
  · apply List.map_congr_left
    intro i _
    simp only [Function.comp_apply, Nat.succ_eq_add_one, Int.natCast_add, Int.cast_ofNat_Int]
    congr 1
    omega
theorem upTo_inv {lo : Int} {n : Nat} {d : D} {ds : List D} (h : d :: ds = upTo lo n) : ∃ m, n = m + 1 ∧ d = .int lo ∧ ds = upTo (lo + 1) m := by
  cases n with
  | zero => cases h
  | succ m => rw [upTo_succ] at h; injection h with h1 h2; exact ⟨m, rfl, h1, h2⟩
theorem upTo_nil {lo : Int} {n : Nat} (h : [] = upTo lo n) : n = 0 := by
  cases n with
  | zero => rfl
  | succ m => rw [upTo_succ] at h; cases h
/-! ### evaluation -/
def kSK (fn : Fn) (rs : List R) (ρ : Env) : Out R := outK fn ρ (rs.map (val ρ))
theorem x_sortK (fn : Fn) (f : SemL) (ρ : Env) : eSortK fn f ρ = (f ρ).bind (kSK fn) := rfl
theorem x_sortK1 (fn : Fn) (rs : List R) (ρ : Env) : kSK fn rs ρ = outK fn ρ (rs.map (val ρ)) := rfl
def kMet2 (g : D → List D → Option PR) (ro : R) (rs : List R) (ρ : Env) : Out R := outP ρ (g (val ρ ro) (rs.map (val ρ)))
def kMet1 (b : Bool) (g : D → List D → Option PR) (fa : SemL) (ro : R) (ρ : Env) : Out R := if b = true then (fa ρ).bind (kMet2 g ro) else .bad
def kMet (T : String) (g : D → List D → Option PR) (fa : SemL) (ro : R) (ρ : Env) : Out R := kMet1 (ofT T (val ρ ro)) g fa ro ρ
theorem x_met (T : String) (g : D → List D → Option PR) (fo : SemE) (fa : SemL) (ρ : Env) : eMet T g fo fa ρ = (fo ρ).bind (kMet T g fa) := rfl
theorem x_met0 (T : String) (g : D → List D → Option PR) (fa : SemL) (ro : R) (ρ : Env) : kMet T g fa ro ρ = kMet1 (ofT T (val ρ ro)) g fa ro ρ := rfl
theorem x_met1 (g : D → List D → Option PR) (fa : SemL) (ro : R) (ρ : Env) : kMet1 true g fa ro ρ = (fa ρ).bind (kMet2 g ro) := rfl
theorem x_met2 (g : D → List D → Option PR) (ro : R) (rs : List R) (ρ : Env) : kMet2 g ro rs ρ = outP ρ (g (val ρ ro) (rs.map (val ρ))) := rfl
def kAsg1 (tg : Tgt) (d : D) (ρ : Env) : SOut := match tg d ρ with
  | some ρ3 => .nx ρ3
  | none => .bad
def kAsg (tg : Tgt) (r : R) (ρ : Env) : SOut := (frz ρ r).sbind (kAsg1 tg)
theorem x_asg (tg : Tgt) (f : SemE) (ρ : Env) : sAsg tg f ρ = (f ρ).sbind (kAsg tg) := rfl
theorem x_asg0 (tg : Tgt) (r : R) (ρ : Env) : kAsg tg r ρ = (frz ρ r).sbind (kAsg1 tg) := rfl
theorem o_clear (ds : List D) : gClear (.lst ds) [] = some (.lst [], .non) := rfl
theorem o_reverse (ds : List D) : gReverse (.lst ds) [] = some (.lst ds.reverse, .non) := rfl
def optS : Option Env → SOut
  | some ρ => .nx ρ
  | none => .bad
theorem x_asg1 (tg : Tgt) (d : D) (ρ : Env) : kAsg1 tg d ρ = optS (tg d ρ) := by
  unfold kAsg1
  cases tg d ρ <;> rfl
theorem x_optS (ρ : Env) : optS (some ρ) = .nx ρ := rfl
theorem oo_lt (a b : Int) : orG gLt gLtD (.int a) (.int b) = some (.sc (.bl (decide (a < b)))) := rfl
theorem oo_ltS (a b : List Nat) : orG gLt gLtD (.str a) (.str b) = some (.sc (.bl (decide (a < b)))) := rfl
theorem o_rev (ds : List D) : gRev (.lst ds) = some (.nl ds.reverse) := rfl
theorem t_str (s : List Nat) : ofT "str" (.str s) = true := rfl
theorem t_lst (s : List D) : ofT "list" (.lst s) = true := by show ("list" == "list") = true; decide +kernel
theorem t_dct (s : List (D × D)) : ofT "dict" (.dct s) = true := by show ("dict" == "dict") = true; decide +kernel
theorem fo_forL (g : SemL) (itm : List D → Option (List D)) (tg : Tgt) (b : SemS) (ρ : Env) : sFor g itm tg b ρ = (g ρ).sbind (kFor itm tg b) := rfl
end WS
/-! Wzh: more evaluation. -/
namespace WS
open PySem L2
theorem n_three (x y z : Nat) : nodupB [x, y, z] = (!(x == y) && !(x == z) && !(y == z)) := by
  show (!(List.elem x [y, z]) && nodupB [y, z]) = _
  rw [n_two]
  show (!(match x == y with | true => true | false => List.elem x [z]) && _) = _
  cases h : x == y <;> simp [List.elem]
  cases h2 : x == z <;> simp
def lkA (l : Bool) (sl : Sl) : Sl := if l = true then lk1 sl else sl
def lockR (rs : List R) : Nat → Env → Env
  | _, [] => []
  | i, s :: ρ => lkA (rs.any (isAt i)) s :: lockR rs (i + 1) ρ
theorem r_lockR (rs : List R) : ∀ (ρ : Env) (i : Nat), lockR rs i ρ = ρ.mapIdx fun j s => lkA (rs.any (isAt (i + j))) s
  | [], i => rfl
  | s :: ρ, i => by
    rw [List.mapIdx_cons, lockR, r_lockR rs ρ (i + 1)]
    congr 2
    funext j s
    rw [show i + 1 + j = i + (j + 1) by omega]
theorem k_lock (ρ : Env) (rs : List R) : lock rs ρ = lockR rs 0 ρ := by
  rw [r_lockR]
  unfold lock lkA
  congr 1
  funext j s
  rw [Nat.zero_add]
theorem k_nil (rs : List R) (i : Nat) : lockR rs i [] = [] := rfl
theorem k_cons (rs : List R) (i : Nat) (s : Sl) (ρ : Env) : lockR rs i (s :: ρ) = lkA (rs.any (isAt i)) s :: lockR rs (i + 1) ρ := rfl
theorem k_any (i j : Nat) : [R.at j].any (isAt i) = (j == i) := by
  show (isAt i (.at j) || false) = _
  rw [Bool.or_false]
  rfl
theorem k_t (s : Sl) : lkA true s = lk1 s := rfl
theorem k_f (s : Sl) : lkA false s = s := rfl
theorem k_ow (d : D) : lk1 (.ow d) = .lk d := rfl
theorem k_le (d : D) : lk1 (.le d) = .lk d := rfl
theorem k_lk (d : D) : lk1 (.lk d) = .lk d := rfl
theorem k_un (a b : Sl) (l m : Env) : unlk (a :: l) (b :: m) = ul1 a b :: unlk l m := rfl
theorem k_u0 : unlk [] [] = [] := rfl
theorem k_ulk (a : Sl) (d : D) : ul1 a (.lk d) = match a with | .ow _ => .ow d | .le _ => .le d | _ => .lk d := by cases a <;> rfl
theorem k_ufz (a : Sl) (d : D) : ul1 a (.fz d) = .fz d := by cases a <;> rfl
theorem k_uun (a : Sl) : ul1 a .un = .un := by cases a <;> rfl
theorem k_uow (a : Sl) (d : D) : ul1 a (.ow d) = .ow d := by cases a <;> rfl
theorem k_ule (a : Sl) (d : D) : ul1 a (.le d) = .le d := by cases a <;> rfl
theorem k_ulf (a : Sl) (d : D) : ul1 a (.lf d) = .lf d := by cases a <;> rfl
theorem fo_A (tg : Tgt) (b : SemS) (i : Nat) (ρ : Env) (items : List D) : kForA tg b i ρ (some items) = forL tg b (unlk ρ) items (lock [.at i] ρ) := rfl
/-- targets -/
def tgA (b : Bool) (i : Nat) (d : D) (ρ : Env) : Option Env := if b = true then none else some (ρ.set i (.fz d))
theorem g_tgN (i : Nat) (d : D) (ρ : Env) : tgN i d ρ = tgA (ρ.getD i .un).lent i d ρ := rfl
theorem g_tgA (i : Nat) (d : D) (ρ : Env) : tgA false i d ρ = some (ρ.set i (.fz d)) := rfl
theorem g_tgT (ts : List Tgt) (ds : List D) (ρ : Env) : tgT ts (.tup ds) ρ = tgL ts ds ρ := rfl
theorem g_tg0 (ρ : Env) : tgL [] [] ρ = some ρ := rfl
theorem g_tgL (t : Tgt) (ts : List Tgt) (d : D) (ds : List D) (ρ : Env) : tgL (t :: ts) (d :: ds) ρ = (t d ρ).bind (tgL ts ds) := rfl
theorem g_some {α β : Type} (a : α) (f : α → Option β) : (some a).bind f = f a := rfl
/-- wiping, back -/
theorem g_w0 (ρ : Env) : wipeE ρ [] = ρ := rfl
theorem g_w1 (ρ : Env) (i : Nat) (is : List Nat) : wipeE ρ (i :: is) = (wipeE ρ is).set i .un := rfl
theorem g_b0 (ρ ρ' : Env) : back ρ [] ρ' = ρ' := rfl
theorem g_b1 (ρ ρ' : Env) (i : Nat) (is : List Nat) : back ρ (i :: is) ρ' = (back ρ is ρ').set i (ρ.getD i .un) := rfl
/-- comprehensions over what is owned -/
def kCompA (tg : Tgt) (is : List Nat) (tt : SemT) (te : SemE) (b : Bool) (i : Nat) (ρ : Env) : Option (List D) → Out R
  | none => .bad
  | some items => if b = true then compE (unlk ρ) (compL tg is tt te items [] (lock [.at i] ρ)) else .bad
def ownO (b : Bool) (o : Out R) : Out R := if b = true then o else .bad
theorem x_ownO (o : Out R) : ownO true o = o := rfl
theorem x_comp_a (itm : List D → Option (List D)) (tg : Tgt) (is : List Nat) (tt : SemT) (te : SemE) (i : Nat) (ρ : Env) : kComp itm tg is tt te [.at i] ρ = ownO (ρ.getD i .un).own (kCompA tg is tt te (is.all (plainAt ρ)) i ρ (itm [(ρ.getD i .un).get])) := by
  unfold kComp kCompA ownO
  have n1 : [R.at i].all noAt = false := rfl
  have n2 : [R.at i].all (ownAt ρ) = (ρ.getD i .un).own := by
    show ((ρ.getD i .un).own && true) = _
    rw [Bool.and_true]
  show (match itm [(ρ.getD i .un).get] with | none => _ | some items => _) = _
  rw [n1, n2]
  cases itm [(ρ.getD i .un).get] <;> cases (ρ.getD i .un).own <;> cases is.all (plainAt ρ) <;> rfl
theorem x_compA (tg : Tgt) (is : List Nat) (tt : SemT) (te : SemE) (i : Nat) (ρ : Env) (items : List D) : kCompA tg is tt te true i ρ (some items) = compE (unlk ρ) (compL tg is tt te items [] (lock [.at i] ρ)) := rfl
theorem x_comp_ff (itm : List D → Option (List D)) (tg : Tgt) (is : List Nat) (tt : SemT) (te : SemE) (d e : D) (ρ : Env) : kComp itm tg is tt te [.fro d, .fro e] ρ = kCompI tg is tt te (is.all (plainAt ρ)) ρ (itm [d, e]) := by
  unfold kComp kCompI
  show (match itm [d, e] with | none => _ | some items => _) = _
  cases itm [d, e] <;> rfl
theorem k_uself (s : Sl) : ul1 s s = s := by cases s <;> rfl
theorem ev_ufree {a b : Sl} (h : b.lent = false) : ul1 a b = b := by cases a <;> cases b <;> first | rfl | cases h
theorem k_any2 (i j k : Nat) : [R.at j, R.at k].any (isAt i) = (j == i || k == i) := by
  show (isAt i (.at j) || (isAt i (.at k) || false)) = _
  rw [Bool.or_false]
  rfl
def kForB (tg : Tgt) (b : SemS) (i j : Nat) (ρ : Env) : Option (List D) → SOut
  | none => .bad
  | some items => forL tg b (unlk ρ) items (lock [.at i, .at j] ρ)
theorem fo_for_aa (itm : List D → Option (List D)) (tg : Tgt) (b : SemS) (i j : Nat) (ρ : Env) : kFor itm tg b [.at i, .at j] ρ = ownS' ((ρ.getD i .un).own && (ρ.getD j .un).own) (kForB tg b i j ρ (itm [(ρ.getD i .un).get, (ρ.getD j .un).get])) := by
  have n1 : [R.at i, R.at j].all noAt = false := rfl
  have n2 : [R.at i, R.at j].all (ownAt ρ) = ((ρ.getD i .un).own && (ρ.getD j .un).own) := by
    show ((ρ.getD i .un).own && ((ρ.getD j .un).own && true)) = _
    rw [Bool.and_true]
  unfold kFor kForB ownS'
  show (match itm [(ρ.getD i .un).get, (ρ.getD j .un).get] with | none => _ | some items => _) = _
  rw [n1, n2]
  cases itm [(ρ.getD i .un).get, (ρ.getD j .un).get] <;> cases ((ρ.getD i .un).own && (ρ.getD j .un).own) <;> rfl
theorem fo_B (tg : Tgt) (b : SemS) (i j : Nat) (ρ : Env) (items : List D) : kForB tg b i j ρ (some items) = forL tg b (unlk ρ) items (lock [.at i, .at j] ρ) := rfl
theorem o_itZ (a b : List D) : itZip [.lst a, .lst b] = some (zipped a b) := rfl
theorem o_itZt (a b : List D) : itZip [.tup a, .tup b] = some (zipped a b) := rfl
end WS
/-! Wzi: the pen of the laws. -/
namespace WS
open PySem L2
def pen (ns : List Int) (a l : Int) : D := .dct [(.str (sg "script"), .scr ns), (.str (sg "at"), .int a), (.str (sg "left"), .int l)]
theorem pen_script {ns : List Int} {a l : Int} : orG gIx gIxD (pen ns a l) (.str (sg "script")) = some (.sc (.scr ns)) := by rfl
theorem pen_at {ns : List Int} {a l : Int} : orG gIx gIxD (pen ns a l) (.str (sg "at")) = some (.sc (.int a)) := by rfl
theorem pen_left {ns : List Int} {a l : Int} : orG gIx gIxD (pen ns a l) (.str (sg "left")) = some (.sc (.int l)) := by rfl
theorem put_at {ns : List Int} {a l b : Int} : orP gSetL gSetD (pen ns a l) (.str (sg "at")) (.int b) = some (pen ns b l) := by rfl
theorem put_left {ns : List Int} {a l b : Int} : orP gSetL gSetD (pen ns a l) (.str (sg "left")) (.int b) = some (pen ns a b) := by rfl
theorem o_mul2 {a b : Int} (h : a.natAbs < 2 ^ 250 ∧ b.natAbs < 2 ^ 250) : gMul (.int a) (.int b) = some (.sc (.int (a * b))) := o_mul h.1 h.2
theorem p_2 : gPow (.int 10) (.int 2) = some (.sc (.int 100)) := o_pow (by decide)
theorem p_3 : gPow (.int 10) (.int 3) = some (.sc (.int 1000)) := o_pow (by decide)
theorem p_4 : gPow (.int 10) (.int 4) = some (.sc (.int 10000)) := o_pow (by decide)
theorem p_5 : gPow (.int 10) (.int 5) = some (.sc (.int 100000)) := o_pow (by decide)
theorem p_6 : gPow (.int 10) (.int 6) = some (.sc (.int 1000000)) := o_pow (by decide)
theorem p_7 : gPow (.int 10) (.int 7) = some (.sc (.int 10000000)) := o_pow (by decide)
theorem p_8 : gPow (.int 10) (.int 8) = some (.sc (.int 100000000)) := o_pow (by decide)
theorem p_9 : gPow (.int 10) (.int 9) = some (.sc (.int 1000000000)) := o_pow (by decide)
theorem p_10 : gPow (.int 10) (.int 10) = some (.sc (.int 10000000000)) := o_pow (by decide)
theorem p_12 : gPow (.int 10) (.int 12) = some (.sc (.int 1000000000000)) := o_pow (by decide)
theorem p_15 : gPow (.int 10) (.int 15) = some (.sc (.int 1000000000000000)) := o_pow (by decide)
theorem p_18 : gPow (.int 10) (.int 18) = some (.sc (.int 1000000000000000000)) := o_pow (by decide)
theorem p_20 : gPow (.int 10) (.int 20) = some (.sc (.int 100000000000000000000)) := o_pow (by decide)
theorem p_25 : gPow (.int 10) (.int 25) = some (.sc (.int 10000000000000000000000000)) := o_pow (by decide)
theorem p_29 : gPow (.int 10) (.int 29) = some (.sc (.int 100000000000000000000000000000)) := o_pow (by decide)
theorem p_30 : gPow (.int 10) (.int 30) = some (.sc (.int 1000000000000000000000000000000)) := o_pow (by decide)
theorem p_31 : gPow (.int 10) (.int 31) = some (.sc (.int 10000000000000000000000000000000)) := o_pow (by decide)
theorem p_60 : gPow (.int 10) (.int 60) = some (.sc (.int 1000000000000000000000000000000000000000000000000000000000000)) := o_pow (by decide)
theorem ev_addS1 {a : List Nat} {c : Nat} (h : a.length ≤ 16777215) : gAdd (.str a) (.str [c]) = some (.sc (.str (a ++ [c]))) := ev_addS (by simp; omega)
theorem ev_addL1 {a : List D} {c : D} (h : a.length ≤ 16777215) : gAdd (.lst a) (.lst [c]) = some (.nl (a ++ [c])) := ev_addL (by simp; omega)
/-- a pen that has told n numbers at most -/
def Pn (ns : List Int) (n : Nat) (d : D) : Prop := ∃ a l, d = pen ns a l ∧ 0 ≤ a ∧ a ≤ n ∧ 0 ≤ l
theorem Pn.mono {ns : List Int} {n m : Nat} {d : D} (h : Pn ns n d) (hm : n ≤ m) : Pn ns m d := by
  obtain ⟨a, l, e, h1, h2, h3⟩ := h
  exact ⟨a, l, e, h1, by omega, h3⟩
theorem abs_nn (c : Int) : 0 ≤ (if c < 0 then -c else c) := by split <;> omega
theorem take_min {α : Type} (t : List α) (k : Nat) : t.take (min k t.length) = t.take k := by
  rcases Nat.le_total k t.length with h | h
  · rw [Nat.min_eq_left h]
  · rw [Nat.min_eq_right h, List.take_length, List.take_of_length_le h]
theorem drop_min {α : Type} (t : List α) (k : Nat) : t.drop (min k t.length) = t.drop k := by
  rcases Nat.le_total k t.length with h | h
  · rw [Nat.min_eq_left h]
  · rw [Nat.min_eq_right h, List.drop_length, List.drop_of_length_le h]
theorem sIx_pos (n d : Nat) {k : Int} (h : 0 ≤ k) : HT.sIx n d (some k) = min k.toNat n := by
  show (if k < 0 then (k + (n : Int)).toNat else min k.toNat n) = _
  rw [if_neg (by omega)]
theorem cut_to {α : Type} (t : List α) {k : Int} (h : 0 ≤ k) : cutL t none (some k) = t.take k.toNat := by
  unfold cutL
  rw [sIx_pos _ _ h, HT.sIx_none, List.drop_zero, Nat.sub_zero, take_min]
theorem cut_from {α : Type} (t : List α) {k : Int} (h : 0 ≤ k) : cutL t (some k) none = t.drop k.toNat := by
  unfold cutL
  rw [sIx_pos _ _ h, HT.sIx_none, drop_min]
  exact List.take_of_length_le (by rw [List.length_drop]; omega)
theorem cut_mid {α : Type} (t : List α) {i k : Int} (h : 0 ≤ i) (h2 : 0 ≤ k) : cutL t (some i) (some k) = (t.take k.toNat).drop i.toNat := by
  unfold cutL
  rw [sIx_pos _ _ h, sIx_pos _ _ h2, drop_min, List.drop_take]
  rw [show min k.toNat t.length - min i.toNat t.length = min (k.toNat - i.toNat) (t.drop i.toNat).length by rw [List.length_drop]; omega, take_min]
end WS
/-! Ma: strict orders on some data; lists that rise; a list put in order, each once. -/
namespace WS
open PySem L2
structure OrdS (S : D → Prop) (lt : D → D → Bool) : Prop where
  irr : ∀ a, S a → lt a a = false
  tr : ∀ a b c, S a → S b → S c → lt a b = true → lt b c = true → lt a c = true
  tri : ∀ a b, S a → S b → lt a b = true ∨ a = b ∨ lt b a = true
section
variable {S : D → Prop} {lt : D → D → Bool}
def Rises (lt : D → D → Bool) (l : List D) : Prop := l.Pairwise fun a b => lt a b = true
theorem OrdS.asym (O : OrdS S lt) {a b : D} (ha : S a) (hb : S b) (h : lt a b = true) : lt b a = false := by
  cases e : lt b a with
  | false => rfl
  | true =>
    have := O.tr a b a ha hb ha h e
    rw [O.irr a ha] at this; cases this
/-- a rising list is told by its members -/
theorem rises_unique (O : OrdS S lt) : ∀ {l m : List D}, (∀ x ∈ l, S x) → (∀ x ∈ m, S x) → Rises lt l → Rises lt m → (∀ x, x ∈ l ↔ x ∈ m) → l = m
  | [], [], _, _, _, _, _ => rfl
  | [], b :: m, _, _, _, _, h => absurd ((h b).mpr (List.mem_cons_self ..)) (by simp)
  | a :: l, [], _, _, _, _, h => absurd ((h a).mp (List.mem_cons_self ..)) (by simp)
  | a :: l, b :: m, hl, hm, sl, sm, h => by
    have sl' := List.pairwise_cons.mp sl
    have sm' := List.pairwise_cons.mp sm
    have ha := hl a (List.mem_cons_self ..)
    have hb := hm b (List.mem_cons_self ..)
    have e : a = b := by
      rcases List.mem_cons.mp ((h a).mp (List.mem_cons_self ..)) with e | e
      · exact e
      · rcases List.mem_cons.mp ((h b).mpr (List.mem_cons_self ..)) with e2 | e2
        · exact e2.symm
        · have h1 := sm'.1 a e
          have h2 := sl'.1 b e2
          rw [O.asym hb ha h1] at h2; cases h2
    subst e
    have na : a ∉ l := fun z => by have := sl'.1 a z; rw [O.irr a ha] at this; cases this
    have nm : a ∉ m := fun z => by have := sm'.1 a z; rw [O.irr a ha] at this; cases this
    congr 1
    refine rises_unique O (fun x hx => hl x (List.mem_cons_of_mem _ hx)) (fun x hx => hm x (List.mem_cons_of_mem _ hx)) sl'.2 sm'.2 fun x => ⟨fun hx => ?_, fun hx => ?_⟩
    · rcases List.mem_cons.mp ((h x).mp (List.mem_cons_of_mem _ hx)) with e | e
      · subst e; exact absurd hx na
      · exact e
    · rcases List.mem_cons.mp ((h x).mpr (List.mem_cons_of_mem _ hx)) with e | e
      · subst e; exact absurd hx nm
      · exact e
/-- those ahead of x, in a rising list -/
def aheadN (lt : D → D → Bool) (x : D) (l : List D) : Nat := (l.filter fun y => lt y x).length
theorem ahead_cut (O : OrdS S lt) {x : D} (hx : S x) : ∀ {l : List D}, (∀ y ∈ l, S y) → Rises lt l → aheadN lt x l ≤ l.length ∧ (∀ y ∈ l.take (aheadN lt x l), lt y x = true) ∧ ∀ y ∈ l.drop (aheadN lt x l), lt y x = false
  | [], _, _ => ⟨Nat.le_refl _, (fun y h => by cases h), (fun y h => by cases h)⟩
  | a :: l, hl, sl => by
    have sl' := List.pairwise_cons.mp sl
    have ha := hl a (List.mem_cons_self ..)
    have hl' : ∀ y ∈ l, S y := fun y h => hl y (List.mem_cons_of_mem _ h)
    cases e : lt a x with
    | true =>
      have q : aheadN lt x (a :: l) = aheadN lt x l + 1 := by
        unfold aheadN
        rw [List.filter_cons, if_pos e]; rfl
      obtain ⟨h1, h2, h3⟩ := ahead_cut O hx hl' sl'.2
      rw [q]
      refine ⟨Nat.succ_le_succ h1, fun y hy => ?_, h3⟩
      rw [List.take_succ_cons] at hy
      rcases List.mem_cons.mp hy with rfl | hy
      · exact e
      · exact h2 y hy
    | false =>
      have no : ∀ y ∈ l, lt y x = false := fun y hy => by
        cases q : lt y x with
        | false => rfl
        | true =>
          have := O.tr a y x ha (hl' y hy) hx (sl'.1 y hy) q
          rw [e] at this; cases this
      have q : aheadN lt x (a :: l) = 0 := by
        unfold aheadN
        rw [List.filter_cons, if_neg (by rw [e]; decide), List.filter_eq_nil_iff.mpr (fun y hy => by rw [no y hy]; decide)]
        rfl
      rw [q]
      refine ⟨Nat.zero_le _, (fun y hy => by cases hy), fun y hy => ?_⟩
      rcases List.mem_cons.mp hy with rfl | hy
      · exact e
      · exact no y hy
/-- x laid into a rising list, where it isn't there -/
def insU (lt : D → D → Bool) (l : List D) (x : D) : List D :=
  if (aheadN lt x l == l.length || lt x (l.getD (aheadN lt x l) .non)) = true then l.take (aheadN lt x l) ++ [x] ++ l.drop (aheadN lt x l) else l
theorem insU_ok (O : OrdS S lt) {x : D} (hx : S x) {l : List D} (hl : ∀ y ∈ l, S y) (sl : Rises lt l) : Rises lt (insU lt l x) ∧ (∀ y, y ∈ insU lt l x ↔ y = x ∨ y ∈ l) ∧ (insU lt l x).length ≤ l.length + 1 := by
  obtain ⟨h1, h2, h3⟩ := ahead_cut O hx hl sl
  unfold insU
  generalize aheadN lt x l = k at *
  have hmem : ∀ y, y ∈ l.take k ++ [x] ++ l.drop k ↔ y = x ∨ y ∈ l := fun y => by
    have : y ∈ l ↔ y ∈ l.take k ∨ y ∈ l.drop k := by rw [← List.mem_append, List.take_append_drop]
    simp only [List.mem_append, List.mem_singleton]
    rw [this]
    constructor
    · rintro ((h | h) | h)
      · exact .inr (.inl h)
      · exact .inl h
      · exact .inr (.inr h)
    · rintro (h | h | h)
      · exact .inl (.inr h)
      · exact .inl (.inl h)
      · exact .inr h
  have tk : ∀ y, y ∈ l.take k → y ∈ l := fun y h => List.mem_of_mem_take h
  have dk : ∀ y, y ∈ l.drop k → y ∈ l := fun y h => List.mem_of_mem_drop h
  by_cases hc : (k == l.length || lt x (l.getD k .non)) = true
  · rw [if_pos hc]
    refine ⟨?_, hmem, ?_⟩
    · have after : ∀ y ∈ l.drop k, lt x y = true := fun y hy => by
        rw [Bool.or_eq_true] at hc
        rcases hc with hc | hc
        · rw [beq_iff_eq] at hc
          rw [hc, List.drop_length] at hy; cases hy
        · have hk : k < l.length := Nat.lt_of_not_le fun z => by rw [List.drop_eq_nil_of_le z] at hy; cases hy
          rw [List.getD_eq_getElem?_getD, List.getElem?_eq_getElem hk, Option.getD_some] at hc
          rw [List.drop_eq_getElem_cons hk] at hy
          rcases List.mem_cons.mp hy with rfl | hy
          · exact hc
          · have s2 : Rises lt (l[k] :: l.drop (k + 1)) := by
              rw [← List.drop_eq_getElem_cons hk]
              exact List.Pairwise.sublist (List.drop_sublist k l) sl
            exact O.tr x l[k] y hx (hl _ (List.getElem_mem hk)) (hl y (List.mem_of_mem_drop hy)) hc ((List.pairwise_cons.mp s2).1 y hy)
      rw [List.append_assoc]
      refine List.pairwise_append.mpr ⟨List.Pairwise.sublist (List.take_sublist k l) sl, List.pairwise_cons.mpr ⟨fun y hy => after y (by simpa using hy), List.Pairwise.sublist (List.drop_sublist k l) sl⟩, fun a ha b hb => ?_⟩
      rcases List.mem_cons.mp (show b ∈ x :: l.drop k from hb) with rfl | hb
      · exact h2 a ha
      · exact O.tr a x b (hl a (tk a ha)) hx (hl b (dk b hb)) (h2 a ha) (after b hb)
    · rw [List.length_append, List.length_append, List.length_take, List.length_drop, List.length_singleton]
      omega
  · rw [if_neg hc]
    refine ⟨sl, fun y => ⟨.inr, fun h => ?_⟩, by omega⟩
    rcases h with rfl | h
    · rw [Bool.not_eq_true, Bool.or_eq_false_iff, beq_eq_false_iff_ne] at hc
      have hk : k < l.length := by omega
      rw [List.getD_eq_getElem?_getD, List.getElem?_eq_getElem hk, Option.getD_some] at hc
      have hm := List.getElem_mem hk
      have h4 : lt l[k] y = false := h3 l[k] (by rw [List.drop_eq_getElem_cons hk]; exact List.mem_cons_self ..)
      rcases O.tri y l[k] hx (hl _ hm) with e | e | e
      · rw [hc.2] at e; cases e
      · rw [e]; exact hm
      · rw [h4] at e; cases e
    · exact h
def sortU (lt : D → D → Bool) (ds : List D) : List D := ds.foldl (insU lt) []
theorem sortU_go (O : OrdS S lt) : ∀ {ds l : List D}, (∀ x ∈ ds, S x) → (∀ x ∈ l, S x) → Rises lt l → Rises lt (ds.foldl (insU lt) l) ∧ (∀ y, y ∈ ds.foldl (insU lt) l ↔ y ∈ ds ∨ y ∈ l) ∧ (ds.foldl (insU lt) l).length ≤ ds.length + l.length
  | [], l, _, _, sl => ⟨sl, fun y => by simp, by simp⟩
  | d :: ds, l, hd, hl, sl => by
    have hS := hd d (List.mem_cons_self ..)
    obtain ⟨a, b, c⟩ := insU_ok O hS hl sl
    obtain ⟨a2, b2, c2⟩ := sortU_go O (ds := ds) (l := insU lt l d) (fun x hx => hd x (List.mem_cons_of_mem _ hx)) (fun x hx => (b x).mp hx |>.elim (fun e => by rw [e]; exact hS) (hl x)) a
    refine ⟨a2, fun y => ?_, by simp only [List.foldl_cons, List.length_cons]; omega⟩
    rw [List.foldl_cons, b2, b, List.mem_cons]
    constructor
    · rintro (h | h | h)
      · exact .inl (.inr h)
      · exact .inl (.inl h)
      · exact .inr h
    · rintro ((h | h) | h)
      · exact .inr (.inl h)
      · exact .inl h
      · exact .inr (.inr h)
theorem sortU_ok (O : OrdS S lt) {ds : List D} (hd : ∀ x ∈ ds, S x) : Rises lt (sortU lt ds) ∧ (∀ y, y ∈ sortU lt ds ↔ y ∈ ds) ∧ (sortU lt ds).length ≤ ds.length := by
  obtain ⟨a, b, c⟩ := sortU_go O (l := []) hd (fun x h => by cases h) .nil
  exact ⟨a, fun y => by rw [show sortU lt ds = ds.foldl (insU lt) [] from rfl, b]; simp, c⟩
theorem sortU_eq (O : OrdS S lt) {ds l : List D} (hd : ∀ x ∈ ds, S x) (h : Rises lt l) (hm : ∀ y, y ∈ l ↔ y ∈ ds) : l = sortU lt ds := by
  obtain ⟨a, b, _⟩ := sortU_ok O hd
  exact rises_unique O (fun x hx => hd x ((hm x).mp hx)) (fun x hx => hd x ((b x).mp hx)) h a fun x => (hm x).trans (b x).symm
end
/-! ### a dict of them; sorted with a key -/
structure KeyS (S : D → Prop) : Prop where
  key : ∀ a, S a → isK a = true
  inj : ∀ a b, S a → S b → nk a = nk b → a = b
/-- as keys of a dict, one behind another -/
def dictOf (ds : List D) (kvs : List (D × D)) : List (D × D) := ds.foldl (fun m d => putD m d (.bl true)) kvs
theorem putD_keys {S : D → Prop} (K : KeyS S) {kvs : List (D × D)} {d v : D} (hk : ∀ p ∈ kvs, S p.1) (hd : S d) (nd : (kvs.map (·.1)).Nodup) : ((putD kvs d v).map (·.1)).Nodup ∧ (∀ x, x ∈ (putD kvs d v).map (·.1) ↔ x = d ∨ x ∈ kvs.map (·.1)) ∧ (putD kvs d v).length ≤ kvs.length + 1 := by
  unfold putD
  cases e : idxD kvs d with
  | some i =>
    obtain ⟨p, hp, hn, _⟩ := idxD_some e
    have hpm := List.mem_of_getElem? hp
    have hpd : p.1 = d := K.inj _ _ (hk p hpm) hd hn
    have em : (kvs.modify i fun p => (p.1, v)).map (·.1) = kvs.map (·.1) := by
      apply List.ext_getElem?
      intro j
      rw [List.getElem?_map, List.getElem?_map, List.getElem?_modify]
      cases kvs[j]? with
      | none => rfl
      | some q => by_cases hij : i = j <;> simp [hij]
    simp only
    rw [em]
    refine ⟨nd, fun x => ⟨.inr, fun h => h.elim (fun h => ?_) id⟩, by rw [List.length_modify]; omega⟩
    rw [h, ← hpd]
    exact List.mem_map.mpr ⟨p, hpm, rfl⟩
  | none =>
    have hn := idxD_none e
    have hnd : d ∉ kvs.map (·.1) := fun h => by
      obtain ⟨p, hp, e2⟩ := List.mem_map.mp h
      exact hn (List.mem_map.mpr ⟨p, hp, by rw [e2]⟩)
    simp only
    rw [List.map_append]
    refine ⟨List.nodup_append.mpr ⟨nd, by simp, fun a ha b hb hab => ?_⟩, fun x => ?_, by simp⟩
    · simp only [List.map_cons, List.map_nil, List.mem_singleton] at hb
      subst hb; subst hab
      exact hnd ha
    · simp only [List.mem_append, List.map_cons, List.map_nil, List.mem_singleton]
      exact ⟨fun h => h.elim .inr .inl, fun h => h.elim .inr .inl⟩
theorem dictOf_ok {S : D → Prop} (K : KeyS S) : ∀ {ds : List D} {kvs : List (D × D)}, (∀ x ∈ ds, S x) → (∀ p ∈ kvs, S p.1) → (kvs.map (·.1)).Nodup → ((dictOf ds kvs).map (·.1)).Nodup ∧ (∀ x, x ∈ (dictOf ds kvs).map (·.1) ↔ x ∈ ds ∨ x ∈ kvs.map (·.1)) ∧ (dictOf ds kvs).length ≤ ds.length + kvs.length
  | [], kvs, _, _, nd => ⟨nd, fun x => by simp [dictOf], by simp [dictOf]⟩
  | d :: ds, kvs, hd, hk, nd => by
    have hS := hd d (List.mem_cons_self ..)
    obtain ⟨a, b, c⟩ := putD_keys (v := .bl true) K hk hS nd
    obtain ⟨a2, b2, c2⟩ := dictOf_ok K (ds := ds) (kvs := putD kvs d (.bl true)) (fun x hx => hd x (List.mem_cons_of_mem _ hx)) (fun p hp => ((b p.1).mp (List.mem_map.mpr ⟨p, hp, rfl⟩)).elim (fun e => by rw [e]; exact hS) (fun h => by obtain ⟨q, hq, e⟩ := List.mem_map.mp h; rw [← e]; exact hk q hq)) a
    refine ⟨a2, fun x => ?_, by simp only [List.length_cons]; exact Nat.le_trans c2 (by omega)⟩
    show x ∈ (dictOf ds (putD kvs d (.bl true))).map (·.1) ↔ _
    rw [b2, b, List.mem_cons]
    constructor
    · rintro (h | h | h)
      · exact .inl (.inr h)
      · exact .inl (.inl h)
      · exact .inr h
    · rintro ((h | h) | h)
      · exact .inr (.inl h)
      · exact .inl h
      · exact .inr (.inr h)
theorem leD_trans (a b c : D) (h : leD a b = true) (h2 : leD b c = true) : leD a c = true := by
  unfold leD ltD PySem.W.dataLt at *
  rw [Bool.not_eq_true'] at *
  cases e : PyProof.Rows.lexLt PyProof.Rows.itemOrd (PySem.W.keyToks (toPy c)) (PySem.W.keyToks (toPy a)) with
  | false => rfl
  | true =>
    rcases PyProof.Rows.lex_negTrans _ (PySem.W.keyToks (toPy b)) _ e with z | z
    · rw [h2] at z; cases z
    · rw [h] at z; cases z
theorem leD_total (a b : D) : (leD a b || leD b a) = true := by
  unfold leD ltD PySem.W.dataLt
  cases e : PyProof.Rows.lexLt PyProof.Rows.itemOrd (PySem.W.keyToks (toPy b)) (PySem.W.keyToks (toPy a)) with
  | false => rfl
  | true =>
    cases e2 : PyProof.Rows.lexLt PyProof.Rows.itemOrd (PySem.W.keyToks (toPy a)) (PySem.W.keyToks (toPy b)) with
    | false => rfl
    | true =>
      have := PyProof.Rows.lex_trans _ _ _ e e2
      rw [PyProof.Rows.lex_irrefl] at this; cases this
/-- unlike things sorted by a key that tells their order -/
theorem srtK_eq {S : D → Prop} {lt : D → D → Bool} {key : D → D} (O : OrdS S lt) (hk : ∀ a b, S a → S b → ltD (key a) (key b) = lt a b) {ds : List D} (hd : ∀ x ∈ ds, S x) (nd : ds.Nodup) : srtK ds (ds.map key) = sortU lt ds := by
  have hp : ((ds.zip (ds.map key)).mergeSort leK).Perm (ds.zip (ds.map key)) := List.mergeSort_perm _ _
  have hz : ∀ p ∈ ds.zip (ds.map key), p.1 ∈ ds ∧ p.2 = key p.1 := fun p h => by
    obtain ⟨i, hi⟩ := List.getElem?_of_mem h
    rw [List.getElem?_zip_eq_some, List.getElem?_map] at hi
    obtain ⟨h1, h2⟩ := hi
    rw [h1] at h2
    exact ⟨List.mem_of_getElem? h1, (Option.some.inj h2).symm⟩
  have hf : (ds.zip (ds.map key)).map (·.1) = ds := List.map_fst_zip (by simp)
  have pm : (srtK ds (ds.map key)).Perm ds := by
    have := hp.map (·.1)
    rw [hf] at this
    exact this
  refine sortU_eq O hd ?_ fun y => pm.mem_iff
  have so : ((ds.zip (ds.map key)).mergeSort leK).Pairwise fun a b => leK a b = true := List.pairwise_mergeSort (le := leK) (fun a b c => leD_trans a.2 b.2 c.2) (fun a b => leD_total a.2 b.2) _
  have nd2 : (srtK ds (ds.map key)).Nodup := (pm.nodup_iff).mpr nd
  unfold srtK at nd2 ⊢
  unfold Rises
  rw [List.pairwise_map]
  have nd3 := List.pairwise_map.mp nd2
  refine List.Pairwise.imp_of_mem (fun {a b} ha hb h => ?_) (so.and nd3)
  obtain ⟨h1, h2⟩ := h
  obtain ⟨a1, a2⟩ := hz a (hp.mem_iff.mp ha)
  obtain ⟨b1, b2⟩ := hz b (hp.mem_iff.mp hb)
  unfold leK leD at h1
  rw [a2, b2, hk _ _ (hd _ b1) (hd _ a1), Bool.not_eq_true'] at h1
  rcases O.tri a.1 b.1 (hd _ a1) (hd _ b1) with e | e | e
  · exact e
  · exact absurd e h2
  · rw [h1] at e; cases e
/-- .. each once, as a dict's keys are -/
theorem inOrder_eq {S : D → Prop} {lt : D → D → Bool} {key : D → D} (O : OrdS S lt) (K : KeyS S) (hk : ∀ a b, S a → S b → ltD (key a) (key b) = lt a b) {ds : List D} (hd : ∀ x ∈ ds, S x) : srtK ((dictOf ds []).map (·.1)) (((dictOf ds []).map (·.1)).map key) = sortU lt ds := by
  obtain ⟨a, b, c⟩ := dictOf_ok K (kvs := []) hd (fun p h => by cases h) (by simp)
  have b' : ∀ x, x ∈ (dictOf ds []).map (·.1) ↔ x ∈ ds := fun x => by rw [b]; simp
  have hd' : ∀ x ∈ (dictOf ds []).map (·.1), S x := fun x h => hd x ((b' x).mp h)
  rw [srtK_eq O hk hd' a]
  obtain ⟨h1, h2, _⟩ := sortU_ok O hd'
  exact sortU_eq O hd h1 fun y => (h2 y).trans (b' y)
theorem sortU_mem {S : D → Prop} {lt : D → D → Bool} (O : OrdS S lt) {ds es : List D} (hd : ∀ x ∈ ds, S x) (h : ∀ x, x ∈ es ↔ x ∈ ds) : sortU lt es = sortU lt ds := by
  obtain ⟨a, b, _⟩ := sortU_ok O (ds := es) fun x hx => hd x ((h x).mp hx)
  exact sortU_eq O hd a fun y => (b y).trans (h y)
end WS
/-! Mb: nodes, their order. -/
namespace WS
open PySem L2
/-- small letters -/
def isLet (s : List Nat) : Prop := ∀ c ∈ s, 97 ≤ c ∧ c ≤ 122
theorem let_dec {s : List Nat} (h : (s.all fun c => decide (97 ≤ c ∧ c ≤ 122)) = true) : isLet s := fun c hc => of_decide_eq_true (List.all_eq_true.mp h c hc)
theorem let_app {s t : List Nat} (h : isLet s) (h2 : isLet t) : isLet (s ++ t) := fun c hc => (List.mem_append.mp hc).elim (h c) (h2 c)
theorem let_one {c : Nat} (h : 97 ≤ c ∧ c ≤ 122) : isLet [c] := fun x hx => by rw [List.mem_singleton.mp hx]; exact h
/-- a number, a said, a thing -/
inductive isNd : D → Prop
  | int (i : Int) : isNd (.int i)
  | said (s : List Nat) : isLet s → isNd (.tup [.str s])
  | thing (s : List Nat) : isLet s → isNd (.str s)
def kn : D → Nat
  | .int _ => 0
  | .tup _ => 1
  | _ => 2
def nlt : D → D → Bool
  | .int i, .int j => decide (i < j)
  | .tup [.str s], .tup [.str t] => decide (s < t)
  | .str s, .str t => decide (s < t)
  | a, b => decide (kn a < kn b)
theorem nlt_ii (i j : Int) : nlt (.int i) (.int j) = decide (i < j) := rfl
theorem nlt_tt (s t : List Nat) : nlt (.tup [.str s]) (.tup [.str t]) = decide (s < t) := rfl
theorem nlt_ss (s t : List Nat) : nlt (.str s) (.str t) = decide (s < t) := rfl
theorem nlt_it (i : Int) (t : List D) : nlt (.int i) (.tup t) = true := rfl
theorem nlt_is (i : Int) (t : List Nat) : nlt (.int i) (.str t) = true := rfl
theorem nlt_ti (i : Int) (t : List D) : nlt (.tup t) (.int i) = false := by
  unfold nlt
  split <;> first | rfl | simp_all
theorem nlt_si (i : Int) (t : List Nat) : nlt (.str t) (.int i) = false := rfl
theorem nlt_ts (s t : List Nat) : nlt (.tup [.str s]) (.str t) = true := rfl
theorem nlt_st (s t : List Nat) : nlt (.str s) (.tup [.str t]) = false := rfl
theorem str_tri (s t : List Nat) : s < t ∨ s = t ∨ t < s := by
  rcases Decidable.em (s < t) with h | h
  · exact .inl h
  · rcases Decidable.em (t < s) with h2 | h2
    · exact .inr (.inr h2)
    · exact .inr (.inl (List.le_antisymm (List.not_lt.mp h2) (List.not_lt.mp h)))
theorem ordNd : OrdS isNd nlt where
  irr := fun a h => by
    cases h with
    | int i => simp [nlt_ii]
    | said s _ => simp [nlt_tt, List.lt_irrefl]
    | thing s _ => simp [nlt_ss, List.lt_irrefl]
  tr := fun a b c ha hb hc => by
    cases ha <;> cases hb <;> cases hc <;> simp only [nlt_ii, nlt_tt, nlt_ss, nlt_it, nlt_is, nlt_ti, nlt_si, nlt_ts, nlt_st, decide_eq_true_eq, Bool.false_eq_true, false_implies, implies_true]
    · omega
    · exact List.lt_trans
    · exact List.lt_trans
  tri := fun a b ha hb => by
    cases ha <;> cases hb <;> simp only [nlt_ii, nlt_tt, nlt_ss, nlt_it, nlt_is, nlt_ti, nlt_si, nlt_ts, nlt_st, decide_eq_true_eq, true_or, or_true, Bool.false_eq_true, false_or, or_false, D.int.injEq, D.tup.injEq, D.str.injEq, List.cons.injEq, and_true, reduceCtorEq]
    · omega
    · exact str_tri _ _
    · exact str_tri _ _
theorem mkS_eq {s t : List Nat} (h : mkS s = mkS t) : s = t := congrArg (fun s : Str => s.cps.toList) h
theorem keyNd : KeyS isNd where
  key := fun a h => by
    cases h with
    | int i => rfl
    | said s _ => rfl
    | thing s _ => rfl
  inj := fun a b ha hb => by
    cases ha <;> cases hb <;> simp only [nk, nks, NestedKey.num.injEq, NestedKey.text.injEq, NestedKey.tup.injEq, List.cons.injEq, and_true, reduceCtorEq, false_implies, implies_true]
    · intro h; rw [h]
    · intro h
      exact congrArg (fun s => D.tup [D.str s]) (mkS_eq h)
    · intro h
      exact congrArg D.str (mkS_eq h)
/-- what they are ordered by -/
def keyD : D → D
  | .str s => .tup [.int 2, .int 0, .str s]
  | .tup [x] => .tup [.int 1, .int 0, x]
  | d => .tup [.int 0, d, .str (sg "")]
theorem lt3 {i j k l : Int} {s t : List Nat} : ltD (.tup [.int i, .int j, .str s]) (.tup [.int k, .int l, .str t]) = if i = k then (if j = l then decide (s < t) else decide (j < l)) else decide (i < k) := by
  unfold ltD
  simp only [toPy, toPys]
  rw [PySem.W.dataLt_tuple, PySem.W.dataLt_cons (by simp [PySem.W.alike]), PySem.W.dataLt_cons (by simp [PySem.W.alike]), PySem.W.dataLt_cons (by simp [PySem.W.alike]), PySem.W.dataLt_int, PySem.W.dataLt_int, PySem.W.dataLt_str]
  simp only [PyData.eqv, beq_iff_eq]
  have e0 : PyProof.Rows.lexLt PyProof.Rows.itemOrd (PySem.W.keyToksAll []) (PySem.W.keyToksAll []) = false := PyProof.Rows.lex_irrefl _
  rw [e0]
  by_cases h1 : i = k
  · by_cases h2 : j = l
    · by_cases h3 : mkS s = mkS t
      · have : s = t := congrArg (fun s : Str => s.cps.toList) h3
        subst this
        simp [h1, h2, List.lt_irrefl]
      · simp [h1, h2, h3]
    · simp [h1, h2]
  · simp [h1]
theorem keyD_lt {a b : D} (ha : isNd a) (hb : isNd b) : ltD (keyD a) (keyD b) = nlt a b := by
  cases ha <;> cases hb <;> simp only [keyD, lt3, nlt_ii, nlt_tt, nlt_ss, nlt_it, nlt_is, nlt_ti, nlt_si, nlt_ts, nlt_st] <;> simp
  · rename_i i j
    by_cases h : i = j
    · subst h; simp [List.lt_irrefl]
    · simp [h]
theorem eqD_nd {a b : D} (ha : isNd a) (hb : isNd b) : eqD a b = true ↔ a = b := by
  cases ha <;> cases hb <;> simp [eqD, eqDs]
theorem ok_nd {a : D} (ha : isNd a) : ok64 a = true ∧ dp a ≤ 1 := by
  cases ha <;> exact ⟨rfl, by simp [dp, dps]⟩
theorem nds_ok : ∀ {ds : List D}, (∀ x ∈ ds, isNd x) → ok64 (.lst ds) = true ∧ eqDs ds ds = true ∧ dps ds ≤ 1
  | [], _ => ⟨rfl, rfl, by simp [dps]⟩
  | d :: ds, h => by
    obtain ⟨a, b, c⟩ := nds_ok (ds := ds) fun x hx => h x (List.mem_cons_of_mem _ hx)
    have hd := h d (List.mem_cons_self ..)
    have h2 := (ok_nd hd).2
    refine ⟨decide_eq_true ?_, ?_, ?_⟩
    · simp only [dp, dps]; omega
    · simp only [eqDs, b, (eqD_nd hd hd).mpr rfl, Bool.and_self]
    · simp only [dps]; omega
theorem alike_key {a b : D} (ha : isNd a) (hb : isNd b) : PySem.W.alike (toPy (keyD a)) (toPy (keyD b)) = true := by
  cases ha <;> cases hb <;> simp [keyD, toPy, toPys, PySem.W.alike, PySem.W.alikeAll]
theorem dp_key {a : D} (ha : isNd a) : dp (keyD a) = 1 := by cases ha <;> simp [keyD, dp, dps]
theorem srtB_keys {ds : List D} (h : ∀ x ∈ ds, isNd x) : srtB (ds.map keyD) = true := by
  unfold srtB srtP
  rw [Bool.and_eq_true, Bool.and_eq_true, Bool.or_eq_true]
  refine ⟨⟨?_, .inl ?_⟩, ?_⟩
  · simp only [List.all_map, List.all_eq_true, Function.comp_apply]
    intro x hx y hy
    exact alike_key (h x hx) (h y hy)
  · simp only [List.all_map, List.all_eq_true, Function.comp_apply]
    intro x hx
    have := h x hx
    cases this <;> rfl
  · simp only [List.all_map, List.all_eq_true, Function.comp_apply, decide_eq_true_eq]
    intro x hx
    rw [dp_key (h x hx)]; omega
/-- how long its text is -/
def sz : D → Nat
  | .str s => s.length
  | .tup [.str s] => s.length
  | _ => 0
/-- a node as the laws draw it -/
def isN8 (d : D) : Prop := isNd d ∧ sz d ≤ 8
theorem keysF_map {fn : Fn} {key : D → D} : ∀ {ds : List D}, (∀ d ∈ ds, fn [.fz d] = .ok (.fro (key d)) [.un]) → keysF fn ds = some (ds.map key)
  | [], _ => rfl
  | d :: ds, h => by
    unfold keysF
    rw [h d (List.mem_cons_self ..), keysF_map fun x hx => h x (List.mem_cons_of_mem _ hx)]
    rfl
section
variable {ρ : Env} {N : Env → Prop} {T : R → Env → Prop} {B C : Env → Prop} {X : XQ} {Q : R → Env → Prop}
theorem w_setD {kvs : List (D × D)} {k v : D} {i : Nat} (hk : isK k = true) (hl : kvs.length + 1 ≤ 16777216) (q : wS (outT i ρ (some (.dct (putD kvs k v)))) N T B C X) : wS (outT i ρ (orP gSetL gSetD (.dct kvs) k v)) N T B C X := by
  have e : orP gSetL gSetD (.dct kvs) k v = some (.dct (putD kvs k v)) := by
    unfold orP
    have h1 : gSetL (.dct kvs) k v = none := rfl
    rw [h1]
    show (if (isK k && lim (kvs.length + 1)) = true then some (D.dct (putD kvs k v)) else none) = _
    rw [if_pos]
    rw [Bool.and_eq_true]
    exact ⟨hk, decide_eq_true hl⟩
  rw [e]; exact q
end
theorem o_listD (kvs : List (D × D)) : orF (orF (g1 gListOf) (g1 gListD)) (g1 gListS) [.dct kvs] = some (.nl (kvs.map (·.1))) := rfl
theorem o_listL (ds : List D) : orF (orF (g1 gListOf) (g1 gListD)) (g1 gListS) [.lst ds] = some (.nl ds) := rfl
theorem o_listT (ds : List D) : orF (orF (g1 gListOf) (g1 gListD)) (g1 gListS) [.tup ds] = some (.nl ds) := rfl
theorem dictOf_snoc (ds : List D) (d : D) (kvs : List (D × D)) : dictOf (ds ++ [d]) kvs = putD (dictOf ds kvs) d (.bl true) := by
  unfold dictOf
  rw [List.foldl_append]; rfl
end WS
/-! Wzj: x[k] = v, joins, == with itself. -/
namespace WS
open PySem L2
theorem w_putL {ρ : WS.Env} {N : WS.Env → Prop} {T : R → WS.Env → Prop} {B C : WS.Env → Prop} {X : XQ} {xs : List D} {k : Int} {v : D} {i : Nat} (h0 : 0 ≤ k) (h1 : k < xs.length) (q : wS (outT i ρ (some (.lst (xs.set k.toNat v)))) N T B C X) : wS (outT i ρ (orP gSetL gSetD (.lst xs) (.int k) v)) N T B C X := by
  have e : orP gSetL gSetD (.lst xs) (.int k) v = some (.lst (xs.set k.toNat v)) := by
    unfold orP
    have h1 : gSetL (.lst xs) (.int k) v = some (.lst (xs.set k.toNat v)) := by
      show ((ixN xs.length k).map fun j => D.lst (xs.set j v)) = _
      rw [ev_ixN h0 h1]; rfl
    rw [h1]
  rw [e]; exact q
theorem i_is (d : D) : gIs d .non = some (.sc (.bl (isN d))) := rfl
theorem i_isn (d : D) : gIsNot d .non = some (.sc (.bl (!isN d))) := rfl
theorem i_n0 : isN .non = true := rfl
theorem i_n1 (b : Bool) : isN (.bl b) = false := rfl
theorem i_n2 (b : Int) : isN (.int b) = false := rfl
theorem i_n3 (b : List Nat) : isN (.str b) = false := rfl
theorem i_n4 (b : List D) : isN (.tup b) = false := rfl
theorem i_n5 (b : List D) : isN (.lst b) = false := rfl
theorem i_n6 (b : List (D × D)) : isN (.dct b) = false := rfl
theorem i_tlk (d : D) : toA (.lk d) = .lk d := rfl
theorem o_eqB (a b : Bool) : gEq (.bl a) (.bl b) = some (.sc (.bl (a == b))) := by cases a <;> cases b <;> rfl
theorem o_neB (a b : Bool) : gNe (.bl a) (.bl b) = some (.sc (.bl (!(a == b)))) := by cases a <;> cases b <;> rfl
theorem i_t0 (a : D) (l : List D) : orG gIx gIxD (.tup (a :: l)) (.int 0) = some (.sc a) := by
  have e : gIx (.tup (a :: l)) (.int 0) = some (.sc a) := by
    show (atI (a :: l) 0).map (fun n => PR.sc n) = _
    unfold atI
    rw [ev_ixN (by decide) (by simp only [List.length_cons]; omega)]; rfl
  unfold orG; rw [e]
theorem i_t1 (a b : D) (l : List D) : orG gIx gIxD (.tup (a :: b :: l)) (.int 1) = some (.sc b) := by
  have e : gIx (.tup (a :: b :: l)) (.int 1) = some (.sc b) := by
    show (atI (a :: b :: l) 1).map (fun n => PR.sc n) = _
    unfold atI
    rw [ev_ixN (by decide) (by simp only [List.length_cons]; omega)]; rfl
  unfold orG; rw [e]
theorem i_t2 (a b c : D) (l : List D) : orG gIx gIxD (.tup (a :: b :: c :: l)) (.int 2) = some (.sc c) := by
  have e : gIx (.tup (a :: b :: c :: l)) (.int 2) = some (.sc c) := by
    show (atI (a :: b :: c :: l) 2).map (fun n => PR.sc n) = _
    unfold atI
    rw [ev_ixN (by decide) (by simp only [List.length_cons]; omega)]; rfl
  unfold orG; rw [e]
theorem i_t3 (a b c d : D) (l : List D) : orG gIx gIxD (.tup (a :: b :: c :: d :: l)) (.int 3) = some (.sc d) := by
  have e : gIx (.tup (a :: b :: c :: d :: l)) (.int 3) = some (.sc d) := by
    show (atI (a :: b :: c :: d :: l) 3).map (fun n => PR.sc n) = _
    unfold atI
    rw [ev_ixN (by decide) (by simp only [List.length_cons]; omega)]; rfl
  unfold orG; rw [e]
theorem i_t4 (a b c d e : D) (l : List D) : orG gIx gIxD (.tup (a :: b :: c :: d :: e :: l)) (.int 4) = some (.sc e) := by
  have e : gIx (.tup (a :: b :: c :: d :: e :: l)) (.int 4) = some (.sc e) := by
    show (atI (a :: b :: c :: d :: e :: l) 4).map (fun n => PR.sc n) = _
    unfold atI
    rw [ev_ixN (by decide) (by simp only [List.length_cons]; omega)]; rfl
  unfold orG; rw [e]
theorem i_t5 (a b c d e f : D) (l : List D) : orG gIx gIxD (.tup (a :: b :: c :: d :: e :: f :: l)) (.int 5) = some (.sc f) := by
  have e : gIx (.tup (a :: b :: c :: d :: e :: f :: l)) (.int 5) = some (.sc f) := by
    show (atI (a :: b :: c :: d :: e :: f :: l) 5).map (fun n => PR.sc n) = _
    unfold atI
    rw [ev_ixN (by decide) (by simp only [List.length_cons]; omega)]; rfl
  unfold orG; rw [e]
theorem i_l0 (a : D) (l : List D) : orG gIx gIxD (.lst (a :: l)) (.int 0) = some (.sc a) := by
  have e : gIx (.lst (a :: l)) (.int 0) = some (.sc a) := by
    show (atI (a :: l) 0).map (fun n => PR.sc n) = _
    unfold atI
    rw [ev_ixN (by decide) (by simp only [List.length_cons]; omega)]; rfl
  unfold orG; rw [e]
theorem i_l1 (a b : D) (l : List D) : orG gIx gIxD (.lst (a :: b :: l)) (.int 1) = some (.sc b) := by
  have e : gIx (.lst (a :: b :: l)) (.int 1) = some (.sc b) := by
    show (atI (a :: b :: l) 1).map (fun n => PR.sc n) = _
    unfold atI
    rw [ev_ixN (by decide) (by simp only [List.length_cons]; omega)]; rfl
  unfold orG; rw [e]
theorem i_l2 (a b c : D) (l : List D) : orG gIx gIxD (.lst (a :: b :: c :: l)) (.int 2) = some (.sc c) := by
  have e : gIx (.lst (a :: b :: c :: l)) (.int 2) = some (.sc c) := by
    show (atI (a :: b :: c :: l) 2).map (fun n => PR.sc n) = _
    unfold atI
    rw [ev_ixN (by decide) (by simp only [List.length_cons]; omega)]; rfl
  unfold orG; rw [e]
theorem i_l3 (a b c d : D) (l : List D) : orG gIx gIxD (.lst (a :: b :: c :: d :: l)) (.int 3) = some (.sc d) := by
  have e : gIx (.lst (a :: b :: c :: d :: l)) (.int 3) = some (.sc d) := by
    show (atI (a :: b :: c :: d :: l) 3).map (fun n => PR.sc n) = _
    unfold atI
    rw [ev_ixN (by decide) (by simp only [List.length_cons]; omega)]; rfl
  unfold orG; rw [e]
theorem i_l4 (a b c d e : D) (l : List D) : orG gIx gIxD (.lst (a :: b :: c :: d :: e :: l)) (.int 4) = some (.sc e) := by
  have e : gIx (.lst (a :: b :: c :: d :: e :: l)) (.int 4) = some (.sc e) := by
    show (atI (a :: b :: c :: d :: e :: l) 4).map (fun n => PR.sc n) = _
    unfold atI
    rw [ev_ixN (by decide) (by simp only [List.length_cons]; omega)]; rfl
  unfold orG; rw [e]
theorem i_l5 (a b c d e f : D) (l : List D) : orG gIx gIxD (.lst (a :: b :: c :: d :: e :: f :: l)) (.int 5) = some (.sc f) := by
  have e : gIx (.lst (a :: b :: c :: d :: e :: f :: l)) (.int 5) = some (.sc f) := by
    show (atI (a :: b :: c :: d :: e :: f :: l) 5).map (fun n => PR.sc n) = _
    unfold atI
    rw [ev_ixN (by decide) (by simp only [List.length_cons]; omega)]; rfl
  unfold orG; rw [e]
theorem joinN_nil : ∀ ss : List (List Nat), joinN [] ss = ss.flatten
  | [] => rfl
  | [x] => by simp [joinN]
  | x :: y :: r => by
    show x ++ [] ++ joinN [] (y :: r) = _
    rw [joinN_nil (y :: r), List.append_nil]; rfl
theorem join_e {ds : List D} (k : Nat) (h : ∀ x ∈ ds, ∃ s, x = .str s ∧ s.length ≤ k) (hl : ds.length * k ≤ 10000) : ∃ ss : List (List Nat), gJoin (.str []) [.lst ds] = some (.sc (.str ss.flatten)) ∧ ds = ss.map D.str ∧ ss.flatten.length ≤ ds.length * k := by
  have go : ∀ ds : List D, (∀ x ∈ ds, ∃ s, x = .str s ∧ s.length ≤ k) → ∃ ss, txts ds = some ss ∧ ds = ss.map D.str ∧ (ss.map (·.length)).sum ≤ ds.length * k := by
    intro ds
    induction ds with
    | nil => intro _; exact ⟨[], rfl, rfl, by simp⟩
    | cons d ds ih =>
      intro h
      obtain ⟨s, rfl, hs⟩ := h _ (List.mem_cons_self ..)
      obtain ⟨ss, e, e2, e3⟩ := ih fun x hx => h x (List.mem_cons_of_mem _ hx)
      refine ⟨s :: ss, by simp [txts, e], by rw [e2]; rfl, ?_⟩
      simp only [List.map_cons, List.sum_cons, List.length_cons, Nat.succ_mul]
      omega
  obtain ⟨ss, e, e2, e3⟩ := go ds h
  have e4 : ss.flatten.length ≤ ds.length * k := by rw [List.length_flatten]; exact e3
  refine ⟨ss, ?_, e2, e4⟩
  show joinP [] ds = _
  unfold joinP
  rw [e]
  show (if lim ((ss.map (·.length)).sum + ss.length * 0) = true then some (PR.sc (.str (joinN [] ss))) else none) = _
  rw [if_pos (by unfold lim; exact decide_eq_true (by omega)), joinN_nil]
mutual
theorem eqD_refl : ∀ d : D, dp d ≤ 64 → eqD d d = true
  | .non, _ => rfl
  | .bl b, _ => by simp [eqD]
  | .int i, _ => by simp [eqD]
  | .str s, _ => by simp [eqD]
  | .tup xs, h => by simp only [eqD]; exact eqDs_refl xs (by simp [dp] at h; omega)
  | .lst xs, h => by simp only [eqD]; exact eqDs_refl xs (by simp [dp] at h; omega)
  | .dct _, h => by simp [dp] at h
  | .scr _, h => by simp [dp] at h
  | .err _ _, h => by simp [dp] at h
theorem eqDs_refl : ∀ xs : List D, dps xs ≤ 64 → eqDs xs xs = true
  | [], _ => rfl
  | x :: xs, h => by
    simp only [dps] at h
    simp only [eqDs, eqD_refl x (by omega), eqDs_refl xs (by omega), Bool.and_self]
end
theorem dps_le {n : Nat} : ∀ {xs : List D}, (∀ x ∈ xs, dp x ≤ n) → dps xs ≤ n
  | [], _ => Nat.zero_le _
  | x :: xs, h => by
    have := h x (List.mem_cons_self ..)
    have := dps_le fun y hy => h y (List.mem_cons_of_mem _ hy)
    simp only [dps]; omega
theorem o_dv {a b : Int} (h : 0 < b) (h2 : b < 2 ^ 110) : gDiv (.int a) (.int b) = some (.sc (.int (a / b))) := by
  show (if decide (0 < b ∧ b.natAbs.log2 < 9000) = true then _ else _) = _
  have : b.natAbs.log2 < 9000 := by
    have h3 : b.natAbs < 2 ^ 110 := by omega
    rcases Nat.eq_zero_or_pos b.natAbs with e | e
    · omega
    · have := (Nat.log2_lt (by omega : b.natAbs ≠ 0)).mpr h3
      omega
  rw [if_pos (decide_eq_true ⟨h, this⟩)]
end WS
/-! Wzk: tuples among the constants of a module. -/
namespace WS
open PySem L2
inductive KV : Value → D → Prop
  | non : KV .none .non
  | bl (b : Bool) : KV (.bool b) (.bl b)
  | int {i : Int} {t : Tok} : KV (.int i t) (.int i)
  | str {x : Str} {s : List Nat} {t : Tok} (h : x = mkS s) (o : (okS s && decide (s.length ≤ 1000)) = true) : KV (.str x t) (.str s)
inductive KVs : List Value → List D → Prop
  | nil : KVs [] []
  | cons {u : Value} {d : D} {us : List Value} {ds : List D} : KV u d → KVs us ds → KVs (u :: us) (d :: ds)
theorem KV.rep {u : Value} {d : D} (h : KV u d) : ∃ v, RelV v u ∧ ∀ w K F, Rep w K F v d := by
  cases h with
  | non => exact ⟨.non, rfl, fun w K F => .non⟩
  | bl b => exact ⟨.bl b, rfl, fun w K F => .bl b⟩
  | int => exact ⟨.int _, ⟨_, rfl⟩, fun w K F => .int _⟩
  | str h o =>
    rw [Bool.and_eq_true] at o
    exact ⟨.str (mkS _), ⟨_, by rw [h]⟩, fun w K F => .str _ o.1 (n1000 o.2)⟩
theorem KVs.rep {us : List Value} {ds : List D} (h : KVs us ds) : ∃ vs, Vals vs us ∧ ∀ w K F, RepL w K F vs ds := by
  induction h with
  | nil => exact ⟨[], .nil, fun w K F => .nil⟩
  | cons h _ ih =>
    obtain ⟨v, r, q⟩ := h.rep
    obtain ⟨vs, rs, qs⟩ := ih
    exact ⟨v :: vs, .cons r rs, fun w K F => .cons (q w K F) (qs w K F)⟩
theorem KVs.len {us : List Value} {ds : List D} (h : KVs us ds) : us.length = ds.length := by
  induction h with
  | nil => rfl
  | cons _ _ ih => simp [ih]
theorem ktup {K : PySem.W.Frag} {a : Addr} {od : Option Addr} {sl : Array (Option Value)} {n : Nat} {its : Array Value} {ds : List D} (l : K.lookup a = some ⟨.type "tuple", od, .seq its n, sl⟩) (h : KVs its.toList ds) (hs : decide (ds.length ≤ 1000) = true) : ∀ w F, Rep w K F (.ref a) (.tup ds) := fun w F => by
  obtain ⟨vs, r, q⟩ := h.rep
  refine .tup (vs := vs) (.inr ⟨_, its, n, l, rfl, rfl, ?_, r⟩) (q w K F)
  have := h.len
  have := of_decide_eq_true hs
  rw [sizeLine_eq]
  simp at *
  omega
section
variable {X : Cx} {c : XC} {W : WX} {pos : Pos}
theorem se_gtup {x : Str} {ds : List D} (hg : Gl X x) (hm : ∃ a, X.mg x = some (.ref a) ∧ ∀ w F, Rep w X.K F (.ref a) (.tup ds)) (hd : (x == ("__debug__" : Str)) = false) : SE X c W (.Name x pos) (eCon (.tup ds)) := by
  obtain ⟨a, hm, q⟩ := hm
  exact se_glb (v := .ref a) hg hm rfl (fun F => q _ F) hd
/-- <= of texts -/
def gLeS : D → D → Option PR
  | .str a, .str b => some (.sc (.bl (!strLt b a)))
  | _, _ => none
theorem opG_leS : OpG X (compareOp .LtE) gLeS := by
  refine ⟨_, op_le_str, fun F H x y d1 d2 p Q s t1 t2 e q => ?_⟩
  cases d1 <;> cases d2 <;> simp only [gLeS] at e <;> try (cases e; done)
  cases e
  obtain ⟨rfl, _, _⟩ := t1.str
  obtain ⟨rfl, _, _⟩ := t2.str
  exact ⟨_, _, rfl, rfl, q _ (.bl _)⟩
theorem i_leI (a b : Int) : orG gLe gLeS (.int a) (.int b) = some (.sc (.bl (decide (a ≤ b)))) := rfl
theorem i_leS (a b : List Nat) : orG gLe gLeS (.str a) (.str b) = some (.sc (.bl (!decide (b < a)))) := rfl
theorem i_popL (l : List D) (x : D) : gPop (.lst (l ++ [x])) [] = some (.lst l, x) := by
  show ((l ++ [x])[(l ++ [x]).length - 1]?).map (fun z => (D.lst (l ++ [x]).dropLast, z)) = _
  simp
end
section
variable {ρ : WS.Env} {Q : R → WS.Env → Prop} {X : XQ}
theorem atM {xs : List D} (h : 1 ≤ xs.length) : ixN xs.length (-1) = some (xs.length - 1) := by
  unfold ixN
  rw [if_neg (by omega)]
  first
    | (rw [if_pos (by omega)]; congr 1; omega)
    | (split <;> first | (congr 1; omega) | omega)
theorem w_ixM {xs : List D} (h : 1 ≤ xs.length) (q : ∀ c, c ∈ xs → Q (.fro c) ρ) : wE (outP ρ (orG gIx gIxD (.lst xs) (.int (-1)))) Q X := by
  have hl : xs.length - 1 < xs.length := by omega
  have e : gIx (.lst xs) (.int (-1)) = some (.sc xs[xs.length - 1]) := by
    show (atI xs (-1)).map PR.sc = _
    unfold atI
    rw [atM h]
    show (xs[xs.length - 1]?).map PR.sc = _
    rw [List.getElem?_eq_getElem hl]; rfl
  have e2 : orG gIx gIxD (.lst xs) (.int (-1)) = some (.sc xs[xs.length - 1]) := by unfold orG; rw [e]
  rw [e2]
  exact q _ (List.getElem_mem hl)
theorem w_putM {N : WS.Env → Prop} {T : R → WS.Env → Prop} {B C : WS.Env → Prop} {xs : List D} {v : D} {i : Nat} (h : 1 ≤ xs.length) (q : wS (outT i ρ (some (.lst (xs.set (xs.length - 1) v)))) N T B C X) : wS (outT i ρ (orP gSetL gSetD (.lst xs) (.int (-1)) v)) N T B C X := by
  have e : orP gSetL gSetD (.lst xs) (.int (-1)) v = some (.lst (xs.set (xs.length - 1) v)) := by
    unfold orP
    have h1 : gSetL (.lst xs) (.int (-1)) v = some (.lst (xs.set (xs.length - 1) v)) := by
      show ((ixN xs.length (-1)).map fun j => D.lst (xs.set j v)) = _
      rw [atM h]; rfl
    rw [h1]
  rw [e]; exact q
end
theorem i_lastL (l : List D) (x : D) : orG gIx gIxD (.lst (l ++ [x])) (.int (-1)) = some (.sc x) := by
  have e : gIx (.lst (l ++ [x])) (.int (-1)) = some (.sc x) := by
    show (atI (l ++ [x]) (-1)).map PR.sc = _
    unfold atI
    rw [atM (by simp)]
    show ((l ++ [x])[(l ++ [x]).length - 1]?).map PR.sc = _
    simp
  unfold orG; rw [e]
theorem i_lastT (l : List D) (x : D) : orG gIx gIxD (.tup (l ++ [x])) (.int (-1)) = some (.sc x) := by
  have e : gIx (.tup (l ++ [x])) (.int (-1)) = some (.sc x) := by
    show (atI (l ++ [x]) (-1)).map PR.sc = _
    unfold atI
    rw [atM (by simp)]
    show ((l ++ [x])[(l ++ [x]).length - 1]?).map PR.sc = _
    simp
  unfold orG; rw [e]
end WS
/-! Mc: facts, their order; names, nodes, facts as the program looks at things. -/
namespace WS
open PySem L2
inductive isFt : D → Prop
  | mk (a b : List Nat) (n : D) : isLet a → isLet b → isNd n → isFt (.tup [.str a, .str b, n])
def flt : D → D → Bool
  | .tup [.str a, .str b, n], .tup [.str c, .str d, m] => if a = c then (if b = d then nlt n m else decide (b < d)) else decide (a < c)
  | _, _ => false
theorem flt_mk (a b c d : List Nat) (n m : D) : flt (.tup [.str a, .str b, n]) (.tup [.str c, .str d, m]) = if a = c then (if b = d then nlt n m else decide (b < d)) else decide (a < c) := rfl
theorem ordFt : OrdS isFt flt where
  irr := fun x h => by
    cases h with
    | mk a b n _ _ hn => rw [flt_mk, if_pos rfl, if_pos rfl, ordNd.irr n hn]
  tr := fun x y z hx hy hz h1 h2 => by
    cases hx with
    | mk a b n _ _ hn =>
    cases hy with
    | mk c d m _ _ hm =>
    cases hz with
    | mk e f k _ _ hk =>
    rw [flt_mk] at h1 h2 ⊢
    by_cases q1 : a = c
    · subst q1
      rw [if_pos rfl] at h1
      by_cases q2 : a = e
      · subst q2
        rw [if_pos rfl] at h2 ⊢
        by_cases q3 : b = d
        · subst q3
          rw [if_pos rfl] at h1
          by_cases q4 : b = f
          · subst q4
            rw [if_pos rfl] at h2 ⊢
            exact ordNd.tr n m k hn hm hk h1 h2
          · rw [if_neg q4] at h2 ⊢; exact h2
        · rw [if_neg q3, decide_eq_true_eq] at h1
          by_cases q4 : d = f
          · subst q4
            rw [if_neg q3, decide_eq_true_eq]; exact h1
          · rw [if_neg q4, decide_eq_true_eq] at h2
            have h3 := List.lt_trans h1 h2
            have : b ≠ f := fun z => by rw [z] at h3; exact List.lt_irrefl _ h3
            rw [if_neg this, decide_eq_true_eq]; exact h3
      · rw [if_neg q2] at h2 ⊢; exact h2
    · rw [if_neg q1, decide_eq_true_eq] at h1
      by_cases q2 : c = e
      · subst q2
        rw [if_neg q1, decide_eq_true_eq]; exact h1
      · rw [if_neg q2, decide_eq_true_eq] at h2
        have h3 := List.lt_trans h1 h2
        have : a ≠ e := fun z => by rw [z] at h3; exact List.lt_irrefl _ h3
        rw [if_neg this, decide_eq_true_eq]; exact h3
  tri := fun x y hx hy => by
    cases hx with
    | mk a b n _ _ hn =>
    cases hy with
    | mk c d m _ _ hm =>
    rw [flt_mk, flt_mk]
    by_cases q1 : a = c
    · subst q1
      by_cases q2 : b = d
      · subst q2
        simp only [if_true]
        rcases ordNd.tri n m hn hm with h | h | h
        · exact .inl h
        · exact .inr (.inl (by rw [h]))
        · exact .inr (.inr h)
      · have q3 : ¬ d = b := fun z => q2 z.symm
        simp only [if_true, if_neg q2, if_neg q3, decide_eq_true_eq]
        rcases str_tri b d with h | h | h
        · exact .inl h
        · exact absurd h q2
        · exact .inr (.inr h)
    · have q3 : ¬ c = a := fun z => q1 z.symm
      simp only [if_neg q1, if_neg q3, decide_eq_true_eq]
      rcases str_tri a c with h | h | h
      · exact .inl h
      · exact absurd h q1
      · exact .inr (.inr h)
theorem keyFt : KeyS isFt where
  key := fun x h => by
    cases h with
    | mk a b n _ _ hn => cases hn <;> rfl
  inj := fun x y hx hy h => by
    cases hx with
    | mk a b n _ _ hn =>
    cases hy with
    | mk c d m _ _ hm =>
    simp only [nk, nks, NestedKey.tup.injEq, NestedKey.text.injEq, List.cons.injEq, and_true] at h
    rw [mkS_eq h.1, mkS_eq h.2.1, keyNd.inj n m hn hm h.2.2]
/-- what facts are ordered by -/
def frank : D → D
  | .tup [a, b, n] => .tup [a, b, keyD n]
  | d => d
theorem lt_tup (s t : List Nat) (xs ys : List D) : ltD (.tup (.str s :: xs)) (.tup (.str t :: ys)) = if s = t then ltD (.tup xs) (.tup ys) else decide (s < t) := by
  unfold ltD
  simp only [toPy, toPys]
  rw [PySem.W.dataLt_tuple, PySem.W.dataLt_cons (by simp [PySem.W.alike]), PySem.W.dataLt_tuple, PySem.W.dataLt_str]
  simp only [PyData.eqv, beq_iff_eq]
  by_cases h : s = t
  · subst h; simp
  · have : ¬ mkS s = mkS t := fun z => h (mkS_eq z)
    simp [h, this]
theorem lt_one {n m : D} (hn : isNd n) (hm : isNd m) : ltD (.tup [keyD n]) (.tup [keyD m]) = nlt n m := by
  have e := keyD_lt hn hm
  have al := alike_key hn hm
  unfold ltD at e ⊢
  rw [show toPy (.tup [keyD n]) = .tuple [toPy (keyD n)] from rfl, show toPy (.tup [keyD m]) = .tuple [toPy (keyD m)] from rfl, PySem.W.dataLt_tuple, PySem.W.dataLt_cons al]
  have e0 : PyProof.Rows.lexLt PyProof.Rows.itemOrd (PySem.W.keyToksAll []) (PySem.W.keyToksAll []) = false := PyProof.Rows.lex_irrefl _
  rw [e0, e]
  by_cases h : PyData.eqv (toPy (keyD n)) (toPy (keyD m)) = true
  · rw [if_pos h]
    have d1 := dp_key hn
    have d2 := dp_key hm
    rw [eqD_py _ _ (by omega) (by omega)] at h
    have hnm : n = m := by
      revert h
      cases hn <;> cases hm <;> simp [keyD, eqD, eqDs]
    subst hnm
    rw [ordNd.irr n hn]
  · rw [if_neg h]
theorem frank_lt {x y : D} (hx : isFt x) (hy : isFt y) : ltD (frank x) (frank y) = flt x y := by
  cases hx with
  | mk a b n _ _ hn =>
  cases hy with
  | mk c d m _ _ hm => rw [frank, frank, lt_tup, lt_tup, lt_one hn hm, flt_mk]
theorem srtB_ranks {ds : List D} (h : ∀ x ∈ ds, isFt x) : srtB (ds.map frank) = true := by
  unfold srtB srtP
  rw [Bool.and_eq_true, Bool.and_eq_true, Bool.or_eq_true]
  refine ⟨⟨?_, .inl ?_⟩, ?_⟩
  · simp only [List.all_map, List.all_eq_true, Function.comp_apply]
    intro x hx y hy
    cases h x hx with
    | mk a b n _ _ hn =>
    cases h y hy with
    | mk c d m _ _ hm =>
    have := alike_key hn hm
    simp only [frank, toPy, toPys, PySem.W.alike, PySem.W.alikeAll, Bool.true_and, Bool.and_true]
    exact this
  · simp only [List.all_map, List.all_eq_true, Function.comp_apply]
    intro x hx
    cases h x hx with
    | mk a b n _ _ hn => rfl
  · simp only [List.all_map, List.all_eq_true, Function.comp_apply, decide_eq_true_eq]
    intro x hx
    cases h x hx with
    | mk a b n _ _ hn =>
    have := dp_key hn
    simp only [frank, dp, dps, this]; omega
theorem eqD_ft {x y : D} (hx : isFt x) (hy : isFt y) : eqD x y = true ↔ x = y := by
  cases hx with
  | mk a b n _ _ hn =>
  cases hy with
  | mk c d m _ _ hm =>
  simp only [eqD, eqDs, Bool.and_true, Bool.and_eq_true, decide_eq_true_eq, eqD_nd hn hm, D.tup.injEq, D.str.injEq, List.cons.injEq, and_true]
theorem dp_ft {x : D} (hx : isFt x) : dp x ≤ 2 := by
  cases hx with
  | mk a b n _ _ hn =>
  have := (ok_nd hn).2
  simp only [dp, dps]; omega
theorem ok_ft {x : D} (hx : isFt x) : ok64 x = true := decide_eq_true (by have := dp_ft hx; omega)
theorem fts_ok : ∀ {ds : List D}, (∀ x ∈ ds, isFt x) → dps ds ≤ 2
  | [], _ => by simp [dps]
  | d :: ds, h => by
    have := fts_ok (ds := ds) fun x hx => h x (List.mem_cons_of_mem _ hx)
    have := dp_ft (h d (List.mem_cons_self ..))
    simp only [dps]; omega
theorem fts_eq : ∀ {ds es : List D}, (∀ x ∈ ds, isFt x) → (∀ x ∈ es, isFt x) → (eqDs ds es = true ↔ ds = es)
  | [], [], _, _ => by simp [eqDs]
  | [], _ :: _, _, _ => by simp [eqDs]
  | _ :: _, [], _, _ => by simp [eqDs]
  | d :: ds, e :: es, h1, h2 => by
    simp only [eqDs, Bool.and_eq_true, List.cons.injEq]
    rw [eqD_ft (h1 d (List.mem_cons_self ..)) (h2 e (List.mem_cons_self ..)), fts_eq (fun x hx => h1 x (List.mem_cons_of_mem _ hx)) fun x hx => h2 x (List.mem_cons_of_mem _ hx)]
/-! ### what the program says of things -/
def letB (s : List Nat) : Bool := decide (s.length ≤ 8) && s.all fun c => decide (c ∈ sg "abcdefghijklmnopqrstuvwxyz")
def nameD : D → Bool
  | .str s => !decide (s = []) && letB s
  | _ => false
def numD : D → Bool
  | .int i => decide ((if i < 0 then -i else i) < 1000000000000000000000000000000)
  | _ => false
def saidD : D → Bool
  | .tup [.str s] => letB s
  | _ => false
def nodeD (d : D) : Bool := nameD d || (numD d || saidD d)
def factD : D → Bool
  | .tup [a, b, c] => nameD a && (nameD b && nodeD c)
  | _ => false
theorem let_mem {c : Nat} : c ∈ sg "abcdefghijklmnopqrstuvwxyz" ↔ 97 ≤ c ∧ c ≤ 122 := by
  constructor
  · have : ∀ c ∈ sg "abcdefghijklmnopqrstuvwxyz", 97 ≤ c ∧ c ≤ 122 := by decide +kernel
    exact this c
  · have all : ∀ k, k < 26 → (97 + k) ∈ sg "abcdefghijklmnopqrstuvwxyz" := by decide +kernel
    intro h
    obtain ⟨k, rfl⟩ : ∃ k, c = 97 + k := ⟨c - 97, by omega⟩
    exact all k (by omega)
theorem letB_iff {s : List Nat} : letB s = true ↔ s.length ≤ 8 ∧ isLet s := by
  unfold letB isLet
  simp only [Bool.and_eq_true, decide_eq_true_eq, List.all_eq_true, let_mem]
theorem nameD_iff {d : D} : nameD d = true ↔ ∃ s, d = .str s ∧ s ≠ [] ∧ s.length ≤ 8 ∧ isLet s := by
  cases d with
  | str s =>
    simp only [nameD, Bool.and_eq_true, Bool.not_eq_true', decide_eq_false_iff_not, letB_iff, D.str.injEq]
    exact ⟨fun h => ⟨s, rfl, h.1, h.2.1, h.2.2⟩, fun ⟨t, e, h⟩ => by subst e; exact ⟨h.1, h.2.1, h.2.2⟩⟩
  | _ => simp [nameD]
theorem nodeD_nd {d : D} (h : nodeD d = true) : isN8 d := by
  unfold nodeD at h
  rw [Bool.or_eq_true, Bool.or_eq_true] at h
  rcases h with h | h | h
  · obtain ⟨s, rfl, _, h1, h2⟩ := nameD_iff.mp h
    exact ⟨.thing s h2, h1⟩
  · unfold numD at h
    split at h
    · exact ⟨.int _, Nat.zero_le _⟩
    · cases h
  · unfold saidD at h
    split at h
    · obtain ⟨h1, h2⟩ := letB_iff.mp h
      exact ⟨.said _ h2, h1⟩
    · cases h
theorem factD_ft {d : D} (h : factD d = true) : isFt d := by
  unfold factD at h
  split at h
  · rw [Bool.and_eq_true, Bool.and_eq_true] at h
    obtain ⟨s, rfl, _, _, h1⟩ := nameD_iff.mp h.1
    obtain ⟨t, rfl, _, _, h2⟩ := nameD_iff.mp h.2.1
    exact .mk s t _ h1 h2 (nodeD_nd h.2.2).1
  · cases h
theorem name_of {s : List Nat} (h : isLet s) (h0 : 1 ≤ s.length) (h1 : s.length ≤ 8) : nameD (.str s) = true := nameD_iff.mpr ⟨s, rfl, fun z => by rw [z] at h0; simp at h0, h1, h⟩
theorem said_of {s : List Nat} (h : isLet s) (h1 : s.length ≤ 8) : nodeD (.tup [.str s]) = true := by
  have : saidD (.tup [.str s]) = true := letB_iff.mpr ⟨h1, h⟩
  unfold nodeD
  rw [this, Bool.or_true, Bool.or_true]
theorem num_of {i : Int} (h : -1000000000000000000000000000000 < i) (h1 : i < 1000000000000000000000000000000) : nodeD (.int i) = true := by
  have : numD (.int i) = true := decide_eq_true (by split <;> omega)
  unfold nodeD
  rw [this, Bool.true_or, Bool.or_true]
theorem fact_of {a b c : D} (ha : nameD a = true) (hb : nameD b = true) (hc : nodeD c = true) : factD (.tup [a, b, c]) = true := by
  simp only [factD, ha, hb, hc, Bool.and_self]
theorem fact_inv {f : D} (h : factD f = true) : ∃ a b c, f = .tup [a, b, c] ∧ nameD a = true ∧ nameD b = true ∧ nodeD c = true := by
  unfold factD at h
  split at h
  · rw [Bool.and_eq_true, Bool.and_eq_true] at h
    exact ⟨_, _, _, rfl, h.1, h.2.1, h.2.2⟩
  · cases h
end WS
/-! Wzt: texts, lists and tuples times a number; min of three; sum. -/
namespace WS
open PySem PySem.Spec PyProof.Rows L2
def repN {α : Type} (k : Nat) (xs : List α) : List α := (List.replicate k xs).flatten
theorem repN_len {α : Type} (k : Nat) (xs : List α) : (repN k xs).length = k * xs.length := by
  unfold repN
  rw [List.length_flatten, List.map_replicate, List.sum_replicate_nat]
theorem repN_all {α : Type} {p : α → Bool} {xs : List α} (k : Nat) (h : xs.all p = true) : (repN k xs).all p = true := by
  rw [List.all_eq_true] at h ⊢
  intro x hx
  unfold repN at hx
  obtain ⟨l, hl, hx⟩ := List.mem_flatten.mp hx
  rw [List.eq_of_mem_replicate hl] at hx
  exact h x hx
theorem fold_rep (s : List Nat) : ∀ (k : Nat) (acc : List Nat), List.foldl (· ++ ·) acc.toArray (List.replicate k s.toArray) = (acc ++ repN k s).toArray
  | 0, acc => by simp [repN]
  | k + 1, acc => by
    rw [List.replicate_succ, List.foldl_cons, show acc.toArray ++ s.toArray = (acc ++ s).toArray by simp, fold_rep s k]
    simp [repN, List.replicate_succ]
section
variable {X : Cx}
def rMulS : R2 := fun x y H Q => ∃ (s : List Nat) (k : Int), x = .str (mkS s) ∧ y = .int k ∧ 0 ≤ k ∧ k ≤ 1000 ∧ s.length ≤ 1000 ∧ Q (.str (mkS (repN k.toNat s))) H
theorem op_mulS : OpR X (binaryOp .Mult) rMulS := by
  intro pins s σ H x y v u Q I rx ry h
  obtain ⟨a, k, rfl, rfl, h0, h1, h2, q⟩ := h
  obtain ⟨t1, rfl⟩ := rx
  obtain ⟨t2, rfl⟩ := ry
  have hl : (mkS a).length = a.length := mkS_length a
  have hm : a.length * k.toNat ≤ 1000 * 1000 := Nat.mul_le_mul h2 (by omega)
  refine P.mul_str (by rw [decide_eq_false (by omega), decide_eq_false (by omega)]; rfl) (fun hk _ z => ?_) (fun hk _ => ?_) ?_
  · rw [hl] at z
    have : (1000 : Int) ≤ (2 ^ 63 - 1) / k := by
      rw [Int.le_ediv_iff_mul_le (by omega)]
      omega
    omega
  · rw [hl]
    exact PyProof.Rows.short24 (by omega)
  · by_cases hk : k < 1
    · rw [if_pos hk]
      have hk0 : k = 0 := by omega
      subst hk0
      exact ⟨by decide, ⟨.str Str.empty, H, I.tok _, ⟨_, rfl⟩, q⟩⟩
    · rw [if_neg hk]
      by_cases hc : (k == 1 || (mkS a).length == 0) = true
      · rw [if_pos hc]
        have e : repN k.toNat a = a := by
          rw [Bool.or_eq_true, beq_iff_eq, beq_iff_eq, hl] at hc
          rcases hc with hc | hc
          · subst hc; simp [repN]
          · rw [List.length_eq_zero_iff.mp hc]; simp [repN]
        rw [e] at q
        exact ⟨.str (mkS a), H, I, ⟨_, rfl⟩, q⟩
      · rw [if_neg hc]
        have e : (⟨(List.replicate k.toNat (mkS a).cps).foldl (· ++ ·) #[]⟩ : Str) = mkS (repN k.toNat a) := by
          have := fold_rep a k.toNat []
          rw [List.nil_append] at this
          show Str.mk _ = _
          rw [this]
        rw [e]
        exact ⟨by rw [mkS_length, repN_len, sizeLine_eq]; rw [Nat.mul_comm] at hm; omega, ⟨.str _, H, I.tok _, ⟨_, rfl⟩, q⟩⟩
/-! tuples -/
/-- a tuple taken once, or an empty one: itself; taken no time: the empty one -/
theorem tup_few {l : Addr} {its : Array Value} {m : Nat} {od : Option Addr} {os : Array (Option Value)} {x : Int} {u : Tok} (hx : x = 0 ∨ x = 1) :
    Meets (Builtin.«tuple.__mul__» ⟨[.ref l, .int x u], []⟩) fun _ R s => s.heap.get? l = some ⟨.type "tuple", od, .seq its m, os⟩ ∧
      (its.isEmpty = true ∨ x = 1 → R (.ok (.ret (.ref l))) s) ∧ (its.isEmpty = false → x = 0 → R (.ok (.ret (.ref s.heap.objs.size))) { s with heap := s.heap.push { cls := .type "tuple", data := .seq #[] } }) := by
  refine .of_wp fun prog w A R s ⟨at_, same, none_⟩ => ?_
  have index := AutoSeq1.idx_int
  cases s
  rcases hx with rfl | rfl
  · cases h : its.isEmpty
    · wp_walk using wpAny_loadPart' at_
      try simp only [h]
      wp_walk using wpAny_loadPart' at_
      exact ⟨_, rfl, none_ h rfl⟩
    · wp_walk using wpAny_loadPart' at_
      try simp only [h]
      wp_walk using wpAny_loadPart' at_
      exact ⟨_, rfl, same (.inl h)⟩
  · wp_walk using wpAny_loadPart' at_
    exact ⟨_, rfl, same (.inr rfl)⟩
/-- an empty one, however often -/
theorem tup_empty {l : Addr} {m : Nat} {od : Option Addr} {os : Array (Option Value)} {x : Int} {u : Tok} (lo : 0 ≤ x) (hi : x ≤ 1000) :
    Meets (Builtin.«tuple.__mul__» ⟨[.ref l, .int x u], []⟩) fun _ R s => s.heap.get? l = some ⟨.type "tuple", od, .seq #[] m, os⟩ ∧ R (.ok (.ret (.ref l))) s := by
  refine .of_wp fun prog w A R s ⟨at_, same⟩ => ?_
  have index := AutoSeq1.idx_int
  have fits : ((decide (x < -(2 ^ 63)) || decide (x ≥ 2 ^ 63)) = true) = False := by simp; omega
  cases s
  wp_walk using wpAny_loadPart' at_
  simp only [fits, if_false]
  wp_walk using wpAny_loadPart' at_
  exact ⟨_, rfl, same⟩
def rMulT (K : PySem.W.Frag) : R2 := fun x y H Q => ∃ l k xs, x = .ref l ∧ y = .int k ∧ SqT K H l xs ∧ 0 ≤ k ∧ k ≤ 1000 ∧ xs.length ≤ 1000 ∧ (repN k.toNat xs = xs → Q (.ref l) H) ∧ ∀ p, H p = none → Q (.ref p) (upd H p (.tup (repN k.toNat xs)))
theorem repN_one {α : Type} (xs : List α) : repN 1 xs = xs := by simp [repN]
theorem repN_nil {α : Type} (k : Nat) : repN k ([] : List α) = [] := by simp [repN]
theorem op_mulT : OpR X (binaryOp .Mult) (rMulT X.K) := by
  intro pins s σ H x y v u Q I rx ry h
  obtain ⟨l, k, xs, rfl, rfl, hT, lo, hi, hz, q1, q2⟩ := h
  by_cases often : xs ≠ [] ∧ 2 ≤ k
  · exact op_repT pins s σ H _ _ v u Q I rx ry ⟨l, k, xs, rfl, rfl, hT, often.1, often.2, hi, hz, q2⟩
  cases rx
  obtain ⟨t, rfl⟩ := ry
  obtain ⟨its, r, ⟨⟨cls, od, data, os⟩, at_, hc, m, hd⟩, _⟩ := I.tuple hT
  obtain rfl : cls = .type "tuple" := hc
  obtain rfl : data = .seq its.toArray m := hd
  have road : ∀ {S : PySem.Spec}, Meets (Builtin.«tuple.__mul__» ⟨[.ref l, .int k t], []⟩) S → S X.A (wants (EP X pins σ Q) X.xe) s → wpAny (model X.prog X.w) X.A (binaryOp .Mult (.ref l) (.int k t)) (EP X pins σ Q) X.xe s := fun M h => by
    refine wpAny_binaryOp_repeat_ref (T := "tuple") (U := "int") (by decide) ⟨_, at_, rfl⟩ (fun z => typeIs_int z k t) noFill_tuple_mul F.fills_int_mul F.slot_int_rmul repeat_tuple F.slot_int_index.lookup ?_
    refine call_meets F.slot_int_rmul (typeIs_int s k t) F.entry_int_rmul (F.args_int_rmul_2 _ _) (int_rmul_tuple k t l its.toArray m od os) ⟨at_, rfl, ⟨_, at_, rfl⟩, ?_⟩
    exact call_meets F.slot_tuple_mul ⟨_, at_, rfl⟩ F.entry_tuple_mul (F.args_tuple_mul_2 _ _) M h
  cases its with
  | nil =>
    obtain rfl : xs = [] := List.eq_nil_of_length_eq_zero r.length
    exact road (tup_empty lo hi) ⟨at_, .ref l, H, I, rfl, q1 (repN_nil _)⟩
  | cons a its =>
    have ne : xs ≠ [] := fun z => by subst z; cases r
    have few : k = 0 ∨ k = 1 := by
      have : ¬ 2 ≤ k := fun z => often ⟨ne, z⟩
      omega
    refine road (tup_few few) ⟨at_, fun z => ?_, fun _ z => ?_⟩
    · obtain rfl : k = 1 := z.resolve_left (fun y => by cases y)
      exact ⟨.ref l, H, I, rfl, q1 (repN_one _)⟩
    · subst z
      refine ⟨.ref s.heap.objs.size, _, I.laid (t' := s.toks) (o := .tup []) (fun b ob q => Heap.get?_push_of_some _ q) (Nat.le_refl _) ⟨Nat.zero_le _, [], .nil, IsTup.new _ _⟩, rfl, ?_⟩
      exact q2 _ (I.hok.fresh (Nat.le_refl _))
def repOk (k : Int) (n : Nat) : Bool := decide (0 ≤ k ∧ k ≤ 1000 ∧ n ≤ 1000)
def gMulR : D → D → Option PR
  | .str s, .int k => if repOk k s.length = true then some (.sc (.str (repN k.toNat s))) else none
  | .lst ds, .int k => if repOk k ds.length = true then some (.nl (repN k.toNat ds)) else none
  | .tup ds, .int k => if repOk k ds.length = true then some (.nt (repN k.toNat ds)) else none
  | _, _ => none
theorem RepL.rep {w : World} {K : PySem.W.Frag} {F : Hp} {vs : List V} {ds : List D} (r : RepL w K F vs ds) : ∀ k : Nat, RepL w K F (repN k vs) (repN k ds)
  | 0 => .nil
  | k + 1 => by
    have := r.append (RepL.rep r k)
    simpa [repN, List.replicate_succ] using this
theorem rep_fit {k : Int} {n : Nat} (h0 : 0 ≤ k) (h1 : k ≤ 1000) (h2 : n ≤ 1000) : n * k.toNat ≤ sizeLine := by
  have : n * k.toNat ≤ 1000 * 1000 := Nat.mul_le_mul h2 (by omega)
  rw [sizeLine_eq]; omega
theorem repN_same {α β : Type} {k : Nat} {vs : List α} {ds : List β} (h : repN k vs = vs) (hl : vs.length = ds.length) : repN k ds = ds := by
  have e := congrArg List.length h
  rw [repN_len] at e
  by_cases hz : vs.length = 0
  · have : ds = [] := List.eq_nil_of_length_eq_zero (by omega)
    rw [this]; exact repN_nil _
  · have hk : k = 1 := by
      have : k * vs.length = 1 * vs.length := by omega
      exact Nat.eq_of_mul_eq_mul_right (by omega) this
    rw [hk]; exact repN_one _
theorem opG_mulR : OpG X (binaryOp .Mult) gMulR := by
  refine ⟨_, op_mulS.or (op_rep.or op_mulT), fun F H x y d1 d2 p Q s t1 t2 e q => ?_⟩
  cases d1 <;> cases d2 <;> simp only [gMulR] at e <;> try (cases e; done)
  · split at e
    · rename_i hr
      cases e
      obtain ⟨h0, h1, h2⟩ := of_decide_eq_true hr
      obtain ⟨rfl, o1, l1⟩ := t1.str
      rw [t2.int]
      refine .inl ⟨_, _, rfl, rfl, h0, h1, h2, q _ (.str _ (repN_all _ o1) ?_)⟩
      rw [repN_len, Nat.mul_comm]
      exact rep_fit h0 h1 h2
    · cases e
  · split at e
    · rename_i hr
      cases e
      obtain ⟨h0, h1, h2⟩ := of_decide_eq_true hr
      obtain ⟨a, vs, rfl, h, r⟩ := t1.tup s
      rw [t2.int]
      have hl := r.length
      refine .inr (.inr ⟨a, _, vs, rfl, rfl, h, h0, h1, by rw [hl]; exact h2, fun z => ?_, fun p n => q.2 p _ n (r.rep _)⟩)
      rcases t1 with t1 | ⟨a', z', t1⟩
      · rw [repN_same z hl] at q
        exact q.1 _ t1
      · exact False.elim t1
    · cases e
  · split at e
    · rename_i hr
      cases e
      obtain ⟨h0, h1, h2⟩ := of_decide_eq_true hr
      obtain ⟨a, vs, rfl, h, r⟩ := t1.lst s
      rw [t2.int]
      have hl := r.length
      exact .inr (.inl ⟨a, _, vs, rfl, rfl, h, by omega, by omega, by rw [hl]; exact rep_fit h0 h1 h2, fun p n => q p _ n (r.rep _)⟩)
    · cases e
/-! min of three, sum -/
def g3 (g : D → D → D → Option PR) : List D → Option PR
  | [d, e, f] => g d e f
  | _ => none
def gMin3 : D → D → D → Option PR
  | .int a, .int b, .int c => some (.sc (.int (if b < a then (if c < b then c else b) else (if c < a then c else a))))
  | _, _, _ => none
def rMin3 : List V → Hp → VK → Prop := fun xs H Q => ∃ a b c : Int, xs = [.int a, .int b, .int c] ∧ Q (.int (if b < a then (if c < b then c else b) else (if c < a then c else a))) H
theorem call_min3 (hc : X.calm = true) : CallR X (.builtin "min") rMin3 := by
  intro pins s σ H xs us Q I r h
  obtain ⟨a, b, c, rfl, q⟩ := h
  cases r with
  | cons r1 r =>
    cases r with
    | cons r2 r =>
      cases r with
      | cons r3 r =>
        cases r
        obtain ⟨t1, rfl⟩ := r1
        obtain ⟨t2, rfl⟩ := r2
        obtain ⟨t3, rfl⟩ := r3
        refine min_three_ints (I.ok.hd hc) fun h' tk k => ⟨_, H, I.kept k, ?_, q⟩
        by_cases h1 : b < a
        · by_cases h2 : c < b
          · simp only [if_pos h1, if_pos h2]; exact ⟨t3, rfl⟩
          · simp only [if_pos h1, if_neg h2]; exact ⟨t2, rfl⟩
        · by_cases h2 : c < a
          · simp only [if_neg h1, if_pos h2]; exact ⟨t3, rfl⟩
          · simp only [if_neg h1, if_neg h2]; exact ⟨t1, rfl⟩
theorem fn_min3 (hc : X.calm = true) : FnG X (.builtin "min") (g3 gMin3) := by
  refine ⟨_, call_min3 hc, fun F H vs ds p Q s t e q => ?_⟩
  unfold g3 at e
  split at e
  · rename_i d1 d2 d3
    cases t with
    | cons r1 t =>
      cases t with
      | cons r2 t =>
        cases t with
        | cons r3 t =>
          cases t
          cases d1 <;> cases d2 <;> cases d3 <;> simp only [gMin3] at e <;> try (cases e; done)
          cases e
          rw [r1.int, r2.int, r3.int]
          exact ⟨_, _, _, rfl, q _ (.int _)⟩
  · cases e
def intsD : List D → Option (List Int)
  | [] => some []
  | .int i :: ds => (intsD ds).map (i :: ·)
  | _ :: _ => none
def gSum : D → Option PR
  | .lst ds => (intsD ds).map fun ns => .sc (.int ns.sum)
  | _ => none
theorem intsD_rep {w : World} {K : PySem.W.Frag} {F : Hp} : ∀ {ds : List D} {ns : List Int} {vs : List V}, intsD ds = some ns → RepL w K F vs ds → vs = ns.map V.int
  | [], _, _, h, r => by cases h; cases r; rfl
  | d :: ds, ns, _, h, r => by
    cases r with
    | cons r1 r2 =>
      cases d with
      | int b =>
        cases r1
        unfold intsD at h
        cases e : intsD ds with
        | none => rw [e] at h; cases h
        | some ns' =>
          rw [e] at h; cases h
          rw [intsD_rep e r2]; rfl
      | _ => cases h
theorem fn_sum (hc : X.calm = true) : FnG X (.builtin "sum") (g1 gSum) := by
  refine ⟨_, cr_sum hc, fun F H vs ds p Q s t e q => ?_⟩
  obtain ⟨d, rfl, e⟩ := g1_some e
  obtain ⟨v, rfl, tv⟩ := vals_one t rfl
  cases d with
  | lst ds =>
    obtain ⟨a, vs, rfl, h, r⟩ := tv.lst s
    have e : (intsD ds).map (fun ns => PR.sc (.int ns.sum)) = some p := e
    cases eb : intsD ds with
    | none => rw [eb] at e; cases e
    | some ns =>
      rw [eb] at e; cases e
      have := intsD_rep eb r
      subst this
      exact ⟨a, ns, rfl, .of h, q _ (.int _)⟩
  | _ => cases e
end
section
variable {Q : R → WS.Env → Prop} {X : Ex → WS.Env → Prop} {ρ : WS.Env}
theorem w_mulS {s : List Nat} {k : Int} (h0 : 0 ≤ k) (h1 : k ≤ 1000) (h2 : s.length ≤ 1000) (q : Q (.fro (.str (repN k.toNat s))) ρ) : wE (outP ρ (gMulR (.str s) (.int k))) Q X := by
  show wE (outP ρ (if repOk k s.length = true then some (.sc (.str (repN k.toNat s))) else none)) Q X
  rw [if_pos (show repOk k s.length = true from decide_eq_true ⟨h0, h1, h2⟩)]; exact q
theorem w_mulL {ds : List D} {k : Int} (h0 : 0 ≤ k) (h1 : k ≤ 1000) (h2 : ds.length ≤ 1000) (q : Q (.tmp (.lst (repN k.toNat ds))) ρ) : wE (outP ρ (gMulR (.lst ds) (.int k))) Q X := by
  show wE (outP ρ (if repOk k ds.length = true then some (.nl (repN k.toNat ds)) else none)) Q X
  rw [if_pos (show repOk k ds.length = true from decide_eq_true ⟨h0, h1, h2⟩)]; exact q
theorem w_mulT {ds : List D} {k : Int} (h0 : 0 ≤ k) (h1 : k ≤ 1000) (h2 : ds.length ≤ 1000) (q : Q (.fro (.tup (repN k.toNat ds))) ρ) : wE (outP ρ (gMulR (.tup ds) (.int k))) Q X := by
  show wE (outP ρ (if repOk k ds.length = true then some (.nt (repN k.toNat ds)) else none)) Q X
  rw [if_pos (show repOk k ds.length = true from decide_eq_true ⟨h0, h1, h2⟩)]; exact q
end
theorem repN_rep {α : Type} (k : Nat) (x : α) : repN k [x] = List.replicate k x := by
  induction k with
  | zero => rfl
  | succ k ih =>
    have : repN (k + 1) [x] = x :: repN k [x] := by simp [repN, List.replicate_succ]
    rw [this, ih, List.replicate_succ]
end WS
/-! Wzu: text.upper(). -/
namespace WS
open PySem PySem.Spec PyProof.Rows L2
def upS (s : List Nat) : List Nat := (Txt.upper (mkS s)).cps.toList
def gUpper : D → Option PR
  | .str s => if (decide (s.length ≤ 1000) && (okS (upS s) && decide ((upS s).length ≤ 16777216))) = true then some (.sc (.str (upS s))) else none
  | _ => none
section
variable {X : Cx} {c : XC} {W : WX}
theorem se_upper {o : Expr} {fo : SemE} {apos pos : Pos} (ho : SE X c W o fo) (hbase : attributeBase o "upper" X.env (eval o X.env) = eval o X.env) (hline : (apos.endLine == pos.line) = true) : SE X c W (.Call (.Attribute o "upper" apos) [] [] pos) (eUn gUpper fo) := by
  refine ⟨PE.imp (pe_upper ho.pe hbase hline) fun σ H Q h => ?_, okE_un ho.ok⟩
  refine td_one (r := fun x H1 Q => (∃ a, x = V.str a) ∧ ∃ a, x = V.str a ∧ ([] : List V) = [] ∧ a.length ≤ 5592405 ∧ Q (.str (Txt.upper a)) H1) ho.ok (fun F H x d p Q s t e q => ?_) h
  cases d with
  | str s =>
    have e : (if (decide (s.length ≤ 1000) && (okS (upS s) && decide ((upS s).length ≤ 16777216))) = true then some (PR.sc (.str (upS s))) else none) = some p := e
    split at e
    · rename_i hc
      cases e
      rw [Bool.and_eq_true, Bool.and_eq_true, decide_eq_true_eq, decide_eq_true_eq] at hc
      obtain ⟨h1, h2, h3⟩ := hc
      obtain ⟨rfl, o1, l1⟩ := t.str
      refine ⟨⟨_, rfl⟩, _, rfl, rfl, by rw [mkS_length]; omega, ?_⟩
      have eu : Txt.upper (mkS s) = mkS (upS s) := by
        unfold upS
        cases Txt.upper (mkS s)
        simp
      rw [eu]
      exact q _ (.str _ h2 (by rw [sizeLine_eq]; exact h3))
    · cases e
  | _ => cases e
end
theorem up_any : gUpper (.str (sg "any")) = some (.sc (.str (sg "ANY"))) := by kernel_rfl
end WS
/-! Wzv: x is True, x is not False. -/
namespace WS
open PySem PySem.Spec PyProof.Rows L2
section
variable {M : Model} {A : Around} {E : Value → Shared → Prop} {s : Shared} {Q : Value → Shared → Prop}
theorem is_b {v : Value} {b : Bool} (hb : ∀ p, v ≠ .builtin p) (h : Q (.bool (v == .bool b)) s) : wpAny M A (compareOp .Is v (.bool b)) Q E s := by
  cases v <;> first | exact wpAny_pure h | exact absurd rfl (hb _)
theorem isnot_b {v : Value} {b : Bool} (hb : ∀ p, v ≠ .builtin p) (h : Q (.bool (!(v == .bool b))) s) : wpAny M A (compareOp .IsNot v (.bool b)) Q E s := by
  cases v <;> first | exact wpAny_pure h | exact absurd rfl (hb _)
end
section
variable {X : Cx}
theorem relV_nb {x : V} {v : Value} (h : RelV x v) : ∀ p, v ≠ .builtin p := by
  intro p e
  subst e
  cases x <;> first | (cases h; done) | (obtain ⟨t, e⟩ := h; cases e)
theorem relV_b {x : V} {v : Value} {b : Bool} (rx : RelV x v) : (v == Value.bool b) = decide (x = .bl b) := by
  cases x with
  | bl c =>
    obtain rfl : v = .bool c := rx
    cases b <;> cases c <;> rfl
  | _ => first
    | (cases rx; rfl)
    | (obtain ⟨t, rfl⟩ := rx; rfl)
theorem op_isB : OpR X (compareOp .Is) (fun x y H Q => ∃ b, y = .bl b ∧ Q (.bl (decide (x = .bl b))) H) := by
  intro pins s σ H x y v u Q I rx ry h
  obtain ⟨b, rfl, q⟩ := h
  cases ry
  exact is_b (relV_nb rx) (fin_bl I q (relV_b rx).symm)
theorem op_notB : OpR X (compareOp .IsNot) (fun x y H Q => ∃ b, y = .bl b ∧ Q (.bl (!decide (x = .bl b))) H) := by
  intro pins s σ H x y v u Q I rx ry h
  obtain ⟨b, rfl, q⟩ := h
  cases ry
  exact isnot_b (relV_nb rx) (fin_bl I q (by rw [relV_b rx]))
def isBl (b : Bool) : D → Bool
  | .bl c => decide (c = b)
  | _ => false
def gIsB (d : D) : D → Option PR
  | .bl b => some (.sc (.bl (isBl b d)))
  | _ => none
def gIsNotB (d : D) : D → Option PR
  | .bl b => some (.sc (.bl (!isBl b d)))
  | _ => none
theorem isB_top {w : World} {K : PySem.W.Frag} {F H : Hp} {v : V} {d : D} {b : Bool} (t : Top w K F H v d) : decide (v = .bl b) = isBl b d := by
  rcases t with t | ⟨a, rfl, t⟩
  · cases t <;> first | rfl | simp [isBl]
  · cases d <;> first | exact (show False from t).elim | rfl | simp [isBl]
theorem opG_isB : OpG X (compareOp .Is) gIsB := by
  refine ⟨_, op_isB, fun F H x y d1 d2 p Q s t1 t2 e q => ?_⟩
  cases d2 with
  | bl b =>
    cases e
    exact ⟨b, t2.bl, by rw [isB_top t1]; exact q _ (.bl _)⟩
  | _ => cases e
theorem opG_isnotB : OpG X (compareOp .IsNot) gIsNotB := by
  refine ⟨_, op_notB, fun F H x y d1 d2 p Q s t1 t2 e q => ?_⟩
  cases d2 with
  | bl b =>
    cases e
    exact ⟨b, t2.bl, by rw [isB_top t1]; exact q _ (.bl _)⟩
  | _ => cases e
end
theorem i_b1 (b c : Bool) : gIsB (.bl c) (.bl b) = some (.sc (.bl (decide (c = b)))) := rfl
theorem i_b2 (b c : Bool) : gIsNotB (.bl c) (.bl b) = some (.sc (.bl (!decide (c = b)))) := rfl
end WS
/-! Xa: a try whose one clause catches all that its body raises; what is caught stays known, as data. -/
namespace WS
open PySem PySem.Spec L2
open PyProof.Rows hiding St
theorem exT_ok {P : Program} {w : World} {H : Hp} {h : Heap} {a : Addr} {cls : Value} {d : Option Addr} {oe : Obj} {vs : Array Value} (e : h.get? a = some oe) (z : Zc cls d oe) (hd : oe.data = .fields vs) : ObjOk P w H h a (exT cls d a) :=
  ⟨⟨oe, vs, e, z, hd⟩, ⟨oe, e⟩, fun _ _ ⟨o, v, q, r⟩ k => ⟨o, v, k o q, r⟩⟩
section
variable {X : Cx} {pins : List (Addr × Obj)} {σ : St} {H : Hp} {s sI : Shared}
/-- an object that was not there before is tracked from now on -/
theorem track (J : Inv X pins σ H sI) (I : Inv X pins σ H s) (hx : X.ex = []) {a : Addr} {oe : Obj} {vs : Array Value} {cls : Value} {d : Option Addr} (hn : sI.heap.get? a = none) (ha : s.heap.get? a = some oe) (z : Zc cls d oe) (hd : oe.data = .fields vs) (na : H a = none) (nL : a ≠ X.env.locals) : Inv X pins σ (upd H a (exT cls d a)) s := by
  have keep : ∀ {b : Addr} {o : HO}, H b = some o → upd H a (exT cls d a) b = some o := fun {b o} e => by
    rw [upd_ne (ne_of_none e na)]; exact e
  have none' : ∀ {b : Addr}, b ≠ a → H b = none → upd H a (exT cls d a) b = none := fun {b} n e => by
    rw [upd_ne n]; exact e
  have old : ∀ b o, X.s_0.heap.get? b = some o → b ≠ a := fun b o e z => by
    obtain ⟨o', q⟩ := J.base.there b o e (by rw [hx]; exact fun z => nomatch z)
    rw [z, hn] at q; cases q
  have base := I.base
  exact { I with
    base := { base with
      free := fun b o e n q => none' (old b o e) (base.free b o e n q)
      tups := fun b xs e => keep (base.tups b xs e)
      frzs := fun b o u e => keep (base.frzs b o u e)
      tbls := fun b ps e => (base.tbls b ps e).imp fun _ q => keep q }
    free := none' (Ne.symm nL) I.free
    freeC := fun x c e => none' (fun z => by
      obtain ⟨v, o, q1, q2⟩ := I.cell x c e
      rw [z, ha] at q1; cases q1
      rw [hd] at q2; cases q2) (I.freeC x c e)
    pin := fun p hp => by
      obtain ⟨q0, q1, q2⟩ := I.pin p hp
      refine ⟨q0, none' (fun z => ?_) q1, q2⟩
      have q := (J.pin p hp).1
      rw [z, hn] at q; cases q
    hok := fun b u e => by
      by_cases hb : b = a
      · subst hb
        rw [upd_same] at e; cases e
        exact exT_ok ha z hd
      · rw [upd_ne hb] at e
        exact (I.hok b u e).stay (fun _ _ _ q => q) (fun _ q => keep q) fun _ _ q => keep q }
/-- an exception in the air of a def's body: where it lies, what it left as it was -/
structure Air (X : Cx) (pins : List (Addr × Obj)) (σ : St) (H : Hp) (a : Addr) (B : Heap) (sI s : Shared) : Prop where
  inv : Inv X pins σ H sI
  st : X.stack = X.env :: X.outer
  fr : X.env.frame = some X.env.locals
  ex : X.ex = []
  low : ∀ b o, sI.heap.get? b = some o → b ∉ frs X.stack → B.get? b = some o
  new : H a = none
  os : s.os = sI.os
  bare : AllBare s.gens
/-- once it has landed it may be tracked -/
theorem Air.inv' {a : Addr} {B h : Heap} {cls : Value} {d : Option Addr} (r : Air X pins σ H a B sI s) (f : HandSPX.FlyingZ B (X.env :: X.outer) a (Zc cls d) h) (u : sI.heap.UpToSlots h) : Inv X pins σ (upd H a (exT cls d a)) { s with heap := h } := by
  obtain ⟨oe, vs, e, z, hd⟩ := f.there
  have out : a ∉ frs X.stack := by
    rw [r.st]
    intro m
    obtain ⟨_, o, e2, n⟩ := f.2.2.1.mem m
    rw [e] at e2; cases e2
    exact n _ hd
  refine track r.inv (r.inv.landed (s' := { s with heap := h }) r.low f.1 u r.os r.bare) r.ex ?_ e z hd r.new fun q => out ?_
  · cases q : sI.heap.get? a with
    | none => rfl
    | some o => have := r.low a o q out; rw [f.2.1] at this; cases this
  · rw [r.st]; exact List.mem_filterMap.mpr ⟨X.env, List.mem_cons_self .., by rw [r.fr, q]⟩
/-- the clause's suite lives in a context of its own .. -/
theorem in_suite (I : Inv X pins σ H s) (a : Addr) : Inv (X.suite a (X.pn ++ pins)) [] σ H s :=
  { I with ok := I.ok.suite _ _, pin := fun p hp => I.pin p (by simpa using hp) }
/-- .. and gives it back -/
theorem of_suite {a : Addr} (ok : X.Ok) (I : Inv (X.suite a (X.pn ++ pins)) [] σ H s) : Inv X pins σ H s :=
  { I with ok := ok, pin := fun p hp => I.pin p (by simpa using hp) }
/-- where the suite ends, its name is gone -/
def endsAs (i : Nat) (D : Ends) : Ends := { nx := fun σ H => D.nx (σ.set i none) H, rt := D.rt, bk := fun σ H => D.bk (σ.set i none) H, ct := fun σ H => D.ct (σ.set i none) H }
/-- a suite's end, seen from the statement -/
theorem close {a : Addr} {i : Nat} {n : Str} {pos : Pos} {D : Ends} {fl : Flow} (ok : X.Ok) (hN : X.N.Nodup) (hi : X.N[i]? = some n) (hl : X.env.kindOf n = some .local) (q : SP (X.suite a (X.pn ++ pins)) [] (endsAs i D) fl s) :
    wpAny (model X.prog X.w) X.A (do bindName X.env n .none; unbindBehindTheSuite X.env n pos) (fun _ z => SP X pins D fl z) X.xe s := by
  have go : ∀ {σ : St} {H : Hp} {P : Shared → Prop}, Inv (X.suite a (X.pn ++ pins)) [] σ H s → (∀ z, Inv X pins (σ.set i none) H z → P z) → wpAny (model X.prog X.w) X.A (do bindName X.env n .none; unbindBehindTheSuite X.env n pos) (fun _ z => P z) X.xe s :=
    fun I p => gone_ok (of_suite ok I) hN hi hl p
  cases fl with
  | ret u => obtain ⟨v, σ, H, I, r, w⟩ := q; exact go I fun z J => ⟨v, _, H, J, r, w⟩
  | next => obtain ⟨σ, H, I, w⟩ := q; exact go I fun z J => ⟨_, H, J, w⟩
  | brk => obtain ⟨σ, H, I, w⟩ := q; exact go I fun z J => ⟨_, H, J, w⟩
  | cont => obtain ⟨σ, H, I, w⟩ := q; exact go I fun z J => ⟨_, H, J, w⟩
/-- the clause, when it names a class of the module and catches -/
theorem clause_ok {x n : Str} {C a : Addr} {B h : Heap} {cls : Value} {d : Option Addr} {i : Nat} {b₀ : Stmt} {suite : List Stmt} {np pos : Pos} {D : Ends} {ts : TS} (r : Air X pins σ H a B sI s) (f : HandSPX.FlyingZ B (X.env :: X.outer) a (Zc cls d) h) (u : sI.heap.UpToSlots h)
    (hN : X.N.Nodup) (hi : X.N[i]? = some n) (hl : X.env.kindOf n = some .local) (hg : Gl X x) (hm : X.mg x = some (.ref C)) (hdb : (x == ("__debug__" : Str)) = false) (he : PySem.W.exmOne X.K cls (.ref C) = some true)
    (hsu : PSs (X.suite a (X.pn ++ pins)) (b₀ :: suite) ts) (want : ts (endsAs i D) (σ.set i (some (.ref a))) (upd H a (exT cls d a))) :
    wpAny (model X.prog X.w) X.A (handleBy (.ref a) X.env [.ExceptHandler (some (.Name x np)) (some n) (b₀ :: suite) pos]) (SP X pins D) X.xe { s with heap := h } := by
  obtain ⟨oe, vs, e, z, _⟩ := f.there
  have ty : PySem.W.Looks (model X.prog X.w) h (typeOf (.ref a)) cls := fun _ _ _ _ k q => wpAny_typeOf_ref (k _ _ e) (by rw [z.1]; exact q)
  have I0 := in_suite (r.inv' f u) a
  refine wpAny_handleBy_cons (codeAny_handlers_test (ld_glob (X := X.suite a (X.pn ++ pins)) I0 hg hm ((PySem.W.exm_one I0.kIn ty he).here ?_) hdb)) (fun q => nomatch q)
  refine codeAny_handlers_suite_as (HandSPX.lands_againZ f fun h2 f2 u2 => ?_)
  refine store_ok (X := X.suite a (X.pn ++ pins)) (v := .ref a) (in_suite (r.inv' f2 (u.trans u2)) a) hN hi (.inl hl) rfl (fun s2 I2 => ?_) (.inr hl)
  exact wpAny_mono (hsu.run [] s2 _ _ _ I2 want) (fun fl s3 q => close r.inv.ok hN hi hl q) fun _ _ q => q.elim
/-- what the body's exceptions must bear: they are caught, and the suite goes on from there -/
def wOne (K : PySem.W.Frag) (C : Addr) (i : Nat) (ts : TS) (D : Ends) : WX := fun cls d σ H => PySem.W.exmOne K cls (.ref C) = some true ∧ ∀ a, H a = none → ts (endsAs i D) (σ.set i (some (.ref a))) (upd H a (exT cls d a))
theorem ps_one {x n : Str} {C : Addr} {i : Nat} {body suite : List Stmt} {b₀ : Stmt} {np p2 pos : Pos} {tb : WX → TS} {ts : TS} (st : X.stack = X.env :: X.outer) (fr : X.env.frame = some X.env.locals) (ex : X.ex = []) (hN : X.N.Nodup) (hi : X.N[i]? = some n) (hl : X.env.kindOf n = some .local) (hg : Gl X x) (hm : X.mg x = some (.ref C)) (hdb : (x == ("__debug__" : Str)) = false)
    (hb : ∀ W pn xe, Takes (X.tr pn xe) W → PassesOwn (model X.prog X.w) X.A X.env xe → PSs (X.tr pn xe) body (tb W)) (hsu : ∀ a pn, PSs (X.suite a pn) (b₀ :: suite) ts) :
    PS X (.Try body [.ExceptHandler (some (.Name x np)) (some n) (b₀ :: suite) p2] [] [] pos) fun D σ H => tb (wOne X.K C i ts D) D σ H := by
  refine ⟨fun pins s σ H D I q => wpAny_Try_except (wpAny_mono ((hb (wOne X.K C i ts D) (X.pn ++ pins) _ ?_ .looking).run [] s σ H D (I.toTry _) q) (fun fl s1 z => ?_) fun _ _ z => z)⟩
  · rintro _ s1 ⟨a, B, sI, _, σ1, H1, cls, d, rfl, J, low, up, sky, na, os, bare, he, want⟩
    have r : Air X pins σ1 H1 a B sI s1 := ⟨J.ofTry I.ok, st, fr, ex, low, na, os, bare⟩
    exact Sky.land Zc.steady (by rw [I.ok.frames, st]) fr (by rw [← st]; exact sky) fun h f u => clause_ok r f (up.trans u) hN hi hl hg hm hdb he (hsu a _) (want a na)
  · cases fl with
    | next => obtain ⟨σ1, H1, J, w⟩ := z; exact wpAny_execs_nil ⟨σ1, H1, J.ofTry I.ok, w⟩
    | ret u => obtain ⟨v, σ1, H1, J, w⟩ := z; exact ⟨v, σ1, H1, J.ofTry I.ok, w⟩
    | brk => obtain ⟨σ1, H1, J, w⟩ := z; exact ⟨σ1, H1, J.ofTry I.ok, w⟩
    | cont => obtain ⟨σ1, H1, J, w⟩ := z; exact ⟨σ1, H1, J.ofTry I.ok, w⟩
end
end WS
/-! Xb: try as a statement's meaning; raise. -/
namespace WS
open PySem L2
def unE (i : Nat) : SOut → SOut
  | .nx ρ => .nx (ρ.set i .un)
  | .bk ρ => .bk (ρ.set i .un)
  | .ct ρ => .ct (ρ.set i .un)
  | .rt (.at _) _ => .bad
  | .rt r ρ => .rt r (ρ.set i .un)
  | .exn _ _ => .bad
  | .bad => .bad
def kTry (i : Nat) (tab : String → Option Bool) (fs : SemS) : SOut → SOut
  | .exn x ρ => match tab x.cls with
    | some true => if (ρ.getD i .un).lent = true then .bad else unE i (fs (ρ.set i (.fz (.err x.cls x.fs))))
    | _ => .bad
  | o => o
/-- try: fb, except the classes that tab tells, as i: fs -/
def sTry (i : Nat) (tab : String → Option Bool) (fb fs : SemS) : SemS := fun ρ => kTry i tab fs (fb ρ)
section
variable {w : World} {K : PySem.W.Frag} {c : XC} {W : WX} {σ : St} {F H : Hp} {ρ : Env}
theorem unset_get {ρ : Env} {i j : Nat} {sl : Sl} (h : (ρ.set i .un)[j]? = some sl) (ht : sl.there = true) : j ≠ i ∧ ρ[j]? = some sl := by
  by_cases hj : i = j
  · subst hj
    by_cases hl : i < ρ.length
    · rw [List.getElem?_set_self hl] at h; cases h; cases ht
    · rw [List.getElem?_eq_none (by simpa using hl)] at h; cases h
  · rw [List.getElem?_set_ne hj] at h; exact ⟨Ne.symm hj, h⟩
theorem own_there {sl : Sl} (h : sl.own = true) : sl.there = true := by cases sl <;> first | rfl | cases h
theorem StR.unset (S : StR w K F H σ ρ) (i : Nat) : StR w K F H (σ.set i none) (ρ.set i .un) := by
  refine ⟨S.sub, by simpa using S.len, fun j s e t => ?_, fun j k sj sk a ej ek tj tk vj vk => ?_⟩
  · obtain ⟨hj, e1⟩ := unset_get e t
    obtain ⟨v, e2, q⟩ := S.slot j s e1 t
    exact ⟨v, by rw [List.getElem?_set_ne (Ne.symm hj)]; exact e2, q⟩
  · obtain ⟨hj, e1⟩ := unset_get ej (own_there tj)
    obtain ⟨hk, e2⟩ := unset_get ek (own_there tk)
    rw [List.getElem?_set_ne (Ne.symm hj)] at vj
    rw [List.getElem?_set_ne (Ne.symm hk)] at vk
    exact S.inj j k sj sk a e1 e2 tj tk vj vk
theorem ownS_unset {i : Nat} {b : Addr} (h : ownS (σ.set i none) (ρ.set i .un) b) : ownS σ ρ b := by
  obtain ⟨j, s, e, t, q⟩ := h
  obtain ⟨hj, e1⟩ := unset_get e (own_there t)
  rw [List.getElem?_set_ne (Ne.symm hj)] at q
  exact ⟨j, s, e1, t, q⟩
theorem okT_unE {i : Nat} {ρ : Env} {o : SOut} (hi : (ρ.getD i .un).lent = false) (h : LkS ρ o) : LkS ρ (unE i o) := by
  have st : ∀ ρ2, LkT ρ ρ2 → LkT ρ (ρ2.set i .un) := fun ρ2 l => by
    refine LkT.trans l ?_
    by_cases hl : i < ρ2.length
    · have e := List.getElem?_eq_getElem hl
      have e0 := List.getElem?_eq_getElem (show i < ρ.length by rw [← l.1]; exact hl)
      refine Lk.set slT.refl e (slT_free ?_ rfl)
      rw [(l.2 i _ _ e0 e).lent]
      rw [getD_of e0] at hi
      exact hi
    · rw [List.set_eq_of_length_le (by omega)]
      exact LkT.refl ρ2
  cases o with
  | nx ρ2 => exact st _ h
  | bk ρ2 => exact st _ h
  | ct ρ2 => exact st _ h
  | rt r ρ2 => cases r <;> first | exact st _ h | trivial
  | exn x ρ2 => trivial
  | bad => trivial
theorem set_lk {ρ : Env} {i : Nat} {sl : Sl} (hi : (ρ.getD i .un).lent = false) (hs : sl.lent = false) : LkT ρ (ρ.set i sl) := by
  by_cases hl : i < ρ.length
  · have e := List.getElem?_eq_getElem hl
    refine Lk.set slT.refl e (slT_free ?_ hs)
    rw [getD_of e] at hi
    exact hi
  · rw [List.set_eq_of_length_le (by omega)]
    exact LkT.refl ρ
theorem getD_set_lent {ρ : Env} {i : Nat} {sl : Sl} (hs : sl.lent = false) : ((ρ.set i sl).getD i .un).lent = false := by
  by_cases hl : i < ρ.length
  · rw [List.getD_eq_getElem?_getD, List.getElem?_set_self hl]; exact hs
  · rw [List.getD_eq_getElem?_getD, List.getElem?_eq_none (by simpa using hl)]; rfl
theorem okT_try {i : Nat} {tab : String → Option Bool} {fb fs : SemS} (hb : okT fb) (hs : okT fs) : okT (sTry i tab fb fs) := fun ρ => by
  have h := hb ρ
  show LkS ρ (kTry i tab fs (fb ρ))
  cases e : fb ρ with
  | exn x ρ1 =>
    rw [e] at h
    have h : LkT ρ ρ1 := h
    show LkS ρ (match tab x.cls with | some true => _ | _ => _)
    cases tab x.cls with
    | none => trivial
    | some b =>
      cases b with
      | false => trivial
      | true =>
        show LkS ρ (if _ then _ else _)
        by_cases hl : (ρ1.getD i .un).lent = true
        · rw [if_pos hl]; trivial
        rw [if_neg hl]
        have hl : (ρ1.getD i .un).lent = false := by simpa using hl
        exact LkS.trans (LkT.trans h (set_lk hl rfl)) (okT_unE (getD_set_lent rfl) (hs _))
  | _ => rw [e] at h; exact h
end
section
variable {X : Cx} {c : XC} {W : WX}
theorem ss_try {x n : Str} {Ch : Addr} {i : Nat} {body suite : List Stmt} {b₀ : Stmt} {np pos pos' : Pos} {tab : String → Option Bool} {fb fs : SemS} (hs : X.stack = X.env :: X.outer) (hf : X.env.frame = some X.env.locals) (hex : X.ex = []) (hN : X.N.Nodup) (hi : X.N[i]? = some n) (hln : X.env.kindOf n = some .local) (hg : Gl X x) (hm : X.mg x = some (.ref Ch)) (hdb : (x == ("__debug__" : Str)) = false) (tk : TakesM .o X W) (hp : PassesOwn (model X.prog X.w) X.A X.env X.xe)
    (htab : ∀ m b, tab m = some b → ∀ C, clsIs X.K m C → PySem.W.exmOne X.K (.ref C) (.ref Ch) = some b)
    (hb : ∀ (W : WX) (pn : List (Addr × Obj)) (xe : Value → Shared → Prop), TakesM .o (X.tr pn xe) W → PassesOwn (model X.prog X.w) X.A X.env xe → SSs (X.tr pn xe) c W body fb)
    (hsu : ∀ (a : Addr) (pn : List (Addr × Obj)), SSs (X.suite a pn) c (fun _ _ _ _ => False) (b₀ :: suite) fs) :
    SS X c W (.Try body [.ExceptHandler (some (.Name x np)) (some n) (b₀ :: suite) pos'] [] [] pos) (sTry i tab fb fs) := by
  have okb : okT fb := (hb W X.pn X.xe tk hp).ok
  have oks : okT fs := (hsu 0 []).ok
  refine ⟨PS.imp (ps_one (tb := fun W => TSD X.w X.K c W fb) (ts := TSD X.w X.K c (fun _ _ _ _ => False) fs) hs hf hex hN hi hln hg hm hdb (fun W pn xe t p => (hb W pn xe t p).ps) (fun a pn => (hsu a pn).ps)) fun D σ H ⟨F, ρ, S, q⟩ => ⟨F, ρ, S, ?_⟩, okT_try okb oks⟩
  have q : PostS X.w X.K c W σ F H ρ (kTry i tab fs (fb ρ)) D := q
  have lk := okb ρ
  cases e : fb ρ with
  | exn x ρ1 =>
    rw [e] at q lk
    have lk : LkT ρ ρ1 := lk
    intro cls d σ' F' H' S1 ls xr fr
    obtain ⟨C, hC, rfl, hx⟩ := xr
    have q : PostS X.w X.K c W σ F H ρ (match tab x.cls with | some true => if (ρ1.getD i .un).lent = true then .bad else unE i (fs (ρ1.set i (.fz (.err x.cls x.fs)))) | _ => .bad) D := q
    cases ht : tab x.cls with
    | none => rw [ht] at q; exact False.elim q
    | some b =>
      cases b with
      | false => rw [ht] at q; exact False.elim q
      | true =>
        refine ⟨htab _ _ ht C hC, fun a na => ?_⟩
        rw [ht] at q
        have q : PostS X.w X.K c W σ F H ρ (if (ρ1.getD i .un).lent = true then .bad else unE i (fs (ρ1.set i (.fz (.err x.cls x.fs))))) D := q
        by_cases hl : (ρ1.getD i .un).lent = true
        · rw [if_pos hl] at q; exact False.elim q
        rw [if_neg hl] at q
        have hl : (ρ1.getD i .un).lent = false := by simpa using hl
        have nF := S1.sub.fresh na
        have m : Sub F' (upd F' a (exT (.ref C) d a)) := Sub.up nF
        have S2 := S1.new (S1.sub.upd (u := exT (.ref C) d a) na) m (upd_keep na) fun b z => by
          by_cases hb : b = a
          · subst hb; exact .inr na
          · exact .inl (by rw [upd_ne hb]; exact z)
        have rp : Rep X.w X.K (upd F' a (exT (.ref C) d a)) (.ref a) (.err x.cls x.fs) := .err hC upd_same (RepX.mono m hx)
        have S3 := S2.set (i := i) (sl := .fz (.err x.cls x.fs)) rp fun z => nomatch z
        have f2 : Fr F' H' (ownS σ' ρ1) (upd F' a (exT (.ref C) d a)) (upd H' a (exT (.ref C) d a)) (ownS (σ'.set i (some (.ref a))) (ρ1.set i (.fz (.err x.cls x.fs)))) := by
          refine ⟨fun b u z _ => upd_keep na b u z, fun b z => ?_, fun b u z => ?_, m⟩
          · rcases ownS_put S1.len z with z | ⟨z, _⟩
            · exact .inl z
            · cases z
          · by_cases hb : b = a
            · subst hb; exact .inr (.inr na)
            · rw [upd_ne hb] at z; exact .inl z
        have f3 := fr.trans f2 fun b z => z
        have ls3 : ∀ σ3 : St, LS (σ'.set i (some (.ref a))) σ3 (ρ1.set i (.fz (.err x.cls x.fs))) → LS σ (σ3.set i none) ρ := fun σ3 l j sl e1 t1 => by
          obtain ⟨s1, e2, t2⟩ := lk.get e1
          have l1 : s1.lent = true := by rw [t2.lent]; exact t1
          have hj : i ≠ j := fun z => by
            subst z
            rw [getD_of e2, l1] at hl; cases hl
          rw [List.getElem?_set_ne hj, l j s1 (by rw [List.getElem?_set_ne hj]; exact e2) l1, List.getElem?_set_ne hj]
          exact ls j sl e1 t1
        refine ⟨_, _, S3, ?_⟩
        cases ho : fs (ρ1.set i (.fz (.err x.cls x.fs))) with
        | bad => rw [ho] at q; exact q
        | exn y ρ2 => rw [ho] at q; exact False.elim q
        | nx ρ2 =>
          rw [ho] at q
          exact fun σ3 F3 H3 S4 l4 f4 => q _ F3 H3 (S4.unset i) (ls3 σ3 l4) ((f3.trans f4 fun b z => z).imp fun b z => ownS_unset z)
        | bk ρ2 =>
          rw [ho] at q
          exact fun σ3 F3 H3 S4 l4 f4 => q _ F3 H3 (S4.unset i) (ls3 σ3 l4) ((f3.trans f4 fun b z => z).imp fun b z => ownS_unset z)
        | ct ρ2 =>
          rw [ho] at q
          exact fun σ3 F3 H3 S4 l4 f4 => q _ F3 H3 (S4.unset i) (ls3 σ3 l4) ((f3.trans f4 fun b z => z).imp fun b z => ownS_unset z)
        | rt r ρ2 =>
          rw [ho] at q
          intro v σ3 F3 H3 S4 l4 er f4
          cases r with
          | «at» j => exact False.elim q
          | fro dd => exact q v _ F3 H3 (S4.unset i) (ls3 σ3 l4) er ((f3.trans f4 fun b z => z).imp fun b z => by
              rcases z with z | ⟨d2, z, z2⟩
              · exact .inl (ownS_unset z)
              · cases z)
          | tmp dd =>
            obtain ⟨b, rfl, nb, ow, no⟩ := er
            exact q _ _ F3 H3 (S4.unset i) (ls3 σ3 l4) ⟨b, rfl, nb, ow, fun z => no (ownS_unset z)⟩ ((f3.trans f4 fun b z => z).imp fun b z => by
              rcases z with z | ⟨d2, z, z2⟩
              · exact .inl (ownS_unset z)
              · exact .inr ⟨d2, z, z2⟩)
  | nx ρ1 => rw [e] at q; exact q
  | bk ρ1 => rw [e] at q; exact q
  | ct ρ1 => rw [e] at q; exact q
  | rt r ρ1 => rw [e] at q; exact q
  | bad => rw [e] at q; exact q
/-- raise C('text'): an own class without __init__ -/
def sRaise (n : String) : SemS := fun ρ => .exn ⟨n, []⟩ ρ
theorem ss_raise {md : Md} {x m : Str} {n : String} {j : Nat} {p p2 pos pos' : Pos} {C : Addr} (hc : X.calm = true) (tk : TakesM md X W) (hn : clsIs X.K n C) (q : PySem.W.excIn X.K C [.type "ValueError", .type "Exception", .type "BaseException", .type "object"] "ValueError.__new__" = true) (gC : X.mg x = some (.ref C)) (kC : PySem.W.keepIn X.K (.ref C) = true) (hg : Gl X x)
    (hdb : (x == ("__debug__" : Str)) = false) : SS X c W (.Raise (some (.Call (.Name x p) [.Constant (.str m) j p2] [] pos)) none pos') (sRaise n) := by
  refine ⟨PS.imp (t := fun _ σ H => W (.ref C) none σ H) ?_ fun D σ H ⟨F, ρ, S, h⟩ => ?_, fun ρ => LkT.refl ρ⟩
  · cases md
    · exact L2.ps_raise hc tk (L2.pmk_own PySem.F.excBase_ValueError q gC kC (raises_own hn.2.sb hn.2.ty) hg hdb)
    · exact L2N.ps_raise hc tk (L2N.pmk_own PySem.F.excBase_ValueError q gC kC (raises_own hn.2.sb hn.2.ty) hg hdb)
  exact h (.ref C) none σ F H S (fun _ _ _ _ => rfl) ⟨C, hn, rfl, .nil⟩ Fr.refl
end
end WS
/-! Xc: isinstance with classes of exceptions. -/
namespace WS
open PySem L2
def cAddr (K : PySem.W.Frag) (n : String) : Addr := match PySem.W.nsIn K mainGlobals (Str.ofString n) with
  | some (some (.ref C)) => C
  | _ => 0
theorem cAddr_of {K : PySem.W.Frag} {n : String} {C : Addr} (h : PySem.W.nsIn K mainGlobals (Str.ofString n) = some (some (.ref C))) : cAddr K n = C := by unfold cAddr; rw [h]
theorem clsIs_addr {K : PySem.W.Frag} {n : String} {C : Addr} (h : clsIs K n C) : C = cAddr K n := (cAddr_of h.1).symm
theorem all7 {p : String → Prop} (h1 : p "NoneType") (h2 : p "bool") (h3 : p "int") (h4 : p "str") (h5 : p "tuple") (h6 : p "list") (h7 : p "dict") : ∀ T ∈ names7, p T := by
  intro T hT
  simp only [names7, List.mem_cons, List.not_mem_nil, or_false] at hT
  rcases hT with rfl | rfl | rfl | rfl | rfl | rfl | rfl <;> assumption
def tabOf : List (String × Bool) → String → Option Bool
  | [], _ => none
  | (m, b) :: l, n => if n = m then some b else tabOf l n
theorem tabOf_mem : ∀ {l : List (String × Bool)} {n : String} {b : Bool}, tabOf l n = some b → (n, b) ∈ l
  | [], _, _, h => nomatch h
  | (m, b') :: l, n, b, h => by
    unfold tabOf at h
    split at h
    · rename_i e; cases h; subst e; exact List.mem_cons_self ..
    · exact List.mem_cons_of_mem _ (tabOf_mem h)
/-- what an except clause that names k catches -/
def ExmT (K : PySem.W.Frag) (k : Value) (l : List (String × Bool)) : Prop := ∀ p ∈ l, PySem.W.exmOne K (.ref (cAddr K p.1)) k = some p.2
theorem exmT_nil {K : PySem.W.Frag} {k : Value} : ExmT K k [] := fun _ h => nomatch h
theorem exmT_cons {K : PySem.W.Frag} {k : Value} {n : String} {b : Bool} {l : List (String × Bool)} (h : PySem.W.exmOne K (.ref (cAddr K n)) k = some b) (t : ExmT K k l) : ExmT K k ((n, b) :: l) := fun p hp => by
  rcases List.mem_cons.mp hp with rfl | hp
  · exact h
  · exact t p hp
theorem exmT_tab {K : PySem.W.Frag} {k : Value} {l : List (String × Bool)} (h : ExmT K k l) : ∀ m b, tabOf l m = some b → ∀ C, clsIs K m C → PySem.W.exmOne K (.ref C) k = some b := fun m b e C hc => by
  rw [clsIs_addr hc]
  exact h (m, b) (tabOf_mem e)
/-- isinstance: a class, what it answers of the exceptions -/
structure KitS (K : PySem.W.Frag) (u : Value) (l : List (String × Bool)) : Prop where
  no : ∀ T ∈ names7, PySem.W.kitOne K (.type T) u = some false
  yes : ∀ p ∈ l, PySem.W.kitOne K (.ref (cAddr K p.1)) u = some p.2
theorem kits_cons {K : PySem.W.Frag} {u : Value} {n : String} {b : Bool} {l : List (String × Bool)} (h : PySem.W.kitOne K (.ref (cAddr K n)) u = some b) (t : KitS K u l) : KitS K u ((n, b) :: l) := ⟨t.no, fun p hp => by
  rcases List.mem_cons.mp hp with rfl | hp
  · exact h
  · exact t.yes p hp⟩
theorem kits_nil {K : PySem.W.Frag} {u : Value} (h : ∀ T ∈ names7, PySem.W.kitOne K (.type T) u = some false) : KitS K u [] := ⟨h, fun _ h => nomatch h⟩
def gIsX (l : List (String × Bool)) (d : D) : Option PR := match d with
  | .err n _ => (tabOf l n).map fun b => .sc (.bl b)
  | _ => some (.sc (.bl false))
theorem kits_one {K : PySem.W.Frag} {u t : Value} {l : List (String × Bool)} {d : D} {p : PR} (k : KitS K u l) (ct : ClsV K d t) (e : gIsX l d = some p) : ∃ b, p = .sc (.bl b) ∧ PySem.W.kitOne K t u = some b := by
  cases d with
  | err n fs =>
    obtain ⟨C, hc, rfl⟩ := ct
    have e : (tabOf l n).map (fun b => PR.sc (.bl b)) = some p := e
    cases h : tabOf l n with
    | none => rw [h] at e; cases e
    | some b =>
      rw [h] at e; cases e
      refine ⟨b, rfl, ?_⟩
      rw [clsIs_addr hc]
      exact k.yes (n, b) (tabOf_mem h)
  | _ =>
    cases ct
    cases e
    exact ⟨false, rfl, k.no _ (by simp [tyN, names7])⟩
section
variable {X : Cx} {c : XC} {W : WX} {pos : Pos}
def rIsX (w : World) (K : PySem.W.Frag) (v2 : V) (u : Value) (l : List (String × Bool)) : List V → Hp → VK → Prop := fun xs H Q => ∃ x F d b, xs = [x, v2] ∧ (∀ u', RelV v2 u' → u' = u) ∧ Sub F H ∧ Top w K F H x d ∧ KitS K u l ∧ gIsX l d = some (.sc (.bl b)) ∧ Q (.bl b) H
theorem cr_isX {v2 : V} {u : Value} {l : List (String × Bool)} : CallR X (.builtin "isinstance") (rIsX X.w X.K v2 u l) := by
  intro pins s σ H xs us Q I r h
  obtain ⟨x, F, d, b, rfl, hu, sb, t, k, e, q⟩ := h
  obtain ⟨u1, u2, rfl, r1, r2⟩ := vals2 r
  cases hu u2 r2
  obtain ⟨t', P, ct, Z, p, hx⟩ := t.kit I sb r1
  obtain ⟨b', e', hk⟩ := kits_one k ct e
  cases e'
  exact PySem.W.kia_one Z I.kIn p hk hx fun tk => ⟨.bl _, H, I.tok tk, rfl, q⟩
/-- a class that a text names -/
structure ClsE (X : Cx) (e : Expr) (v : V) (u : Value) : Prop where
  pe : PE X e (tC v)
  one : ∀ u', RelV v u' → u' = u
theorem clsE_own {x : Str} {p : Pos} {C : Addr} (hg : Gl X x) (hm : X.mg x = some (.ref C)) (hd : (x == ("__debug__" : Str)) = false) : ClsE X (.Name x p) (.ref C) (.ref C) := ⟨pe_glob hg hm rfl hd, fun _ h => h⟩
theorem clsE_blt {x : Str} {p : Pos} {T : String} (hg : Gl X x) (hm : X.mg x = none) (hv : bootBuiltins x = some (.type T)) (hn : x ≠ "__name__") (hd : (x == ("__debug__" : Str)) = false) : ClsE X (.Name x p) (.ty T) (.type T) := ⟨pe_bltn hg hm hv rfl hn hd, fun _ h => h⟩
theorem se_isX {p p2 : Pos} {x2 : Str} {e : Expr} {v2 : V} {u : Value} {l : List (String × Bool)} {f : SemE} (he : SE X c W e f) (hc : ClsE X (.Name x2 p2) v2 u) (hk : KitS X.K u l) (hg : Gl X "isinstance") (hm : X.mg "isinstance" = none)
    (hs : starEach [e, .Name x2 p2] X.env = (false, eval e X.env) :: starEach [.Name x2 p2] X.env) : SE X c W (.Call (.Name "isinstance" p) [e, .Name x2 p2] [] pos) (eUn (gIsX l) f) := by
  refine ⟨PE.imp (pe_callB (cr_isX (v2 := v2) (u := u) (l := l)) hg hm (by decide +kernel) (pa_cons he.pe (pa_cons hc.pe pa_nil) hs) (by decide) (by decide) hs) fun σ H Q h => ?_, okE_un he.ok⟩
  refine td_one (r := fun x H Q => rIsX X.w X.K v2 u l [x, v2] H Q) he.ok (fun F H x d1 p Q s t e q => ?_) h
  have : ∃ b, p = .sc (.bl b) := by
    cases d1 with
    | err n fs =>
      have e : (tabOf l n).map (fun b => PR.sc (.bl b)) = some p := e
      cases h : tabOf l n with
      | none => rw [h] at e; cases e
      | some b => rw [h] at e; cases e; exact ⟨b, rfl⟩
    | _ => cases e; exact ⟨false, rfl⟩
  obtain ⟨b, rfl⟩ := this
  exact ⟨x, F, d1, b, rfl, hc.one, s, t, hk, e, q _ (.bl _)⟩
/-! ### isinstance(x, (C, ..)) -/
structure KitR (K : PySem.W.Frag) (us : List Value) (l : List (String × Bool)) : Prop where
  no : ∀ T ∈ names7, PySem.W.kitAny K (.type T) us = some false
  yes : ∀ p ∈ l, PySem.W.kitAny K (.ref (cAddr K p.1)) us = some p.2
def orT : List (String × Bool) → List (String × Bool) → List (String × Bool)
  | (n, b) :: l, (_, b') :: l' => (n, b || b') :: orT l l'
  | _, _ => []
theorem kitR_nil {K : PySem.W.Frag} (ns : List String) : KitR K [] (ns.map fun n => (n, false)) := ⟨fun T _ => kitAny_nil, fun p hp => by
  obtain ⟨n, _, rfl⟩ := List.mem_map.mp hp
  exact kitAny_nil⟩
theorem kitR_cons {K : PySem.W.Frag} {u : Value} {us : List Value} {l l' : List (String × Bool)} (h : KitS K u l) (t : KitR K us l') (e : l.map (·.1) = l'.map (·.1)) : KitR K (u :: us) (orT l l') := by
  refine ⟨fun T hT => kitAny_cons (h.no T hT) (fun _ => t.no T hT) (fun z => nomatch z), ?_⟩
  have g1 := h.yes
  have g2 := t.yes
  clear h t
  induction l generalizing l' with
  | nil => intro p hp; cases l' <;> exact nomatch hp
  | cons a l ih =>
    cases l' with
    | nil => cases e
    | cons a' l' =>
      obtain ⟨n, b⟩ := a
      obtain ⟨n', b'⟩ := a'
      injection e with e1 e2
      dsimp only at e1
      subst e1
      intro p hp
      rcases List.mem_cons.mp hp with rfl | hp
      · refine kitAny_cons (g1 (n, b) (List.mem_cons_self ..)) (fun z => ?_) fun z => ?_
        · have z : b = false := z
          subst z
          exact g2 (n, b') (List.mem_cons_self ..)
        · have z : b = true := z
          subst z; rfl
      · exact ih (l' := l') e2 (fun p hp => g1 p (List.mem_cons_of_mem _ hp)) (fun p hp => g2 p (List.mem_cons_of_mem _ hp)) p hp
inductive ClRow (X : Cx) : List Expr → List V → List Value → Prop
  | nil : ClRow X [] [] []
  | cons {e : Expr} {v : V} {u : Value} {es : List Expr} {vs : List V} {us : List Value} : ClsE X e v u → starEach (e :: es) X.env = (false, eval e X.env) :: starEach es X.env → ClRow X es vs us → ClRow X (e :: es) (v :: vs) (u :: us)
theorem ClRow.pa : ∀ {es : List Expr} {vs : List V} {us : List Value}, ClRow X es vs us → PA X es fun σ H Q => Q vs H
  | _, _, _, .nil => pa_nil
  | _, _, _, .cons h hs t => PA.imp (pa_cons h.pe t.pa hs) fun σ H Q h => h
theorem ClRow.len : ∀ {es : List Expr} {vs : List V} {us : List Value}, ClRow X es vs us → vs.length = es.length
  | _, _, _, .nil => rfl
  | _, _, _, .cons _ _ t => congrArg (· + 1) t.len
theorem ClRow.vals : ∀ {es : List Expr} {vs : List V} {us us' : List Value}, ClRow X es vs us → Vals vs us' → us' = us
  | _, _, _, _, .nil, .nil => rfl
  | _, _, _, _, .cons h _ t, .cons r rs => by rw [h.one _ r, t.vals rs]
theorem kitr_one {K : PySem.W.Frag} {t : Value} {us : List Value} {l : List (String × Bool)} {d : D} {p : PR} (k : KitR K us l) (ct : ClsV K d t) (e : gIsX l d = some p) : ∃ b, p = .sc (.bl b) ∧ PySem.W.kitAny K t us = some b := by
  cases d with
  | err n fs =>
    obtain ⟨C, hc, rfl⟩ := ct
    have e : (tabOf l n).map (fun b => PR.sc (.bl b)) = some p := e
    cases h : tabOf l n with
    | none => rw [h] at e; cases e
    | some b =>
      rw [h] at e; cases e
      refine ⟨b, rfl, ?_⟩
      rw [clsIs_addr hc]
      exact k.yes (n, b) (tabOf_mem h)
  | _ =>
    cases ct
    cases e
    exact ⟨false, rfl, k.no _ (by simp [tyN, names7])⟩
theorem se_isXs {p p' : Pos} {e : Expr} {es : List Expr} {ct} {vs : List V} {us : List Value} {l : List (String × Bool)} {f : SemE} (he : SE X c W e f) (ht : ClRow X es vs us) (hk : KitR X.K us l) (hl : decide (es.length ≤ 1000) = true) (hg : Gl X "isinstance") (hm : X.mg "isinstance" = none)
    (hs : starEach [e, .Tuple es ct p'] X.env = (false, eval e X.env) :: starEach [.Tuple es ct p'] X.env) : SE X c W (.Call (.Name "isinstance" p) [e, .Tuple es ct p'] [] pos) (eUn (gIsX l) f) := by
  refine ⟨PE.imp (pe_callB cr_isRow hg hm (by decide +kernel) (pa_cons he.pe (pa_cons (pe_tup ht.pa) pa_nil) hs) (by decide) (by decide) hs) fun σ H Q ⟨F, ρ, S, h⟩ => ?_, okE_un he.ok⟩
  refine td_bind he.ok S h fun x ra ρ1 F1 H1 l1 S1 e1 h1 => ?_
  have h1 : Post X.w X.K c W σ F1 H1 ρ1 (outP ρ1 (gIsX l (val ρ1 ra))) Q := h1
  refine ⟨by rw [ht.len]; exact n1000 hl, fun q hq => ?_⟩
  have t1 := e1.top S1
  have kp := upd_keep (u := .tup vs) hq
  have S2 : StR X.w X.K F1 (upd H1 q (.tup vs)) σ ρ1 := S1.new (S1.sub.new hq) (Sub.refl _) kp fun b z => .inl z
  have t2 : Top X.w X.K F1 (upd H1 q (.tup vs)) x (val ρ1 ra) := by
    rcases t1 with t1 | ⟨a, rfl, t1⟩
    · exact .inl t1
    · exact .inr ⟨a, rfl, t1.mono (Sub.refl _) (kp a)⟩
  generalize val ρ1 ra = d1 at h1 t2
  have hp : gIsX l d1 = none ∨ ∃ b, gIsX l d1 = some (.sc (.bl b)) := by
    cases d1 with
    | err n fs =>
      show (tabOf l n).map (fun b => PR.sc (.bl b)) = none ∨ ∃ b, (tabOf l n).map (fun b => PR.sc (.bl b)) = some (.sc (.bl b))
      cases tabOf l n with
      | none => exact .inl rfl
      | some b => exact .inr ⟨b, rfl⟩
    | _ => exact .inr ⟨false, rfl⟩
  rcases hp with hp | ⟨b, hp⟩
  · rw [hp] at h1; exact False.elim h1
  rw [hp] at h1
  have ans : ∀ t, ClsV X.K d1 t → PySem.W.kitAny X.K t us = some b := fun t ct => by
    obtain ⟨b', e, z⟩ := kitr_one hk ct hp
    cases e
    exact z
  refine ⟨x, F1, d1, vs, us, b, q, rfl, upd_same, S2.sub, t2, fun _ r => ht.vals r, ans, h1 _ F1 _ S2 (.bl _) ⟨fun b u z _ => kp b u z, fun b z => ?_, fun b u z => .inl z, Sub.refl _⟩⟩
  rcases z with z | ⟨d, z, _⟩
  · exact .inl z
  · cases z
end
end WS
/-! Xd: raise, try backwards. -/
namespace WS
open PySem L2
section
variable {N B C : Env → Prop} {T : R → Env → Prop} {X : XQ} {ρ : Env}
theorem w_raise (n : String) (ρ : Env) (N : Env → Prop) (T : R → Env → Prop) (B C : Env → Prop) (X : XQ) : wS (sRaise n ρ) N T B C X = X ⟨n, []⟩ ρ := rfl
def wTry (i : Nat) (tab : String → Option Bool) (fs : SemS) (N : Env → Prop) (T : R → Env → Prop) (B C : Env → Prop) (X : XQ) : XQ := fun x ρ => wS (kTry i tab fs (.exn x ρ)) N T B C X
theorem w_try (i : Nat) (tab : String → Option Bool) (fb fs : SemS) (ρ : Env) (N : Env → Prop) (T : R → Env → Prop) (B C : Env → Prop) (X : XQ) : wS (sTry i tab fb fs ρ) N T B C X = wS (fb ρ) N T B C (wTry i tab fs N T B C X) := by
  show wS (kTry i tab fs (fb ρ)) N T B C X = _
  cases e : fb ρ <;> rfl
def wUN (i : Nat) (N : Env → Prop) : Env → Prop := fun ρ => N (ρ.set i .un)
theorem w_UN (i : Nat) (N : Env → Prop) (ρ : Env) : wUN i N ρ = N (ρ.set i .un) := rfl
def notAt : R → Bool
  | .at _ => false
  | _ => true
def wUT (i : Nat) (T : R → Env → Prop) : R → Env → Prop := fun r ρ => notAt r = true ∧ T r (ρ.set i .un)
theorem w_UTf (i : Nat) (T : R → Env → Prop) (d : D) (ρ : Env) : wUT i T (.fro d) ρ = T (.fro d) (ρ.set i .un) := by simp [wUT, notAt]
theorem w_UTt (i : Nat) (T : R → Env → Prop) (d : D) (ρ : Env) : wUT i T (.tmp d) ρ = T (.tmp d) (ρ.set i .un) := by simp [wUT, notAt]
theorem w_unE {i : Nat} {o : SOut} (h : wS o (wUN i N) (wUT i T) (wUN i B) (wUN i C) noX) : wS (unE i o) N T B C X := by
  cases o with
  | rt r ρ => cases r <;> first | exact h.2 | exact absurd h.1 (fun z => nomatch z)
  | exn x ρ => exact h.elim
  | bad => exact h.elim
  | _ => exact h
/-- it is caught -/
theorem w_caught {i : Nat} {tab : String → Option Bool} {fs : SemS} {n : String} {f0 : List (String × D)} (ht : tab n = some true) (hl : (ρ.getD i .un).lent = false) (h : wS (fs (ρ.set i (.fz (.err n f0)))) (wUN i N) (wUT i T) (wUN i B) (wUN i C) noX) : wTry i tab fs N T B C X ⟨n, f0⟩ ρ := by
  show wS (match tab n with | some true => if (ρ.getD i .un).lent = true then .bad else unE i (fs (ρ.set i (.fz (.err n f0)))) | _ => .bad) N T B C X
  rw [ht]
  show wS (if (ρ.getD i .un).lent = true then .bad else unE i (fs (ρ.set i (.fz (.err n f0))))) N T B C X
  rw [hl]
  exact w_unE h
theorem isSome_of {α : Type} {o : Option α} {a : α} (h : o = some a) : o.isSome = true := by rw [h]; rfl
theorem exm_own {K : PySem.W.Frag} {cls : Value} {C : Addr} {b : Bool} (h1 : PySem.W.subIn K (.ref C) (.type "BaseException") = some true) (h2 : (PySem.W.clsIn K C).isSome = true) (h3 : PySem.W.typeIn K (.ref C) = some (.type "type")) (h4 : PySem.W.subIn K cls (.ref C) = some b) : PySem.W.exmOne K cls (.ref C) = some b := by
  unfold PySem.W.exmOne
  rw [if_pos (by rw [h1]; rfl)]
  unfold PySem.W.kitCls
  simp only
  rw [if_pos (by rw [h2, h3]; rfl)]
  exact h4
theorem o_isXn (l : List (String × Bool)) : gIsX l .non = some (.sc (.bl false)) := rfl
end
end WS
/-! Xm: a try whose one clause, without a name, raises another exception. -/
namespace WS
open PySem L2
def kTryR (tab : String → Option Bool) (n2 : String) : SOut → SOut
  | .exn x ρ => match tab x.cls with
    | some true => .exn ⟨n2, []⟩ ρ
    | _ => .bad
  | o => o
/-- try: fb, except the classes that tab tells: raise n2 -/
def sTryR (tab : String → Option Bool) (fb : SemS) (n2 : String) : SemS := fun ρ => kTryR tab n2 (fb ρ)
theorem okT_tryR {tab : String → Option Bool} {fb : SemS} {n2 : String} (hb : okT fb) : okT (sTryR tab fb n2) := fun ρ => by
  have h := hb ρ
  show LkS ρ (kTryR tab n2 (fb ρ))
  cases e : fb ρ with
  | exn x ρ1 =>
    rw [e] at h
    show LkS ρ (match tab x.cls with | some true => _ | _ => _)
    cases tab x.cls with
    | none => trivial
    | some b => cases b <;> first | trivial | exact h
  | _ => rw [e] at h; exact h
section
variable {X : Cx} {c : XC} {W : WX}
theorem ss_tryR {x y ms : Str} {n2 : String} {Ch C2 : Addr} {j : Nat} {body : List Stmt} {np p p2 ps pr pos pos' : Pos} {tab : String → Option Bool} {fb : SemS} (hs : X.stack = X.env :: X.outer) (hf : X.env.frame = some X.env.locals) (hg : Gl X x) (hm : X.mg x = some (.ref Ch)) (hdb : (x == ("__debug__" : Str)) = false)
    (hp : PassesOwn (model X.prog X.w) X.A X.env X.xe) (hpa : ∀ hd : Option Value, PassesOwnAt (model X.prog X.w) (X.A.mark hd) X.A X.env X.xe) (tk : TakesM .o X W)
    (htab : ∀ m b, tab m = some b → ∀ C, clsIs X.K m C → PySem.W.exmOne X.K (.ref C) (.ref Ch) = some b)
    (hn : clsIs X.K n2 C2) (q : PySem.W.excIn X.K C2 [.type "ValueError", .type "Exception", .type "BaseException", .type "object"] "ValueError.__new__" = true) (gC : X.mg y = some (.ref C2)) (kC : PySem.W.keepIn X.K (.ref C2) = true) (hg2 : Gl X y) (hdb2 : (y == ("__debug__" : Str)) = false)
    (hb : ∀ (W : WX) (pn : List (Addr × Obj)) (xe : Value → Shared → Prop), TakesM .n (X.tr pn xe) W → PassesOwn (model X.prog X.w) X.A X.env xe → SSs (X.tr pn xe) c W body fb) :
    SS X c W (.Try body [.ExceptHandler (some (.Name x np)) none [.Raise (some (.Call (.Name y p) [.Constant (.str ms) j p2] [] ps)) none pr] pos'] [] [] pos) (sTryR tab fb n2) := by
  have okb : okT fb := (hb (fun _ _ _ _ => False) X.pn X.xe takes0M hp).ok
  refine ⟨PS.imp (L2H.ps_try_onlyX (tb := fun W => TSD X.w X.K c W fb) (ts := fun _ _ _ _ σ H => W (.ref C2) none σ H) (c := .ref Ch) hs hf ⟨hg, hdb, .inl hm⟩ hpa tk (fun W pn xe t _ p => (hb W pn xe t p).ps)
    (fun a oe cls d pn _ _ tk2 hot => pss_one (L2H.ps_raiseH hot tk2 (L2N.pmk_own PySem.F.excBase_ValueError q gC kC (raises_own hn.2.sb hn.2.ty) hg2 hdb2)))) fun D σ H ⟨F, ρ, S, q⟩ => ⟨F, ρ, S, ?_⟩, okT_tryR okb⟩
  have q : PostS X.w X.K c W σ F H ρ (kTryR tab n2 (fb ρ)) D := q
  show PostS X.w X.K c _ σ F H ρ (fb ρ) D
  cases e : fb ρ with
  | exn x ρ1 =>
    rw [e] at q
    intro cls d σ' F' H' S1 ls xr fr
    obtain ⟨C, hC, rfl, hx⟩ := xr
    have q : PostS X.w X.K c W σ F H ρ (match tab x.cls with | some true => .exn ⟨n2, []⟩ ρ1 | _ => .bad) D := q
    cases ht : tab x.cls with
    | none => rw [ht] at q; exact False.elim q
    | some b =>
      cases b with
      | false => rw [ht] at q; exact False.elim q
      | true =>
        rw [ht] at q
        exact ⟨true, htab _ _ ht C hC, fun _ _ _ => q (.ref C2) none σ' F' H' S1 ls ⟨C2, hn, rfl, .nil⟩ fr, fun z => nomatch z⟩
  | nx ρ1 => rw [e] at q; exact q
  | bk ρ1 => rw [e] at q; exact q
  | ct ρ1 => rw [e] at q; exact q
  | rt r ρ1 => rw [e] at q; exact q
  | bad => rw [e] at q; exact q
/-- what the defs' contexts let pass -/
theorem passesAtD {P : Program} {w : World} {K : PySem.W.Frag} {mg : Str → Option Value} {base : Heap} {m : Md} {N : List Str} {qual : Str} {scope : Scope} {f : Addr} {cd : Value} {A : Around} {outer : List PySem.Env} {s : Shared} {H : Hp} {E : XK} (hd : Option Value) :
    PassesOwnAt (model P w) ((cxOf (CXm m P w) P w K mg base N qual scope f cd A outer s H E).A.mark hd) (cxOf (CXm m P w) P w K mg base N qual scope f cd A outer s H E).A (cxOf (CXm m P w) P w K mg base N qual scope f cd A outer s H E).env (cxOf (CXm m P w) P w K mg base N qual scope f cd A outer s H E).xe :=
  L2H.passesAt_of (X := cxOf (CXm m P w) P w K mg base N qual scope f cd A outer s H E) rfl hd
/-! how it runs -/
variable {ρ : WS.Env} {N : WS.Env → Prop} {T : R → WS.Env → Prop} {B C : WS.Env → Prop} {Z : XQ}
def wTryR (tab : String → Option Bool) (n2 : String) (Z : XQ) : XQ := fun x ρ => tab x.cls = some true ∧ Z ⟨n2, []⟩ ρ
theorem w_tryR (tab : String → Option Bool) (fb : SemS) (n2 : String) (ρ : WS.Env) (N : WS.Env → Prop) (T : R → WS.Env → Prop) (B C : WS.Env → Prop) (Z : XQ) (h : wS (fb ρ) N T B C (wTryR tab n2 Z)) : wS (sTryR tab fb n2 ρ) N T B C Z := by
  show wS (kTryR tab n2 (fb ρ)) N T B C Z
  cases e : fb ρ with
  | exn x ρ1 =>
    rw [e] at h
    have h : tab x.cls = some true ∧ Z ⟨n2, []⟩ ρ1 := h
    show wS (match tab x.cls with | some true => .exn ⟨n2, []⟩ ρ1 | _ => .bad) N T B C Z
    rw [h.1]
    exact h.2
  | _ => rw [e] at h; exact h
theorem w_caughtR {tab : String → Option Bool} {n2 n : String} {f0 : List (String × D)} (ht : tab n = some true) (h : Z ⟨n2, []⟩ ρ) : wTryR tab n2 Z ⟨n, f0⟩ ρ := ⟨ht, h⟩
end
end WS
/-! Xn: text.split(sign). -/
namespace WS
open PySem L2
/-- the parts of s between the signs c; acc: what was gone by since the last one -/
def cutAt (c : Nat) : List Nat → List Nat → List (List Nat)
  | acc, [] => [acc]
  | acc, x :: r => if x = c then acc :: cutAt c [] r else cutAt c (acc ++ [x]) r
theorem spl_cut (c : Nat) : ∀ (s acc : List Nat), TL.spl [c] 0 acc s = cutAt c acc s
  | [], acc => TL.spl_nil _ _ _
  | x :: r, acc => by
    by_cases h : x = c
    · subst h
      rw [TL.spl_hit (show TL.pre [x] (x :: r) = true from TL.pre_self [x] r), show cutAt x acc (x :: r) = acc :: cutAt x [] r from if_pos rfl, ← spl_cut x r []]
      rfl
    · rw [TL.spl_miss (TL.pre_of_head [] r h), show cutAt c acc (x :: r) = cutAt c (acc ++ [x]) r from if_neg h, ← spl_cut c r (acc ++ [x])]
theorem cut_sub (c : Nat) : ∀ (s acc : List Nat), ∀ p ∈ cutAt c acc s, p.length ≤ acc.length + s.length ∧ ∀ x ∈ p, x ∈ acc ∨ x ∈ s
  | [], acc, p, hp => by
    rw [List.mem_singleton.mp hp]
    exact ⟨by simp, fun x hx => .inl hx⟩
  | y :: r, acc, p, hp => by
    unfold cutAt at hp
    split at hp
    · rcases List.mem_cons.mp hp with rfl | hp
      · exact ⟨by simp, fun x hx => .inl hx⟩
      · obtain ⟨h1, h2⟩ := cut_sub c r [] p hp
        refine ⟨by simp at h1 ⊢; omega, fun x hx => ?_⟩
        rcases h2 x hx with h | h
        · cases h
        · exact .inr (List.mem_cons_of_mem _ h)
    · obtain ⟨h1, h2⟩ := cut_sub c r (acc ++ [y]) p hp
      refine ⟨by simp at h1 ⊢; omega, fun x hx => ?_⟩
      rcases h2 x hx with h | h
      · rcases List.mem_append.mp h with h | h
        · exact .inl h
        · rw [List.mem_singleton.mp h]; exact .inr (List.mem_cons_self ..)
      · exact .inr (List.mem_cons_of_mem _ h)
def gSplit : D → List D → Option PR
  | .str s, [.str [c]] => if (decide (c < 256) && decide (s.length ≤ 100000)) = true then some (.nl ((cutAt c [] s).map D.str)) else none
  | _, _ => none
theorem split_parts {c : Nat} {s : List Nat} (h : c < 256) : Txt.split (mkS s) (mkS [c]) = (cutAt c [] s).map mkS := by
  refine TL.map_tl_inj ?_
  rw [TL.split_spl (mkS s) (mkS [c]) (by simp) (TL.kind_ok (by simpa using h))]
  show TL.spl [c] 0 [] s = _
  rw [spl_cut, List.map_map]
  exact (List.map_id'' (fun _ => rfl) _).symm
theorem rep_strs {w : World} {K : PySem.W.Frag} {F : Hp} : ∀ {ss : List (List Nat)}, (∀ s ∈ ss, okS s = true ∧ s.length ≤ sizeLine) → RepL w K F ((ss.map mkS).map V.str) (ss.map D.str)
  | [], _ => .nil
  | s :: ss, h => .cons (.str s (h s (List.mem_cons_self ..)).1 (h s (List.mem_cons_self ..)).2) (rep_strs fun x hx => h x (List.mem_cons_of_mem _ hx))
section
variable {X : Cx}
theorem met_split : MetG X "str.split" gSplit := by
  refine ⟨_, mt_split, fun F H x vs d ds p Q s t ts e q => ?_⟩
  unfold gSplit at e
  split at e
  · rename_i z c
    obtain ⟨v, rfl, tv⟩ := vals_one ts rfl
    obtain ⟨ex, ok, hz⟩ := t.str
    obtain ⟨ey, _, _⟩ := tv.str
    split at e
    · rename_i hm
      cases e
      rw [Bool.and_eq_true, decide_eq_true_eq, decide_eq_true_eq] at hm
      refine ⟨mkS z, mkS [c], ex, by rw [ey], rfl, ?_, fun p hp => ?_⟩
      · rw [mkS_length, sizeLine_eq]; omega
      · rw [split_parts hm.1]
        refine q p _ hp (rep_strs fun y hy => ?_)
        obtain ⟨h1, h2⟩ := cut_sub c z [] y hy
        refine ⟨List.all_eq_true.mpr fun a ha => ?_, ?_⟩
        · rcases h2 a ha with h | h
          · cases h
          · exact List.all_eq_true.mp ok a h
        · rw [sizeLine_eq]; simp at h1; omega
    · cases e
  · cases e
end
theorem o_split (s : List Nat) (c : Nat) (h : c < 256) (hs : s.length ≤ 100000) : gSplit (.str s) [.str [c]] = some (.nl ((cutAt c [] s).map D.str)) := by
  show (if _ then _ else _) = _
  rw [if_pos (by simp [h, hs])]
/-- no such sign: the whole -/
theorem cut_none {c : Nat} : ∀ {s acc : List Nat}, c ∉ s → cutAt c acc s = [acc ++ s]
  | [], acc, _ => by simp [cutAt]
  | x :: r, acc, h => by
    rw [show cutAt c acc (x :: r) = cutAt c (acc ++ [x]) r from if_neg fun z => h (by rw [z]; simp), cut_none fun z => h (List.mem_cons_of_mem _ z)]
    simp
theorem cut_part {c : Nat} {r : List Nat} : ∀ {s acc : List Nat}, c ∉ s → cutAt c acc (s ++ c :: r) = (acc ++ s) :: cutAt c [] r
  | [], acc, _ => by rw [List.nil_append, show cutAt c acc (c :: r) = acc :: cutAt c [] r from if_pos rfl, List.append_nil]
  | x :: s, acc, h => by
    rw [List.cons_append, show cutAt c acc (x :: (s ++ c :: r)) = cutAt c (acc ++ [x]) (s ++ c :: r) from if_neg fun z => h (by rw [z]; simp), cut_part fun z => h (List.mem_cons_of_mem _ z)]
    simp
end WS
/-! Wzl: defs that call themselves. -/
namespace WS
open PySem L2
/-- nothing is promised -/
def F_bad : Fn := fun _ => .bad
theorem cal_bad {m : Md} {P : Program} {w : World} {K : PySem.W.Frag} {mg : Str → Option Value} {base : Heap} {c : XC} {x qual : Str} {st : Stmt} {f : Addr} {fd : FuncData} {ps : List Str} {k np : Nat} (D : Fun K x qual st f fd) (hm : mg x = some (.ref f)) (hb : Binds K fd ps []) (hp : ps.length = np) : Cal m P w K mg base c x f fd k ps F_bad np :=
  ⟨⟨fun vs H Q E h => by rw [hp]; exact h.1, fun A outer s H args us vs Q E hr => by
    intros
    rename_i hsp
    obtain ⟨_, F, pl, _, _, h⟩ := (by assumption : spD w K c F_bad np vs H Q E)
    exact h.elim⟩, fun _ _ => trivial, hm, D.kp, hb⟩
/-- by another name -/
theorem cal_as {m : Md} {P : Program} {w : World} {K : PySem.W.Frag} {mg : Str → Option Value} {base : Heap} {c : XC} {x y : Str} {f : Addr} {fd : FuncData} {ps : List Str} {k np : Nat} {F : Fn} (G : Cal m P w K mg base c x f fd k ps F np) (hm : mg y = some (.ref f)) : Cal m P w K mg base c y f fd k ps F np :=
  ⟨G.ok, G.okx, hm, G.kp, G.bd⟩
end WS
/-! Wzm: dicts among the constants of a module, texts for texts: D[e]. -/
namespace WS
open PySem L2 PyProof.Rows
def gTab (kvs : List (List Nat × List Nat)) : D → Option PR
  | .str s => (kvs.lookup s).map fun t => .sc (.str t)
  | _ => none
/-- at a the dict of these texts -/
def KTab (K : PySem.W.Frag) (w : World) (a : Addr) (kvs : List (List Nat × List Nat)) : Prop :=
  ∃ es n, KDict K w a es n ∧ ∀ s t, kvs.lookup s = some t → (okS t && decide (t.length ≤ 1000)) = true ∧ ∃ tk, PySem.W.nsIn K a (mkS s) = some (some (.str (mkS t) tk))
section
variable {X : Cx} {c : XC} {W : WX} {pos p2 : Pos}
theorem se_tab {x : Str} {kvs : List (List Nat × List Nat)} {b : Expr} {fb : SemE} (hg : Gl X x) (hm : ∃ a, X.mg x = some (.ref a) ∧ KTab X.K X.w a kvs) (hd : (x == ("__debug__" : Str)) = false) (hb : SE X c W b fb) (hs : PlainIx b) : SE X c W (.Subscript (.Name x p2) b pos) (eUn (gTab kvs) fb) := by
  obtain ⟨a, hm, es, n, D, all⟩ := hm
  refine ⟨PE.imp (pe_ix ix_kdict (pe_glob (v := .ref a) hg hm rfl hd) hb.pe hs) fun σ H Q h => ?_, okE_un hb.ok⟩
  refine td_one (r := fun y H Q => L2.rIxD X.K X.w (.ref a) y H Q) hb.ok (fun F H x d1 p Q s t e q => ?_) h
  cases d1 with
  | str s =>
    unfold gTab at e
    simp only at e
    cases hl : kvs.lookup s with
    | none => rw [hl] at e; cases e
    | some r =>
      rw [hl] at e
      cases e
      obtain ⟨rfl, _, _⟩ := t.str
      obtain ⟨ho, tk, hn⟩ := all s r hl
      rw [Bool.and_eq_true] at ho
      exact ⟨a, mkS s, .str (mkS r), rfl, rfl, ⟨es, n, _, D.at_, D.lit, hn, tk, rfl⟩, q _ (.str r ho.1 (n1000 ho.2))⟩
  | _ => cases e
end
inductive KEs (K : PySem.W.Frag) (a : Addr) : List (List Nat × List Nat) → Prop
  | nil : KEs K a []
  | cons {s t : String} {tk : Tok} {kvs : List (List Nat × List Nat)} (h : PySem.W.nsIn K a (Str.ofString s) = some (some (.str (Str.ofString t) tk))) (o : (okS (sg t) && decide ((sg t).length ≤ 1000)) = true) : KEs K a kvs → KEs K a ((sg s, sg t) :: kvs)
theorem KEs.all {K : PySem.W.Frag} {a : Addr} {kvs : List (List Nat × List Nat)} (h : KEs K a kvs) : ∀ s t, kvs.lookup s = some t → (okS t && decide (t.length ≤ 1000)) = true ∧ ∃ tk, PySem.W.nsIn K a (mkS s) = some (some (.str (mkS t) tk)) := by
  induction h with
  | nil => intro s t h; cases h
  | @cons s0 t0 tk kvs h o _ ih =>
    intro s t hl
    rw [List.lookup_cons] at hl
    split at hl
    · rename_i e
      have e := eq_of_beq e
      cases hl
      subst e
      exact ⟨o, tk, by rw [sg_str, sg_str]; exact h⟩
    · exact ih s t hl
theorem ktab {K : PySem.W.Frag} {w : World} {a : Addr} {ks : List Str} {kvs : List (List Nat × List Nat)} (h : He.dicW K a = some (He.keysIn w.params ks)) (e : KEs K a kvs) : KTab K w a kvs := by
  obtain ⟨es, n, D⟩ := He.dicW_ok h
  exact ⟨es, n, D, e.all⟩
end WS
/-! Wzn: str(x) of a number, of a text. -/
namespace WS
open PySem L2 PyProof.Rows
def gStr : D → Option PR
  | .int i => if (okS (sg (toString i)) && decide ((sg (toString i)).length ≤ 1000) && decide (i.natAbs.log2 < 1920)) = true then some (.sc (.str (sg (toString i)))) else none
  | .str s => some (.sc (.str s))
  | .non => some (.sc (.str (sg "None")))
  | _ => none
section
variable {X : Cx}
theorem cr_strIS : CallR X (.type "str") (fun xs H Q => (∃ i, xs = [.int i] ∧ i.natAbs.log2 < 1920 ∧ Q (.str (toString i)) H) ∨ (∃ a, xs = [.str a] ∧ Q (.str a) H) ∨ xs = [.non] ∧ Q (.str (Str.ofString "None")) H) := by
  intro pins s σ H xs us Q I r h
  rcases h with h | h | ⟨rfl, q⟩
  · exact call_str_int pins s σ H xs us Q I r h
  · exact SkE.call_str_str pins s σ H xs us Q I r h
  · obtain ⟨u, rfl, r1⟩ := vals1 r
    cases r1
    exact PySem.P.str_of_none ⟨.str _, H, I.tok _, ⟨_, rfl⟩, q⟩
theorem fn_str : FnG X (.type "str") (g1 gStr) := by
  refine ⟨_, cr_strIS, fun F H vs ds p Q s t e q => ?_⟩
  obtain ⟨d, rfl, e⟩ := g1_some e
  obtain ⟨v, rfl, tv⟩ := vals_one t rfl
  cases d with
  | int i =>
    have e : (if (okS (sg (toString i)) && decide ((sg (toString i)).length ≤ 1000) && decide (i.natAbs.log2 < 1920)) = true then some (PR.sc (.str (sg (toString i)))) else none) = some p := e
    split at e
    · rename_i hc
      rw [Bool.and_eq_true, Bool.and_eq_true] at hc
      cases e
      have := tv.int; subst this
      refine .inl ⟨i, rfl, of_decide_eq_true hc.2, ?_⟩
      have h := q (.str (mkS (sg (toString i)))) (.str _ hc.1.1 (n1000 hc.1.2))
      rw [sg_str] at h
      exact h
    · cases e
  | str z =>
    cases e
    obtain ⟨rfl, o, l⟩ := tv.str
    exact .inr (.inl ⟨_, rfl, q _ (.str z o l)⟩)
  | non =>
    cases e
    have := tv.non; subst this
    refine .inr (.inr ⟨rfl, ?_⟩)
    have h := q (.str (mkS (sg "None"))) (.str _ (by decide +kernel) (n1000 (by decide +kernel)))
    rw [sg_str] at h
    exact h
  | _ => cases e
end
end WS
/-! Wzo: the text of a number. -/
namespace WS
open PySem L2
theorem digs_len : ∀ (f n k : Nat) (acc : List Char), 1 ≤ k → n < 10 ^ k → (Nat.toDigitsCore 10 f n acc).length ≤ acc.length + k
  | 0, n, k, acc, hk, h => by simp [Nat.toDigitsCore]
  | f + 1, n, k, acc, hk, h => by
    unfold Nat.toDigitsCore
    simp only
    split
    · simp; omega
    · rename_i h0
      obtain ⟨j, rfl⟩ : ∃ j, k = j + 2 := by
        rcases Nat.lt_or_ge k 2 with h2 | h2
        · have : k = 1 := by omega
          subst this
          exact absurd (by omega : n / 10 = 0) h0
        · exact ⟨k - 2, by omega⟩
      have := digs_len f (n / 10) (j + 1) (Nat.digitChar (n % 10) :: acc) (by omega) (by
        rw [Nat.pow_succ] at h
        omega)
      simp only [List.length_cons] at this
      omega
theorem okS_sg (s : String) : okS (sg s) = true := by
  unfold okS sg
  rw [List.all_map, List.all_eq_true]
  intro c _
  have h : c.val.toNat < 0xD800 ∨ 0xDFFF < c.val.toNat ∧ c.val.toNat < 0x110000 := c.valid
  have e : c.toNat = c.val.toNat := rfl
  simp only [Function.comp_apply, decide_eq_true_eq]
  omega
theorem nat_len {n k : Nat} (hk : 1 ≤ k) (h : n < 10 ^ k) : (sg (toString n)).length ≤ k := by
  unfold sg
  rw [List.length_map]
  have := digs_len (n + 1) n k [] hk h
  simpa [toString, Nat.repr, Nat.toDigits] using this
theorem int_len {i : Int} {k : Nat} (hk : 1 ≤ k) (h : i.natAbs < 10 ^ k) : (sg (toString i)).length ≤ k + 1 := by
  cases i with
  | ofNat n =>
    have : toString (Int.ofNat n) = toString n := rfl
    rw [this]
    have := nat_len hk (n := n) (by simpa using h)
    omega
  | negSucc n =>
    have e : toString (Int.negSucc n) = "-" ++ toString (n + 1) := rfl
    rw [e]
    have := nat_len hk (n := n + 1) (by simpa using h)
    unfold sg at *
    rw [String.toList_append, List.map_append, List.length_append]
    simp at *
    omega
theorem str_num {i : Int} (h : i.natAbs < 10 ^ 40) : gStr (.int i) = some (.sc (.str (sg (toString i)))) := by
  show (if (okS (sg (toString i)) && decide ((sg (toString i)).length ≤ 1000) && decide (i.natAbs.log2 < 1920)) = true then some (PR.sc (.str (sg (toString i)))) else none) = _
  have h1 := int_len (k := 40) (by decide) h
  have h2 : i.natAbs.log2 < 1920 := by
    rcases Nat.eq_zero_or_pos i.natAbs with e | e
    · rw [e]; decide
    · have h3 : i.natAbs < 2 ^ 140 := Nat.lt_of_lt_of_le h (by decide)
      have := (Nat.log2_lt (by omega : i.natAbs ≠ 0)).mpr h3
      omega
  rw [if_pos (by rw [okS_sg, decide_eq_true (by omega : (sg (toString i)).length ≤ 1000), decide_eq_true h2]; rfl)]
end WS
/-! Xh: int(text), of figures with or without a minus. -/
namespace WS
open PySem L2
/-- what figures tell, one behind another -/
def figs (cs : List Nat) : Nat := cs.foldl (fun n c => n * 10 + (c - 48)) 0
def isFig (c : Nat) : Bool := decide (48 ≤ c) && decide (c ≤ 57)
def gIntT : D → Option PR
  | .str s => match s with
    | [] => none
    | c :: cs =>
      if s.length ≤ 600 then
        if c = 45 then (if cs ≠ [] ∧ cs.all isFig = true then some (.sc (.int (-(figs cs : Int)))) else none)
        else if (c :: cs).all isFig = true then some (.sc (.int (figs (c :: cs) : Int))) else none
      else none
  | _ => none
section
variable {X : Cx}
theorem figs_all {cs : List Nat} (h : cs.all isFig = true) : ∀ c ∈ cs, 48 ≤ c ∧ c ≤ 57 := fun c hc => by
  have := List.all_eq_true.mp h c hc
  unfold isFig at this
  rw [Bool.and_eq_true, decide_eq_true_iff, decide_eq_true_iff] at this
  exact this
theorem cps_mkS (s : List Nat) : (mkS s).cps.toList = s := by simp [mkS]
theorem fn_intT : FnG X (.type "int") (g1 gIntT) := by
  refine ⟨_, call_int_str, fun F H vs ds p Q s t e q => ?_⟩
  obtain ⟨d, rfl, e⟩ := g1_some e
  obtain ⟨v, rfl, tv⟩ := vals_one t rfl
  cases d with
  | str z =>
    obtain ⟨rfl, _, _⟩ := tv.str
    cases z with
    | nil => cases e
    | cons c cs =>
      have j : (if (c :: cs).length ≤ 600 then (if c = 45 then (if cs ≠ [] ∧ cs.all isFig = true then some (PR.sc (.int (-(figs cs : Int)))) else none) else if (c :: cs).all isFig = true then some (PR.sc (.int (figs (c :: cs) : Int))) else none) else none) = some p := e
      by_cases hl : (c :: cs).length ≤ 600
      · rw [if_pos hl] at j
        by_cases hc : c = 45
        · rw [if_pos hc] at j
          by_cases h : cs ≠ [] ∧ cs.all isFig = true
          · rw [if_pos h] at j
            cases j
            refine ⟨_, _, rfl, PySem.intText_neg (cs := cs) (by rw [cps_mkS, hc]) (figs_all h.2) h.1 ?_, ?_, q _ (.int _)⟩
            all_goals rw [mkS_length]; omega
          · rw [if_neg h] at j; cases j
        · rw [if_neg hc] at j
          by_cases h : (c :: cs).all isFig = true
          · rw [if_pos h] at j
            cases j
            have k := PySem.intText_digits (x := mkS (c :: cs)) (by rw [cps_mkS]; exact figs_all h) (by rw [cps_mkS]; simp) (by rw [mkS_length]; omega)
            rw [cps_mkS] at k
            exact ⟨_, _, rfl, k, by rw [mkS_length]; omega, q _ (.int _)⟩
          · rw [if_neg h] at j; cases j
      · rw [if_neg hl] at j; cases j
  | _ => cases e
theorem fn_int2 : FnG X (.type "int") (orF (g1 gInt) (g1 gIntT)) := FnG.or fn_int fn_intT
end
end WS
/-! Pa: what defs of the program (and some of the laws) mean. -/
namespace WS
open PySem L2
def B__law_sort : SemS :=
  (sSeq (sIf (tTru (eUn (gIsi "str") (eVar 0)))
  (sRet (eCon (.int 2)))
  sNil)
  (sRet (eFn (g1 gInt) (lCons (eUn (gIsi "tuple") (eVar 0)) lNil))))
def F__law_sort : Fn := fnOf 1 B__law_sort
def B__law_lesser : SemS :=
  (sSeq (sSet 2 (eCon (.str (sg "abcdefghijklmnopqrstuvwxyz"))))
  (sSeq (sFor (lCons (eFn (g2 gMin) (lCons (eFn (g1 gLen) (lCons (eVar 0) lNil)) (lCons (eFn (g1 gLen) (lCons (eVar 1) lNil)) lNil))) lNil) itRange1 (tgN 3)
  (sIf (tBl (eOp gNe (eOp (orG gIx gIxD) (eVar 0) (eVar 3)) (eOp (orG gIx gIxD) (eVar 1) (eVar 3))))
  (sRet (eOp (orG gLt gLtD) (eMet "str" gIndexS (eVar 2) (lCons (eOp (orG gIx gIxD) (eVar 0) (eVar 3)) lNil)) (eMet "str" gIndexS (eVar 2) (lCons (eOp (orG gIx gIxD) (eVar 1) (eVar 3)) lNil))))
  sNil))
  (sRet (eOp (orG gLt gLtD) (eFn (g1 gLen) (lCons (eVar 0) lNil)) (eFn (g1 gLen) (lCons (eVar 1) lNil))))))
def F__law_lesser : Fn := fnOf 4 B__law_lesser
def B__law_node_before : SemS :=
  (sSeq (sIf (tBl (eOp gNe (eCall F__law_sort (lCons (eVar 0) lNil)) (eCall F__law_sort (lCons (eVar 1) lNil))))
  (sRet (eOp (orG gLt gLtD) (eCall F__law_sort (lCons (eVar 0) lNil)) (eCall F__law_sort (lCons (eVar 1) lNil))))
  sNil)
  (sSeq (sIf (tTru (eUn (gIsi "str") (eVar 0)))
  (sRet (eCall F__law_lesser (lCons (eVar 0) (lCons (eVar 1) lNil))))
  sNil)
  (sSeq (sIf (tTru (eUn (gIsi "tuple") (eVar 0)))
  (sRet (eCall F__law_lesser (lCons (eOp (orG gIx gIxD) (eVar 0) (eCon (.int 0))) (lCons (eOp (orG gIx gIxD) (eVar 1) (eCon (.int 0))) lNil))))
  sNil)
  (sRet (eOp (orG gLt gLtD) (eVar 0) (eVar 1))))))
def F__law_node_before : Fn := fnOf 2 B__law_node_before
def B_key_of : SemS :=
  (sSeq (sIf (tTru (eUn (gIsi "str") (eVar 0)))
  (sRet (eTup (lCons (eCon (.int 2)) (lCons (eCon (.int 0)) (lCons (eVar 0) lNil)))))
  sNil)
  (sSeq (sIf (tTru (eUn (gIsi "tuple") (eVar 0)))
  (sRet (eTup (lCons (eCon (.int 1)) (lCons (eCon (.int 0)) (lCons (eOp (orG gIx gIxD) (eVar 0) (eCon (.int 0))) lNil)))))
  sNil)
  (sRet (eTup (lCons (eCon (.int 0)) (lCons (eVar 0) (lCons (eCon (.str (sg ""))) lNil)))))))
def F_key_of : Fn := fnOf 1 B_key_of
def B_fact_rank : SemS :=
  (sRet (eTup (lCons (eOp (orG gIx gIxD) (eVar 0) (eCon (.int 0))) (lCons (eOp (orG gIx gIxD) (eVar 0) (eCon (.int 1))) (lCons (eCall F_key_of (lCons (eOp (orG gIx gIxD) (eVar 0) (eCon (.int 2))) lNil)) lNil)))))
def F_fact_rank : Fn := fnOf 1 B_fact_rank
def B_facts_in_order : SemS :=
  (sSeq (sSet 1 eDct0)
  (sSeq (sFor (l1 (eVar 0)) itSeq (tgN 2)
  (sPut (orP gSetL gSetD) (eCon (.bl true)) (eVar 1) (eVar 2)))
  (sRet (eSortK F_fact_rank (lCons (eFn (orF (orF (g1 gListOf) (g1 gListD)) (g1 gListS)) (lCons (eVar 1) lNil)) lNil)))))
def F_facts_in_order : Fn := fnOf 3 B_facts_in_order
def B_are_letters : SemS :=
  (sRet (eAn (eOp gLe (eFn (g1 gLen) (lCons (eVar 0) lNil)) (eCon (.int 8))) (eFn (g1 gAll) (lCons (eComp (l1 (eVar 0)) itSeq (tgN 1) [1] (fun ρ => .ok true ρ) (eOp (orG gIn gInD) (eVar 1) (eCon (.str (sg "abcdefghijklmnopqrstuvwxyz"))))) lNil))))
def F_are_letters : Fn := fnOf 2 B_are_letters
def B_is_name : SemS :=
  (sRet (eAn (eUn (gIsi "str") (eVar 0)) (eAn (eOp gNe (eVar 0) (eCon (.str (sg "")))) (eCall F_are_letters (lCons (eVar 0) lNil)))))
def F_is_name : Fn := fnOf 1 B_is_name
def B_is_whole : SemS :=
  (sRet (eAn (eUn (gIsi "int") (eVar 0)) (eNt (eUn (gIsi "bool") (eVar 0)))))
def F_is_whole : Fn := fnOf 1 B_is_whole
def B_is_number : SemS :=
  (sRet (eAn (eCall F_is_whole (lCons (eVar 0) lNil)) (eOp (orG gLt gLtD) (eFn (g1 gAbs) (lCons (eVar 0) lNil)) (eCon (.int 1000000000000000000000000000000)))))
def F_is_number : Fn := fnOf 1 B_is_number
def B_is_said : SemS :=
  (sRet (eAn (eUn (gIsi "tuple") (eVar 0)) (eAn (eOp gEq (eFn (g1 gLen) (lCons (eVar 0) lNil)) (eCon (.int 1))) (eAn (eUn (gIsi "str") (eOp (orG gIx gIxD) (eVar 0) (eCon (.int 0)))) (eCall F_are_letters (lCons (eOp (orG gIx gIxD) (eVar 0) (eCon (.int 0))) lNil))))))
def F_is_said : Fn := fnOf 1 B_is_said
def B_is_node : SemS :=
  (sRet (eOr (eCall F_is_name (lCons (eVar 0) lNil)) (eOr (eCall F_is_number (lCons (eVar 0) lNil)) (eCall F_is_said (lCons (eVar 0) lNil)))))
def F_is_node : Fn := fnOf 1 B_is_node
def B_is_fact : SemS :=
  (sSeq (sIf (tOr' (tNt (tTru (eUn (gIsi "tuple") (eVar 0)))) (tBl (eOp gNe (eFn (g1 gLen) (lCons (eVar 0) lNil)) (eCon (.int 3)))))
  (sRet (eCon (.bl false)))
  sNil)
  (sRet (eAn (eCall F_is_name (lCons (eOp (orG gIx gIxD) (eVar 0) (eCon (.int 0))) lNil)) (eAn (eCall F_is_name (lCons (eOp (orG gIx gIxD) (eVar 0) (eCon (.int 1))) lNil)) (eCall F_is_node (lCons (eOp (orG gIx gIxD) (eVar 0) (eCon (.int 2))) lNil))))))
def F_is_fact : Fn := fnOf 1 B_is_fact
def B_in_order : SemS :=
  (sSeq (sSet 1 eDct0)
  (sSeq (sFor (l1 (eVar 0)) itSeq (tgN 2)
  (sPut (orP gSetL gSetD) (eCon (.bl true)) (eVar 1) (eVar 2)))
  (sRet (eSortK F_key_of (lCons (eFn (orF (orF (g1 gListOf) (g1 gListD)) (g1 gListS)) (lCons (eVar 1) lNil)) lNil)))))
def F_in_order : Fn := fnOf 3 B_in_order
def B_is_ahead : SemS :=
  (sRet (eOp (orG gLt gLtD) (eCall F_key_of (lCons (eVar 0) lNil)) (eCall F_key_of (lCons (eVar 1) lNil))))
def F_is_ahead : Fn := fnOf 2 B_is_ahead
end WS
/-! Pb: what they answer. -/
namespace WS
open PySem L2
local macro_rules | `(tactic| clear $ts*) => do { let ls ← ts.mapM fun t => `(Lean.Parser.Tactic.simpLemma| $t:term); `(tactic| simp -implicitDefEqProofs (disch := omega) only [id_eq, beq_self_eq_true, Int.reduceBEq, Int.reduceLT, Int.reduceLE, Int.reduceNeg, Int.reduceAdd, Int.reduceSub, Int.reduceMul, decide_true, decide_false, List.length_cons, List.length_nil, List.cons_append, List.nil_append, List.replicate, List.map_cons, List.map_nil, Nat.reduceAdd, Nat.reduceSub, Nat.reduceBEq, Bool.and_self, Bool.not_true, Bool.not_false, Bool.true_and, Bool.false_and, Int.cast_ofNat_Int, bind_ok, bindN_ok, sbind_ok, then_nx, then_rt, then_bk, then_ct, loop_nx, loop_ct, loop_bk, loop_rt, x_var, evV_fz, evV_lf, evV_ow, evV_le, evV_lk, x_con, v_fro, v_tmp, v_at, g_fz, g_ow, g_le, g_lf, g_lk, d_0, d_s, s_0, s_s, p_sc, p_nl, p_nd, p_nt, x_op, x_op1, x_op2, x_un, x_un1, x_nil, x_cons, x_cons1, x_cons2, x_fn, x_fn1, x_tup, x_tup1, x_tup2, x_lst, x_lst1, x_lst2, x_dct0, f_nil, f_cons, f_k, f_k2, z_fro, z_tmp, z_at, z_ow, z_le, z_fz, z_lf, x_bl, x_bl1, b_bl, x_tru, x_tru1, b_tru, b_some, x_nt, x_nt1, x_an, x_an_t, x_an_f, x_or, x_or_t, x_or_f, x_ean, x_ean_t, x_ean_f, x_eor, x_eor_t, x_eor_f, x_ent, x_ent1, x_eif, x_eif_t, x_eif_f, x_ch, x_cha, x_chb, x_chk_t, x_chk_f, x_ch1, x_ch2, x_part0, x_part, x_part1, x_outI, x_sl, x_sl0, x_sl1, x_sl2, x_call, x_callE, x_callT, x_callO, a_nil, a_fro, a_tmp, a_at, a_t, a_f, w_ow, w_le, w_lk, w_fz, w_lf, n_nil, n_one, n_two, m_nil, m_cons, t_fro, t_tmp, t_at, t_ow, t_le, t_fz, t_lf, q_wbs, q_nil, q_cons, u_nil, u_fro, u_tmp, u_at, u_t, u_f, h_none, h_owle, h_owlf, h_lele, h_lelf, h_fz, h_un, h_lf, h_lk, x_l1, x_l11, x_comp, x_comp_f, x_comp_t, x_comp1, x_compE, c_nil, c_cons, c_un, c_fz, o_itS, o_itL, o_itT, x_seq, x_set, x_put, x_putB, x_put_f, x_put_t, x_put_a, x_putF, l_fz, l_ow, l_un, x_if, x_if_t, x_if_f, x_nilS, x_ret, x_ret1, x_exp, x_exp1, x_sput, x_sput0, x_sput1, x_sput2, x_sput3, x_outT, x_setZ_ow, x_setZ_le, x_mut, x_mut0, x_mut1, x_mut2, x_mut3, x_outS, x_outZ_ow, x_outZ_le, o_add, o_sub, o_eqI, o_neI, o_eqS, o_neS, o_lt, o_le, o_gt, o_ge, o_lenN, o_lenS, o_lenL, o_lenT, o_abs, o_slS, o_slL, o_slT, x_wh_t, x_wh_f, o_neg, o_isi, ky_non, ky_bl, ky_int, ky_str, ky_tup, ky_lst, ky_dct, ky_scr, ky_err, y_str_err, y_int_err, y_bool_err, y_tuple_err, y_list_err, y_dict_err, y_str_NoneType, y_str_bool, y_str_int, y_str_str, y_str_tuple, y_str_list, y_str_dict, y_int_NoneType, y_int_bool, y_int_int, y_int_str, y_int_tuple, y_int_list, y_int_dict, y_bool_NoneType, y_bool_bool, y_bool_int, y_bool_str, y_bool_tuple, y_bool_list, y_bool_dict, y_tuple_NoneType, y_tuple_bool, y_tuple_int, y_tuple_str, y_tuple_tuple, y_tuple_list, y_tuple_dict, y_list_NoneType, y_list_bool, y_list_int, y_list_str, y_list_tuple, y_list_list, y_list_dict, y_dict_NoneType, y_dict_bool, y_dict_int, y_dict_str, y_dict_tuple, y_dict_list, y_dict_dict, fo_for, fo_for_f, fo_some, fo_nil, fo_t, fo_nx, w_ok, w_exn, w_K, w_bind, w_KS, w_sbind, w_nx, w_rt, w_bk, w_ct, w_sx, w_KT, w_then, w_turn, w_C, w_CX, w_call, w_fok, w_fx, w_Co, fo_ownS, fo_for_a, fo_for_t, fo_for_ff, x_sortK, x_sortK1, x_met, x_met0, x_met1, x_met2, x_asg, x_asg0, o_clear, o_reverse, x_asg1, x_optS, oo_lt, oo_ltS, o_rev, t_str, t_lst, t_dct, fo_forL, n_three, k_lock, k_nil, k_cons, k_any, k_t, k_f, k_ow, k_le, k_lk, k_un, k_u0, k_ulk, k_ufz, k_uun, k_uow, k_ule, k_ulf, fo_A, g_tgN, g_tgA, g_tgT, g_tg0, g_tgL, g_some, g_w0, g_w1, g_b0, g_b1, x_ownO, x_comp_a, x_compA, x_comp_ff, k_uself, k_any2, fo_for_aa, fo_B, o_itZ, o_itZt, o_eqB, o_neB, i_is, i_isn, i_n0, i_n1, i_n2, i_n3, i_n4, i_n5, i_n6, i_tlk, i_t0, i_t1, i_t2, i_t3, i_t4, i_t5, i_l0, i_l1, i_l2, i_l3, i_l4, i_l5, i_leI, i_leS, o_listD, o_listL, o_listT, if_true, ite_true, ite_false, Bool.and_true, Bool.not_not, o_mul2, o_mod, o_div, ev_addS1, ev_addL1, ev_addS, ev_addL, p_2, p_3, p_4, p_5, p_6, p_7, p_8, p_9, p_10, p_12, p_15, p_18, p_20, p_25, p_29, p_30, p_31, p_60, $ls,*]) }
theorem wF_eq {o : FOut} {r : R} {os : List Sl} (h : wF o (fun r' os' => r' = r ∧ os' = os) noF) : o = .ok r os := by
  obtain ⟨_, _, e, rfl, rfl⟩ := wF_ok h
  exact e
theorem o_inS (c : Nat) (s : List Nat) : orG gIn gInD (.str [c]) (.str s) = some (.sc (.bl (decide (c ∈ s)))) := rfl
theorem o_ninS (c : Nat) (s : List Nat) : orG gNotIn gNotInD (.str [c]) (.str s) = some (.sc (.bl (!decide (c ∈ s)))) := rfl
theorem bls_map {α : Type} (f : α → Bool) : ∀ l : List α, bls (l.map fun x => .bl (f x)) = some (l.map f)
  | [] => rfl
  | x :: l => by
    show ((bls (l.map fun x => .bl (f x))).map _) = _
    rw [bls_map f l]; rfl
theorem o_all {α : Type} (f : α → Bool) (l : List α) : g1 gAll [.lst (l.map fun x => .bl (f x))] = some (.sc (.bl (l.all f))) := by
  show ((bls (l.map fun x => .bl (f x))).map fun bs => PR.sc (.bl (bs.all id))) = _
  rw [bls_map]
  simp [List.all_map]
theorem o_any {α : Type} (f : α → Bool) (l : List α) : g1 gAny [.lst (l.map fun x => .bl (f x))] = some (.sc (.bl (l.any f))) := by
  show ((bls (l.map fun x => .bl (f x))).map fun bs => PR.sc (.bl (bs.any id))) = _
  rw [bls_map]
  simp [List.any_map]
theorem are_letters_e (s : List Nat) : F_are_letters [.fz (.str s)] = .ok (.fro (.bl (letB s))) [.un] := by
  refine wF_eq ?_
  unfold F_are_letters
  refine w_fn _ _ _ _ _ ?_
  unfold B_are_letters
  clear d_0
  refine w_ean (fun h => ?_) fun h => ?_
  · rw [decide_eq_true_eq] at h
    clear d_0
    refine w_compE ?_
    refine comp_s (fun rest acc ρ => ∃ pre post, s = pre ++ post ∧ rest = post.map (fun n => .str [n]) ∧ acc = pre.map (fun c => .bl (decide (c ∈ sg "abcdefghijklmnopqrstuvwxyz"))) ∧ ρ = [.fz (.str s), .un]) ?_ ?_ _ _ _ ?_
    · rintro d rest acc ρ ⟨pre, post, e, er, rfl, rfl⟩
      cases post with
      | nil => cases er
      | cons c post =>
        cases er
        refine ⟨_, by clear d_0; rfl, ?_⟩
        have : pre.length ≤ s.length := by rw [e]; simp
        clear o_inS
        exact ⟨decide_eq_true (by simp; omega), pre ++ [c], post, by rw [e]; simp, rfl, by simp, by first | rfl | trivial⟩
    · rintro acc ρ ⟨pre, post, e, er, rfl, rfl⟩
      obtain rfl : post = [] := by cases post <;> first | rfl | cases er
      rw [List.append_nil] at e
      subst e
      clear (o_all (fun c => decide (c ∈ sg "abcdefghijklmnopqrstuvwxyz")))
      have h8 : s.length ≤ 8 := by omega
      exact ⟨by unfold letB; rw [decide_eq_true h8, Bool.true_and], rfl⟩
    · exact ⟨[], s, rfl, rfl, rfl, rfl⟩
  · rw [decide_eq_false_iff_not] at h
    clear d_0
    have h8 : ¬ s.length ≤ 8 := by omega
    exact ⟨by unfold letB; rw [decide_eq_false h8, Bool.false_and], rfl⟩
theorem is_name_e (d : D) : F_is_name [.fz d] = .ok (.fro (.bl (nameD d))) [.un] := by
  refine wF_eq ?_
  unfold F_is_name
  refine w_fn _ _ _ _ _ ?_
  unfold B_is_name
  have e0 : sg "" = [] := rfl
  cases d with
  | str s =>
    clear (id e0)
    refine w_ean (fun h => ?_) fun h => ?_
    · clear (are_letters_e s)
      exact ⟨by simp only [nameD, h, Bool.true_and], rfl⟩
    · clear d_0
      exact ⟨by simp only [nameD, h, Bool.false_and], rfl⟩
  | _ => clear d_0; exact ⟨rfl, rfl⟩
theorem is_whole_e (d : D) : F_is_whole [.fz d] = .ok (.fro (.bl (match d with | .int _ => true | _ => false))) [.un] := by
  cases d <;> rfl
theorem is_number_e (d : D) : F_is_number [.fz d] = .ok (.fro (.bl (numD d))) [.un] := by
  refine wF_eq ?_
  unfold F_is_number
  refine w_fn _ _ _ _ _ ?_
  unfold B_is_number
  clear (is_whole_e d)
  cases d with
  | int i => clear d_0; exact ⟨rfl, rfl⟩
  | _ => clear d_0; exact ⟨rfl, rfl⟩
theorem is_said_e (d : D) : F_is_said [.fz d] = .ok (.fro (.bl (saidD d))) [.un] := by
  refine wF_eq ?_
  unfold F_is_said
  refine w_fn _ _ _ _ _ ?_
  unfold B_is_said
  have tup0 : ∀ x : D, orG gIx gIxD (.tup [x]) (.int 0) = some (.sc x) := fun x => rfl
  cases d with
  | tup xs =>
    cases xs with
    | nil => clear d_0; exact ⟨rfl, rfl⟩
    | cons x xs =>
      cases xs with
      | nil =>
        clear (id tup0)
        cases x with
        | str s => clear (id tup0) (are_letters_e s); exact ⟨rfl, rfl⟩
        | _ => clear d_0; exact ⟨rfl, rfl⟩
      | cons y ys =>
        clear d_0
        have : ((((ys.length + 1 + 1 : Nat) : Int) == 1)) = false := by rw [beq_eq_false_iff_ne]; omega
        refine w_ean (fun h => ?_) fun h => ?_
        · rw [this] at h; cases h
        · exact ⟨by cases x <;> rfl, rfl⟩
  | _ => clear d_0; exact ⟨rfl, rfl⟩
theorem is_node_e (d : D) : F_is_node [.fz d] = .ok (.fro (.bl (nodeD d))) [.un] := by
  refine wF_eq ?_
  unfold F_is_node
  refine w_fn _ _ _ _ _ ?_
  unfold B_is_node
  clear (is_name_e d)
  refine w_eor (fun h => ?_) fun h => ?_
  · clear d_0
    exact ⟨by unfold nodeD; rw [h, Bool.true_or], rfl⟩
  · clear (is_number_e d)
    refine w_eor (fun h2 => ?_) fun h2 => ?_
    · clear d_0
      exact ⟨by unfold nodeD; rw [h, h2, Bool.true_or, Bool.or_true], rfl⟩
    · clear (is_said_e d)
      exact ⟨by unfold nodeD; rw [h, h2, Bool.false_or, Bool.false_or], rfl⟩
theorem is_fact_e (d : D) : F_is_fact [.fz d] = .ok (.fro (.bl (factD d))) [.un] := by
  refine wF_eq ?_
  unfold F_is_fact
  refine w_fn _ _ _ _ _ ?_
  unfold B_is_fact
  cases d with
  | tup xs =>
    match xs with
    | [] => clear d_0; exact ⟨rfl, rfl⟩
    | [x] => clear d_0; exact ⟨rfl, rfl⟩
    | [x, y] => clear d_0; exact ⟨rfl, rfl⟩
    | [x, y, z] =>
      have t0 : orG gIx gIxD (.tup [x, y, z]) (.int 0) = some (.sc x) := rfl
      have t1 : orG gIx gIxD (.tup [x, y, z]) (.int 1) = some (.sc y) := rfl
      have t2 : orG gIx gIxD (.tup [x, y, z]) (.int 2) = some (.sc z) := rfl
      clear (id t0) (id t1) (id t2) (is_name_e x)
      refine w_ean (fun h => ?_) fun h => ?_
      · clear (id t1) (id t2) (is_name_e y)
        refine w_ean (fun h2 => ?_) fun h2 => ?_
        · clear (id t2) (is_node_e z)
          exact ⟨by simp only [factD, h, h2, Bool.true_and], rfl⟩
        · clear d_0
          exact ⟨by simp only [factD, h, h2, Bool.true_and, Bool.false_and], rfl⟩
      · clear d_0
        exact ⟨by simp only [factD, h, Bool.false_and], rfl⟩
    | x :: y :: z :: a :: l =>
      clear d_0
      have : ((((l.length + 1 + 1 + 1 + 1 : Nat) : Int) == 3)) = false := by rw [beq_eq_false_iff_ne]; omega
      refine w_if (fun h => ?_) fun h => ?_
      · clear d_0; exact ⟨rfl, rfl⟩
      · rw [this] at h; cases h
  | _ => clear d_0; exact ⟨rfl, rfl⟩
theorem key_of_e {d : D} (h : isNd d) : F_key_of [.fz d] = .ok (.fro (keyD d)) [.un] := by
  cases h <;> rfl
theorem fact_rank_e {d : D} (h : isFt d) : F_fact_rank [.fz d] = .ok (.fro (frank d)) [.un] := by
  cases h with
  | mk a b n _ _ hn =>
    refine wF_eq ?_
    unfold F_fact_rank
    refine w_fn _ _ _ _ _ ?_
    unfold B_fact_rank
    have t0 : orG gIx gIxD (.tup [.str a, .str b, n]) (.int 0) = some (.sc (.str a)) := rfl
    have t1 : orG gIx gIxD (.tup [.str a, .str b, n]) (.int 1) = some (.sc (.str b)) := rfl
    have t2 : orG gIx gIxD (.tup [.str a, .str b, n]) (.int 2) = some (.sc n) := rfl
    clear (id t0) (id t1) (id t2) (key_of_e hn)
    exact ⟨rfl, rfl⟩
/-- a list handed in: frozen, the callee's own, lent -/
inductive Arg (d : D) : Sl → Sl → Sl → Prop
  | fz : Arg d (.fz d) (.fz d) .un
  | ow : Arg d (.ow d) (.lk d) .un
  | le : Arg d (.le d) (.lk d) (.le d)
/-- each once, in order, by a key -/
def B_ord (k : Fn) : SemS :=
  (sSeq (sSet 1 eDct0)
  (sSeq (sFor (l1 (eVar 0)) itSeq (tgN 2)
  (sPut (orP gSetL gSetD) (eCon (.bl true)) (eVar 1) (eVar 2)))
  (sRet (eSortK k (lCons (eFn (orF (orF (g1 gListOf) (g1 gListD)) (g1 gListS)) (lCons (eVar 1) lNil)) lNil)))))
section
variable {Q : R → List Sl → Prop} {X : Ex → List Sl → Prop}
theorem ord_s {k : Fn} {S : D → Prop} {lt : D → D → Bool} {key : D → D} (O : OrdS S lt) (K : KeyS S) (hk : ∀ d, S d → k [.fz d] = .ok (.fro (key d)) [.un]) (hlt : ∀ a b, S a → S b → ltD (key a) (key b) = lt a b) (hs : ∀ ds : List D, (∀ x ∈ ds, S x) → srtB (ds.map key) = true)
    {ds : List D} {sl sk so : Sl} (a : Arg (.lst ds) sl sk so ∨ sl = .fz (.tup ds) ∧ sk = .fz (.tup ds) ∧ so = .un) (h : ∀ x ∈ ds, S x) (hl : ds.length ≤ 100000) (q : Q (.tmp (.lst (sortU lt ds))) [so]) : wF (fnOf 3 (B_ord k) [sl]) Q X := by
  refine w_fn _ _ _ _ _ ?_
  unfold B_ord
  have go : ∀ (u : WS.Env → WS.Env), (∀ kvs y, ∃ y', u [sk, .ow (.dct kvs), y] = [sl, .ow (.dct kvs), y']) → wS (forL (tgN 2) (sPut (orP gSetL gSetD) (eCon (.bl true)) (eVar 1) (eVar 2)) u ds [sk, .ow (.dct []), .un])
      (wKT (sRet (eSortK k (lCons (eFn (orF (orF (g1 gListOf) (g1 gListD)) (g1 gListS)) (lCons (eVar 1) lNil)) lNil))) (wN [sl] Q) (wT [sl] Q) no0 no0 (wX [sl] X)) (wT [sl] Q) no0 no0 (wX [sl] X) := by
    intro u hu
    refine for_s (fun items ρ => ∃ done slx, ds = done ++ items ∧ ρ = [sk, .ow (.dct (dictOf done [])), slx] ∧ slx.lent = false) ?_ ?_ _ _ ?_
    · rintro d rest ρ ⟨done, slx, e, rfl, hs⟩
      refine ⟨_, by clear (id hs); rfl, ?_⟩
      clear d_0
      have hd : ∀ x ∈ done, S x := fun x hx => h x (by rw [e]; simp [hx])
      obtain ⟨_, _, kk⟩ := dictOf_ok K (kvs := []) hd (fun p h => by cases h) (by simp)
      have hlen : done.length + (rest.length + 1) = ds.length := by rw [e]; simp
      simp only [List.length_nil] at kk
      refine w_setD (K.key d (h d (by rw [e]; simp))) (by omega) ?_
      clear d_0
      exact ⟨done ++ [d], _, by rw [e]; simp, by rw [dictOf_snoc], rfl⟩
    · rintro ρ ⟨done, slx, e, rfl, hs'⟩
      obtain ⟨y', e2⟩ := hu (dictOf done []) slx
      rw [List.append_nil] at e
      subst e
      rw [e2]
      have hn : ∀ x ∈ (dictOf ds []).map (·.1), S x := fun x hx => h x (by
        have := (dictOf_ok K (kvs := []) h (fun p h => by cases h) (by simp)).2.1 x
        rw [this] at hx; simpa using hx)
      have hkk := keysF_map (fn := k) (key := key) (ds := (dictOf ds []).map (·.1)) fun x hx => hk x (hn x hx)
      clear d_0
      refine w_outK hkk (hs _ hn) ?_
      rw [inOrder_eq O K hlt h]
      clear d_0
      rcases a with a | ⟨rfl, rfl, rfl⟩
      · cases a <;> exact q
      · exact q
    · exact ⟨[], _, rfl, rfl, rfl⟩
  rcases a with a | ⟨rfl, rfl, rfl⟩
  · cases a
    · clear d_0
      exact go id fun x y => ⟨y, rfl⟩
    · clear d_0
      exact go _ fun x y => ⟨_, rfl⟩
    · clear d_0
      exact go _ fun x y => ⟨_, rfl⟩
  · clear d_0
    exact go id fun x y => ⟨y, rfl⟩
theorem in_order_s {ds : List D} {sl sk so : Sl} (a : Arg (.lst ds) sl sk so ∨ sl = .fz (.tup ds) ∧ sk = .fz (.tup ds) ∧ so = .un) (h : ∀ x ∈ ds, isNd x) (hl : ds.length ≤ 100000) (q : Q (.tmp (.lst (sortU nlt ds))) [so]) : wF (F_in_order [sl]) Q X :=
  ord_s ordNd keyNd (fun d h => key_of_e h) (fun a b ha hb => keyD_lt ha hb) (fun ds h => srtB_keys h) a h hl q
theorem facts_in_order_s {ds : List D} {sl sk so : Sl} (a : Arg (.lst ds) sl sk so ∨ sl = .fz (.tup ds) ∧ sk = .fz (.tup ds) ∧ so = .un) (h : ∀ x ∈ ds, isFt x) (hl : ds.length ≤ 100000) (q : Q (.tmp (.lst (sortU flt ds))) [so]) : wF (F_facts_in_order [sl]) Q X :=
  ord_s ordFt keyFt (fun d h => fact_rank_e h) (fun a b ha hb => frank_lt ha hb) (fun ds h => srtB_ranks h) a h hl q
end
end WS
/-! Pc: what helpers of the laws answer. -/
namespace WS
open PySem L2
local macro_rules | `(tactic| clear $ts*) => do { let ls ← ts.mapM fun t => `(Lean.Parser.Tactic.simpLemma| $t:term); `(tactic| simp -implicitDefEqProofs (disch := omega) only [id_eq, beq_self_eq_true, Int.reduceBEq, Int.reduceLT, Int.reduceLE, Int.reduceNeg, Int.reduceAdd, Int.reduceSub, Int.reduceMul, decide_true, decide_false, List.length_cons, List.length_nil, List.cons_append, List.nil_append, List.replicate, List.map_cons, List.map_nil, Nat.reduceAdd, Nat.reduceSub, Nat.reduceBEq, Bool.and_self, Bool.not_true, Bool.not_false, Bool.true_and, Bool.false_and, Int.cast_ofNat_Int, bind_ok, bindN_ok, sbind_ok, then_nx, then_rt, then_bk, then_ct, loop_nx, loop_ct, loop_bk, loop_rt, x_var, evV_fz, evV_lf, evV_ow, evV_le, evV_lk, x_con, v_fro, v_tmp, v_at, g_fz, g_ow, g_le, g_lf, g_lk, d_0, d_s, s_0, s_s, p_sc, p_nl, p_nd, p_nt, x_op, x_op1, x_op2, x_un, x_un1, x_nil, x_cons, x_cons1, x_cons2, x_fn, x_fn1, x_tup, x_tup1, x_tup2, x_lst, x_lst1, x_lst2, x_dct0, f_nil, f_cons, f_k, f_k2, z_fro, z_tmp, z_at, z_ow, z_le, z_fz, z_lf, x_bl, x_bl1, b_bl, x_tru, x_tru1, b_tru, b_some, x_nt, x_nt1, x_an, x_an_t, x_an_f, x_or, x_or_t, x_or_f, x_ean, x_ean_t, x_ean_f, x_eor, x_eor_t, x_eor_f, x_ent, x_ent1, x_eif, x_eif_t, x_eif_f, x_ch, x_cha, x_chb, x_chk_t, x_chk_f, x_ch1, x_ch2, x_part0, x_part, x_part1, x_outI, x_sl, x_sl0, x_sl1, x_sl2, x_call, x_callE, x_callT, x_callO, a_nil, a_fro, a_tmp, a_at, a_t, a_f, w_ow, w_le, w_lk, w_fz, w_lf, n_nil, n_one, n_two, m_nil, m_cons, t_fro, t_tmp, t_at, t_ow, t_le, t_fz, t_lf, q_wbs, q_nil, q_cons, u_nil, u_fro, u_tmp, u_at, u_t, u_f, h_none, h_owle, h_owlf, h_lele, h_lelf, h_fz, h_un, h_lf, h_lk, x_l1, x_l11, x_comp, x_comp_f, x_comp_t, x_comp1, x_compE, c_nil, c_cons, c_un, c_fz, o_itS, o_itL, o_itT, x_seq, x_set, x_put, x_putB, x_put_f, x_put_t, x_put_a, x_putF, l_fz, l_ow, l_un, x_if, x_if_t, x_if_f, x_nilS, x_ret, x_ret1, x_exp, x_exp1, x_sput, x_sput0, x_sput1, x_sput2, x_sput3, x_outT, x_setZ_ow, x_setZ_le, x_mut, x_mut0, x_mut1, x_mut2, x_mut3, x_outS, x_outZ_ow, x_outZ_le, o_add, o_sub, o_eqI, o_neI, o_eqS, o_neS, o_lt, o_le, o_gt, o_ge, o_lenN, o_lenS, o_lenL, o_lenT, o_abs, o_slS, o_slL, o_slT, x_wh_t, x_wh_f, o_neg, o_isi, ky_non, ky_bl, ky_int, ky_str, ky_tup, ky_lst, ky_dct, ky_scr, ky_err, y_str_err, y_int_err, y_bool_err, y_tuple_err, y_list_err, y_dict_err, y_str_NoneType, y_str_bool, y_str_int, y_str_str, y_str_tuple, y_str_list, y_str_dict, y_int_NoneType, y_int_bool, y_int_int, y_int_str, y_int_tuple, y_int_list, y_int_dict, y_bool_NoneType, y_bool_bool, y_bool_int, y_bool_str, y_bool_tuple, y_bool_list, y_bool_dict, y_tuple_NoneType, y_tuple_bool, y_tuple_int, y_tuple_str, y_tuple_tuple, y_tuple_list, y_tuple_dict, y_list_NoneType, y_list_bool, y_list_int, y_list_str, y_list_tuple, y_list_list, y_list_dict, y_dict_NoneType, y_dict_bool, y_dict_int, y_dict_str, y_dict_tuple, y_dict_list, y_dict_dict, fo_for, fo_for_f, fo_some, fo_nil, fo_t, fo_nx, w_ok, w_exn, w_K, w_bind, w_KS, w_sbind, w_nx, w_rt, w_bk, w_ct, w_sx, w_KT, w_then, w_turn, w_C, w_CX, w_call, w_fok, w_fx, w_Co, fo_ownS, fo_for_a, fo_for_t, fo_for_ff, x_sortK, x_sortK1, x_met, x_met0, x_met1, x_met2, x_asg, x_asg0, o_clear, o_reverse, x_asg1, x_optS, oo_lt, oo_ltS, o_rev, t_str, t_lst, t_dct, fo_forL, n_three, k_lock, k_nil, k_cons, k_any, k_t, k_f, k_ow, k_le, k_lk, k_un, k_u0, k_ulk, k_ufz, k_uun, k_uow, k_ule, k_ulf, fo_A, g_tgN, g_tgA, g_tgT, g_tg0, g_tgL, g_some, g_w0, g_w1, g_b0, g_b1, x_ownO, x_comp_a, x_compA, x_comp_ff, k_uself, k_any2, fo_for_aa, fo_B, o_itZ, o_itZt, o_eqB, o_neB, i_is, i_isn, i_n0, i_n1, i_n2, i_n3, i_n4, i_n5, i_n6, i_tlk, i_t0, i_t1, i_t2, i_t3, i_t4, i_t5, i_l0, i_l1, i_l2, i_l3, i_l4, i_l5, i_leI, i_leS, o_listD, o_listL, o_listT, if_true, ite_true, ite_false, Bool.and_true, Bool.not_not, o_mul2, o_mod, o_div, ev_addS1, ev_addL1, ev_addS, ev_addL, p_2, p_3, p_4, p_5, p_6, p_7, p_8, p_9, p_10, p_12, p_15, p_18, p_20, p_25, p_29, p_30, p_31, p_60, $ls,*]) }
section
variable {Q : R → List Sl → Prop} {X : Ex → List Sl → Prop}
theorem sort_e {d : D} (h : isNd d) : F__law_sort [.fz d] = .ok (.fro (.int (kn d))) [.un] := by
  cases h <;> rfl
theorem lt_pre (p s t : List Nat) : (p ++ s < p ++ t) ↔ s < t := by
  induction p with
  | nil => rfl
  | cons a p ih => rw [List.cons_append, List.cons_append, List.cons_lt_cons_self, ih]
theorem idx_let {c : Nat} (h : 97 ≤ c ∧ c ≤ 122) : c ∈ sg "abcdefghijklmnopqrstuvwxyz" ∧ (sg "abcdefghijklmnopqrstuvwxyz").idxOf c = c - 97 := by
  have all : ∀ k, k < 26 → (97 + k) ∈ sg "abcdefghijklmnopqrstuvwxyz" ∧ (sg "abcdefghijklmnopqrstuvwxyz").idxOf (97 + k) = k := by decide +kernel
  obtain ⟨k, rfl⟩ : ∃ k, c = 97 + k := ⟨c - 97, by omega⟩
  have := all k (by omega)
  exact ⟨this.1, by omega⟩
theorem min_len {s t : List Nat} : g2 gMin [.int (s.length : Int), .int (t.length : Int)] = some (.sc (.int (min s.length t.length : Nat))) := by
  show some (PR.sc (.int (if (t.length : Int) < s.length then t.length else s.length))) = _
  congr 3
  split <;> omega
theorem lesser_s {s t : List Nat} (hs : isLet s) (ht : isLet t) (ls : s.length ≤ 1000) (q : Q (.fro (.bl (decide (s < t)))) [.un, .un]) : wF (F__law_lesser [.fz (.str s), .fz (.str t)]) Q X := by
  unfold F__law_lesser
  refine w_fn _ _ _ _ _ ?_
  unfold B__law_lesser
  clear min_len
  have hb : ((min s.length t.length : Nat) : Int) ≤ 1000 := by omega
  with_reducible refine w_range1 ?_ ?_ ?_
  · omega
  · omega
  refine for_s (fun items ρ => ∃ (p s1 t1 : List Nat) (sl : Sl), s = p ++ s1 ∧ t = p ++ t1 ∧ items = upTo p.length (min s1.length t1.length) ∧ ρ = [.fz (.str s), .fz (.str t), .fz (.str (sg "abcdefghijklmnopqrstuvwxyz")), sl] ∧ sl.lent = false) ?_ ?_ _ _ ?_
  · rintro d ds ρ ⟨p, s1, t1, sl, e1, e2, e, rfl, hl⟩
    obtain ⟨m, hm, rfl, rfl⟩ := upTo_inv e
    refine ⟨_, by clear (id hl); rfl, ?_⟩
    cases s1 with
    | nil => simp at hm
    | cons c s1 =>
      cases t1 with
      | nil => simp at hm
      | cons k t1 =>
        clear d_0
        refine w_ixS (by omega) (by rw [e1]; simp; omega) fun c' _ g => ?_
        obtain rfl : c = c' := by rw [e1] at g; simpa using g
        clear d_0
        refine w_ixS (by omega) (by rw [e2]; simp; omega) fun k' _ g => ?_
        obtain rfl : k = k' := by rw [e2] at g; simpa using g
        clear d_0
        have hc := hs c (by rw [e1]; simp)
        have hk := ht k (by rw [e2]; simp)
        refine w_if (fun h => ?_) fun h => ?_
        · clear d_0
          refine w_ixS (by omega) (by rw [e1]; simp; omega) fun c' _ g => ?_
          obtain rfl : c = c' := by rw [e1] at g; simpa using g
          clear d_0
          refine w_idx (idx_let hc).1 ?_
          clear d_0
          refine w_ixS (by omega) (by rw [e2]; simp; omega) fun k' _ g => ?_
          obtain rfl : k = k' := by rw [e2] at g; simpa using g
          clear d_0
          refine w_idx (idx_let hk).1 ?_
          clear (idx_let hc).2 (idx_let hk).2
          have hne : c ≠ k := by simpa using h
          have e3 : decide (((c - 97 : Nat) : Int) < ((k - 97 : Nat) : Int)) = decide (s < t) := by
            have : s < t ↔ c < k := by
              rw [e1, e2, lt_pre, List.cons_lt_cons_iff]
              constructor
              · rintro (h | ⟨h, _⟩)
                · exact h
                · exact absurd h hne
              · exact .inl
            rw [decide_eq_decide, this]
            omega
          show wT _ Q (.fro (.bl (decide (((c - 97 : Nat) : Int) < ((k - 97 : Nat) : Int))))) _
          rw [e3]
          exact q
        · clear d_0
          have hne : c = k := by simpa using h
          subst hne
          exact ⟨p ++ [c], s1, t1, _, by rw [e1]; simp, by rw [e2]; simp, by simp at hm; subst hm; simp, rfl, rfl⟩
  · rintro ρ ⟨p, s1, t1, sl, e1, e2, e, rfl, hl⟩
    have hm := upTo_nil e
    clear d_0
    have e3 : decide ((s.length : Int) < t.length) = decide (s < t) := by
      rw [decide_eq_decide, e1, e2, lt_pre]
      cases s1 with
      | nil =>
        cases t1 with
        | nil => simp [List.lt_irrefl]
        | cons k t1 => first | (simp; done) | (simp; omega)
      | cons c s1 =>
        cases t1 with
        | nil => first | (simp; done) | (simp; omega)
        | cons k t1 => simp at hm
    show wT _ Q (.fro (.bl (decide ((s.length : Int) < t.length)))) _
    rw [e3]
    exact q
  · exact ⟨[], s, t, _, rfl, rfl, by simp, rfl, rfl⟩
theorem node_before_s {a b : D} (ha : isNd a) (hb : isNd b) (la : ∀ s, a = .str s ∨ a = .tup [.str s] → s.length ≤ 1000) (q : Q (.fro (.bl (nlt a b))) [.un, .un]) : wF (F__law_node_before [.fz a, .fz b]) Q X := by
  have ea := sort_e ha
  have eb := sort_e hb
  unfold F__law_node_before
  refine w_fn _ _ _ _ _ ?_
  unfold B__law_node_before
  clear (id ea) (id eb)
  have tup0 : ∀ x : D, orG gIx gIxD (.tup [x]) (.int 0) = some (.sc x) := fun x => rfl
  cases ha with
  | int i =>
    cases hb with
    | int j => clear kn; exact q
    | said t ht => clear kn; exact q
    | thing t ht => clear kn; exact q
  | said s hs =>
    cases hb with
    | int j => clear kn; exact q
    | said t ht =>
      clear (id tup0) kn
      refine lesser_s hs ht (la s (.inr rfl)) ?_
      clear d_0
      exact q
    | thing t ht => clear kn; exact q
  | thing s hs =>
    cases hb with
    | int j => clear kn; exact q
    | said t ht => clear kn; exact q
    | thing t ht =>
      clear kn
      refine lesser_s hs ht (la s (.inl rfl)) ?_
      clear d_0
      exact q
/-- laid one by one -/
def B_laidG (bf : Fn) : SemS :=
  (sSeq (sSet 1 (eLst lNil))
  (sSeq (sFor (l1 (eVar 0)) itSeq (tgN 2)
  (sSeq (sSet 3 (eFn (g1 gLen) (lCons (eComp (l1 (eVar 1)) itSeq (tgN 4) [4] (tTru (eCall bf (lCons (eVar 4) (lCons (eVar 2) lNil)))) (eVar 4)) lNil)))
  (sIf (tOr' (tBl (eOp gEq (eVar 3) (eFn (g1 gLen) (lCons (eVar 1) lNil)))) (tTru (eCall bf (lCons (eVar 2) (lCons (eOp (orG gIx gIxD) (eVar 1) (eVar 3)) lNil)))))
  (sExp (eMut "list" gInsert (eVar 1) (lCons (eVar 3) (lCons (eVar 2) lNil))))
  sNil)))
  (sRet (eVar 1))))
theorem laidG_s {bf : Fn} {S : D → Prop} {lt : D → D → Bool} (O : OrdS S lt) (hbf : ∀ a b, S a → S b → ∀ (Q : R → List Sl → Prop) (X : Ex → List Sl → Prop), Q (.fro (.bl (lt a b))) [.un, .un] → wF (bf [.fz a, .fz b]) Q X) {ds : List D} {sl sk so : Sl} (a : Arg (.lst ds) sl sk so) (h : ∀ x ∈ ds, S x) (hl : ds.length ≤ 1000) (q : Q (.tmp (.lst (sortU lt ds))) [so]) : wF (fnOf 5 (B_laidG bf) [sl]) Q X := by
  refine w_fn _ _ _ _ _ ?_
  unfold B_laidG
  have hN := h
  have go : ∀ (b : SemS) (u : WS.Env → WS.Env), b = (sSeq (sSet 3 (eFn (g1 gLen) (lCons (eComp (l1 (eVar 1)) itSeq (tgN 4) [4] (tTru (eCall bf (lCons (eVar 4) (lCons (eVar 2) lNil)))) (eVar 4)) lNil)))
  (sIf (tOr' (tBl (eOp gEq (eVar 3) (eFn (g1 gLen) (lCons (eVar 1) lNil)))) (tTru (eCall bf (lCons (eVar 2) (lCons (eOp (orG gIx gIxD) (eVar 1) (eVar 3)) lNil)))))
  (sExp (eMut "list" gInsert (eVar 1) (lCons (eVar 3) (lCons (eVar 2) lNil))))
  sNil)) → (∀ l x y, ∃ x' y' z', u [sk, .ow (.lst l), x, y, .un] = [sl, .ow (.lst l), x', y', z']) → wS (forL (tgN 2) b u ds [sk, .ow (.lst []), .un, .un, .un])
      (wKT (sRet (eVar 1)) (wN [sl] Q) (wT [sl] Q) no0 no0 (wX [sl] X)) (wT [sl] Q) no0 no0 (wX [sl] X) := by
    intro b u hb hu
    refine for_s (fun items ρ => ∃ done x y, ds = done ++ items ∧ ρ = [sk, .ow (.lst (sortU lt done)), x, y, .un] ∧ x.lent = false ∧ y.lent = false) ?_ ?_ _ _ ?_
    · rintro d rest ρ ⟨done, x, y, e, rfl, hx, hy⟩
      refine ⟨_, by clear (id hx); rfl, ?_⟩
      have hd8 : S d := h d (by rw [e]; simp)
      have hdone : ∀ x ∈ done, S x := fun x hx => hN x (by rw [e]; simp [hx])
      obtain ⟨r1, r2, r3⟩ := sortU_ok O hdone
      have hL : ∀ x ∈ sortU lt done, S x := fun x hx => h x (by rw [e]; simp [(r2 x).mp hx])
      have hlen : (sortU lt done).length ≤ 1000 := by
        have : done.length ≤ ds.length := by rw [e]; simp
        omega
      have hnext : sortU lt (done ++ [d]) = insU lt (sortU lt done) d := by unfold sortU; rw [List.foldl_append]; rfl
      obtain ⟨c1, _, _⟩ := ahead_cut O hd8 hL r1
      generalize sortU lt done = L at *
      subst hb
      clear (id hy)
      refine w_compE ?_
      refine comp_s (fun rest acc ρ' => ∃ pre, L = pre ++ rest ∧ acc = pre.filter (fun z => lt z d) ∧ ρ' = [sk, .lk (.lst L), .fz d, y, .un]) ?_ ?_ _ _ _ ?_
      · rintro z rest2 acc ρ' ⟨pre, e1, rfl, rfl⟩
        have hz : S z := hL z (by rw [e1]; simp)
        refine ⟨_, by clear (id hy); rfl, ?_⟩
        clear d_0
        refine hbf _ _ hz hd8 _ _ ?_
        clear d_0
        cases hc : lt z d with
        | true =>
          clear d_0
          have hp : (pre.filter (fun z => lt z d)).length ≤ pre.length := List.length_filter_le _ _
          have hp2 : pre.length + (rest2.length + 1) = L.length := by rw [e1]; simp
          exact ⟨decide_eq_true (by omega), pre ++ [z], by rw [e1]; simp, by rw [List.filter_append, List.filter_cons, if_pos hc]; rfl, by first | rfl | trivial⟩
        | false =>
          try clear d_0
          exact ⟨pre ++ [z], by rw [e1]; simp, by rw [List.filter_append, List.filter_cons, if_neg (by rw [hc]; decide)]; simp, by first | rfl | trivial⟩
      · rintro acc ρ' ⟨pre, e1, rfl, rfl⟩
        rw [List.append_nil] at e1
        subst e1
        clear (id hy)
        have hk : (L.filter (fun z => lt z d)).length = aheadN lt d L := rfl
        rw [hk]
        have fin : ∀ y', (∃ done_1 x y, ds = done_1 ++ rest ∧ [sk, Sl.ow (D.lst (insU lt L d)), Sl.fz d, y', Sl.un] = [sk, Sl.ow (D.lst (sortU lt done_1)), x, y, Sl.un] ∧ x.lent = false ∧ y.lent = false) ∨ y'.lent = true := fun y' => by
          cases hy' : y'.lent with
          | true => exact .inr rfl
          | false => exact .inl ⟨done ++ [d], .fz d, y', by rw [e]; simp, by rw [hnext], rfl, hy'⟩
        refine w_or (fun hc => ?_) fun hc => ?_
        · clear d_0
          refine w_insert (by omega) (by omega) (by omega) ?_
          clear d_0
          have e3 : insU lt L d = L.take (aheadN lt d L) ++ [d] ++ L.drop (aheadN lt d L) := by
            unfold insU
            rw [if_pos]
            have hc' : aheadN lt d L = L.length := by rw [beq_iff_eq] at hc; omega
            simp [hc']
          have := fin (.fz (.int (aheadN lt d L)))
          rw [e3] at this
          exact this.resolve_right (by simp [Sl.lent])
        · have hc' : ¬ aheadN lt d L = L.length := by rw [beq_eq_false_iff_ne] at hc; omega
          clear d_0
          refine w_ixL (by omega) (by omega) fun z hz hg => ?_
          clear d_0
          refine hbf _ _ hd8 (hL z hz) _ _ ?_
          clear d_0
          have eg : L.getD (aheadN lt d L) .non = z := by
            rw [List.getD_eq_getElem?_getD]
            have : L[aheadN lt d L]? = some z := by simpa using hg
            rw [this]; rfl
          refine w_if (fun hd => ?_) fun hd => ?_
          · clear d_0
            refine w_insert (by omega) (by omega) (by omega) ?_
            clear d_0
            have e3 : insU lt L d = L.take (aheadN lt d L) ++ [d] ++ L.drop (aheadN lt d L) := by
              unfold insU
              rw [if_pos]
              rw [eg, hd, Bool.or_true]
            have := fin (.fz (.int (aheadN lt d L)))
            rw [e3] at this
            exact this.resolve_right (by simp [Sl.lent])
          · clear d_0
            have e3 : insU lt L d = L := by
              unfold insU
              rw [if_neg]
              rw [eg, hd, Bool.or_false]
              simpa using hc'
            have := fin (.fz (.int (aheadN lt d L)))
            rw [e3] at this
            exact this.resolve_right (by simp [Sl.lent])
      · exact ⟨[], rfl, rfl, rfl⟩
    · rintro ρ ⟨done, x, y, e, rfl, hx, hy⟩
      rw [List.append_nil] at e
      subst e
      obtain ⟨x', y', z', e2⟩ := hu (sortU lt ds) x y
      rw [e2]
      clear d_0
      cases a <;> exact q
    · exact ⟨[], _, _, rfl, rfl, rfl, rfl⟩
  cases a
  · clear d_0
    exact go _ id rfl fun l x y => ⟨x, y, _, rfl⟩
  · clear d_0
    exact go _ _ rfl fun l x y => ⟨_, _, _, rfl⟩
  · clear d_0
    exact go _ _ rfl fun l x y => ⟨_, _, _, rfl⟩
theorem w_setL {ρ : WS.Env} {N : WS.Env → Prop} {T : R → WS.Env → Prop} {B C : WS.Env → Prop} {X : XQ} {xs : List D} {k : Int} {v : D} {i : Nat} (h0 : 0 ≤ k) (h1 : k < xs.length) (q : wS (outT i ρ (some (.lst (xs.set k.toNat v)))) N T B C X) : wS (outT i ρ (orP gSetL gSetD (.lst xs) (.int k) v)) N T B C X := by
  have e : orP gSetL gSetD (.lst xs) (.int k) v = some (.lst (xs.set k.toNat v)) := by
    unfold orP
    have h1 : gSetL (.lst xs) (.int k) v = some (.lst (xs.set k.toNat v)) := by
      show ((ixN xs.length k).map fun j => D.lst (xs.set j v)) = _
      rw [ev_ixN h0 h1]; rfl
    rw [h1]
  rw [e]; exact q
end
end WS
namespace K05
open PySem L2 WS
def top (i : Nat) : Stmt := PySem.Challenge.pw_webshapes_k05_facts_as_texts.main.body.getD i (.Pass ⟨0, 0, 0, 0⟩)
structure Txt (w : World) (K : PySem.W.Frag) (mg : Str → Option Value) : Prop where
  b_ValueError : mg "ValueError" = none
  b_abs : mg "abs" = none
  b_all : mg "all" = none
  b_bool : mg "bool" = none
  b_int : mg "int" = none
  b_isinstance : mg "isinstance" = none
  b_len : mg "len" = none
  b_range : mg "range" = none
  b_str : mg "str" = none
  b_tuple : mg "tuple" = none
  c_FIGURES : ∃ t, mg "FIGURES" = some (.str (Str.ofString "0123456789") t)
  c_LETTERS : ∃ t, mg "LETTERS" = some (.str (Str.ofString "abcdefghijklmnopqrstuvwxyz") t)
  c_MOST_FIGURES : ∃ t, mg "MOST_FIGURES" = some (.int 30 t)
  c_MOST_LETTERS : ∃ t, mg "MOST_LETTERS" = some (.int 8 t)
  c_TICK : ∃ t, mg "TICK" = some (.str (Str.ofString "'") t)
  g_NoNode : mg "NoNode" = some (.ref (cAddr K "NoNode"))
  g_NoFact : mg "NoFact" = some (.ref (cAddr K "NoFact"))
  g_ShapeError : mg "ShapeError" = some (.ref (cAddr K "ShapeError"))
  n_NoNode : clsIs K "NoNode" (cAddr K "NoNode")
  q_NoNode : PySem.W.excIn K (cAddr K "NoNode") [.type "ValueError", .type "Exception", .type "BaseException", .type "object"] "ValueError.__new__" = true
  k_NoNode : PySem.W.keepIn K (.ref (cAddr K "NoNode")) = true
  n_NoFact : clsIs K "NoFact" (cAddr K "NoFact")
  q_NoFact : PySem.W.excIn K (cAddr K "NoFact") [.type "ValueError", .type "Exception", .type "BaseException", .type "object"] "ValueError.__new__" = true
  k_NoFact : PySem.W.keepIn K (.ref (cAddr K "NoFact")) = true
  e_NoNode : ExmT K (.ref (cAddr K "NoNode")) [("NoNode", true), ("NoFact", false)]
  e_ShapeError : ExmT K (.ref (cAddr K "ShapeError")) [("NoNode", true), ("NoFact", true)]
  i_NoFact : KitS K (.ref (cAddr K "NoFact")) [("NoNode", false), ("NoFact", true)]
  i_ValueError : KitS K (.type "ValueError") [("NoNode", true), ("NoFact", true)]
  i_NoNode : KitS K (.ref (cAddr K "NoNode")) [("NoNode", true), ("NoFact", false)]
section
variable {P : Program} {w : World} {K : PySem.W.Frag} {mg : Str → Option Value} {base : Heap} {c : XC} {m : Md}
/-! ### _law_pen -/
abbrev s__law_pen : Stmt := top 19
abbrev N__law_pen : List Str := ["_law_script"]
theorem sc__law_pen : FnScope N__law_pen ["_law_script"] (defScope s__law_pen) := ⟨rfl, rfl, rfl, by decide +kernel, rfl, by decide +kernel, by decide +kernel⟩
def B__law_pen : SemS :=
  (sRet (eDct (((eCon (.str (sg "script"))), (eVar 0)) :: (((eCon (.str (sg "at"))), (eCon (.int 0))) :: (((eCon (.str (sg "left"))), (eCon (.int 0))) :: [])))))
def F__law_pen : Fn := fnOf 1 B__law_pen
theorem dv__law_pen  (T : Txt w K mg) {f : Addr} (cdv : Value) (A : Around) (outer : List PySem.Env) (s : Shared) (H : Hp) (E : XK) (hr : Room 0 (A.deeper (PyProof.Rows.envOfC "_law_pen" (defScope s__law_pen) s.heap.objs.size f cdv))) :
    SSs (cxOf (CXm m P w) P w K mg base N__law_pen "_law_pen" (defScope s__law_pen) f cdv A outer s H E) c (fun cls d _ H => E cls d H) (defBody s__law_pen) B__law_pen :=
  have hu65 : (A.deeper (PyProof.Rows.envOfC "_law_pen" (defScope s__law_pen) s.heap.objs.size f cdv)).units + 65 < cLine := by have := hr.un; omega
  have hu9 : (A.deeper (PyProof.Rows.envOfC "_law_pen" (defScope s__law_pen) s.heap.objs.size f cdv)).units + 9 < cLine := by omega
  have nd := sc__law_pen.nd
  (sss_one (ss_ret (se_dct hu9 (sd_cons (se_str (sg_cps "script") (by decide +kernel)) (se_var (i := 0) rfl (by first | exact Or.inl rfl | exact Or.inr (Or.inl rfl) | exact Or.inr (Or.inr rfl)) rfl rfl) (sd_cons (se_str (sg_cps "at") (by decide +kernel)) se_int (sd_cons (se_str (sg_cps "left") (by decide +kernel)) se_int sd_nil))) (fun z => nomatch z) (by decide))))
theorem ok__law_pen  (T : Txt w K mg) {f : Addr} {fd : FuncData} (D : Fun K "_law_pen" "_law_pen" s__law_pen f fd) (hm : mg "_law_pen" = some (.ref f)) (hb : Binds K fd ["_law_script"] []) : Cal m P w K mg base c "_law_pen" f fd 1 ["_law_script"] F__law_pen 1 :=
  ⟨fn_okD D sc__law_pen rfl rfl fun cdv A outer s H E hr => dv__law_pen  T cdv A outer s H E hr, fun s => okF_of (dv__law_pen (m := m) (P := P) (w := w) (base := base) (c := c) (f := f)  T .none callerA [] s (fun _ => none) (fun _ _ _ => False) (room_caller (by decide))).ok, hm, D.kp, hb⟩
/-! ### show_node -/
abbrev s_show_node : Stmt := top 12
abbrev N_show_node : List Str := ["node"]
theorem sc_show_node : FnScope N_show_node ["node"] (defScope s_show_node) := ⟨rfl, rfl, rfl, by decide +kernel, rfl, by decide +kernel, by decide +kernel⟩
def B_show_node : SemS :=
  (sSeq (sIf (tTru (eUn (gIsi "tuple") (eVar 0)))
  (sRet (eOp gAdd (eCon (.str (sg "'"))) (eOp (orG gIx gIxD) (eVar 0) (eCon (.int 0)))))
  sNil)
  (sRet (eFn (g1 gStr) (lCons (eVar 0) lNil))))
def F_show_node : Fn := fnOf 1 B_show_node
theorem dv_show_node  (T : Txt w K mg) {f : Addr} (cdv : Value) (A : Around) (outer : List PySem.Env) (s : Shared) (H : Hp) (E : XK) (hr : Room 0 (A.deeper (PyProof.Rows.envOfC "show_node" (defScope s_show_node) s.heap.objs.size f cdv))) :
    SSs (cxOf (CXm m P w) P w K mg base N_show_node "show_node" (defScope s_show_node) f cdv A outer s H E) c (fun cls d _ H => E cls d H) (defBody s_show_node) B_show_node :=
  have hu65 : (A.deeper (PyProof.Rows.envOfC "show_node" (defScope s_show_node) s.heap.objs.size f cdv)).units + 65 < cLine := by have := hr.un; omega
  have hu9 : (A.deeper (PyProof.Rows.envOfC "show_node" (defScope s_show_node) s.heap.objs.size f cdv)).units + 9 < cLine := by omega
  have nd := sc_show_node.nd
  (sss_cons (ss_if (st_tru (se_isi (se_var (i := 0) rfl (by first | exact Or.inl rfl | exact Or.inr (Or.inl rfl) | exact Or.inr (Or.inr rfl)) rfl rfl) k_tuple rfl T.b_isinstance rfl T.b_tuple (by decide +kernel) (by decide) rfl rfl) (fun _ => rfl))
  (sss_one (ss_ret (se_op opG_add (se_gstr (s := "'") rfl T.c_TICK rfl (by decide +kernel)) (se_ix (ixG.or (ixG_D hu9)) (se_var (i := 0) rfl (by first | exact Or.inl rfl | exact Or.inr (Or.inl rfl) | exact Or.inr (Or.inr rfl)) rfl rfl) se_int (fun _ _ => rfl)))))
  sss_nil)
  (sss_one (ss_ret (se_fnT fn_str rfl T.b_str (by decide +kernel) (sa_cons (se_var (i := 0) rfl (by first | exact Or.inl rfl | exact Or.inr (Or.inl rfl) | exact Or.inr (Or.inr rfl)) rfl rfl) sa_nil rfl) (by decide) rfl rfl rfl))))
theorem ok_show_node  (T : Txt w K mg) {f : Addr} {fd : FuncData} (D : Fun K "show_node" "show_node" s_show_node f fd) (hm : mg "show_node" = some (.ref f)) (hb : Binds K fd ["node"] []) : Cal m P w K mg base c "show_node" f fd 1 ["node"] F_show_node 1 :=
  ⟨fn_okD D sc_show_node rfl rfl fun cdv A outer s H E hr => dv_show_node  T cdv A outer s H E hr, fun s => okF_of (dv_show_node (m := m) (P := P) (w := w) (base := base) (c := c) (f := f)  T .none callerA [] s (fun _ => none) (fun _ _ _ => False) (room_caller (by decide))).ok, hm, D.kp, hb⟩
/-! ### show_fact -/
abbrev s_show_fact : Stmt := top 16
abbrev N_show_fact : List Str := ["fact"]
theorem sc_show_fact : FnScope N_show_fact ["fact"] (defScope s_show_fact) := ⟨rfl, rfl, rfl, by decide +kernel, rfl, by decide +kernel, by decide +kernel⟩
def B_show_fact : SemS :=
  (sRet (eOp gAdd (eOp gAdd (eOp gAdd (eOp gAdd (eOp (orG gIx gIxD) (eVar 0) (eCon (.int 0))) (eCon (.str (sg " ")))) (eOp (orG gIx gIxD) (eVar 0) (eCon (.int 1)))) (eCon (.str (sg " ")))) (eCall F_show_node (lCons (eOp (orG gIx gIxD) (eVar 0) (eCon (.int 2))) lNil))))
def F_show_fact : Fn := fnOf 1 B_show_fact
theorem dv_show_fact {a_show_node : Addr} {d_show_node : FuncData} (G_show_node : Cal m P w K mg base c "show_node" a_show_node d_show_node 1 ["node"] F_show_node 1) (T : Txt w K mg) {f : Addr} (cdv : Value) (A : Around) (outer : List PySem.Env) (s : Shared) (H : Hp) (E : XK) (hr : Room 1 (A.deeper (PyProof.Rows.envOfC "show_fact" (defScope s_show_fact) s.heap.objs.size f cdv))) :
    SSs (cxOf (CXm m P w) P w K mg base N_show_fact "show_fact" (defScope s_show_fact) f cdv A outer s H E) c (fun cls d _ H => E cls d H) (defBody s_show_fact) B_show_fact :=
  have hu65 : (A.deeper (PyProof.Rows.envOfC "show_fact" (defScope s_show_fact) s.heap.objs.size f cdv)).units + 65 < cLine := by have := hr.un; omega
  have hu9 : (A.deeper (PyProof.Rows.envOfC "show_fact" (defScope s_show_fact) s.heap.objs.size f cdv)).units + 9 < cLine := by omega
  have nd := sc_show_fact.nd
  (sss_one (ss_ret (se_op opG_add (se_op opG_add (se_op opG_add (se_op opG_add (se_ix (ixG.or (ixG_D hu9)) (se_var (i := 0) rfl (by first | exact Or.inl rfl | exact Or.inr (Or.inl rfl) | exact Or.inr (Or.inr rfl)) rfl rfl) se_int (fun _ _ => rfl)) (se_str (sg_cps " ") (by decide +kernel))) (se_ix (ixG.or (ixG_D hu9)) (se_var (i := 0) rfl (by first | exact Or.inl rfl | exact Or.inr (Or.inl rfl) | exact Or.inr (Or.inr rfl)) rfl rfl) se_int (fun _ _ => rfl))) (se_str (sg_cps " ") (by decide +kernel))) (se_call G_show_node.ok (G_show_node.okx s) (hr.mono (j := 1) (by decide)) rfl G_show_node.mg G_show_node.kp G_show_node.bd takesD (sa_cons (se_ix (ixG.or (ixG_D hu9)) (se_var (i := 0) rfl (by first | exact Or.inl rfl | exact Or.inr (Or.inl rfl) | exact Or.inr (Or.inr rfl)) rfl rfl) se_int (fun _ _ => rfl)) sa_nil rfl) rfl rfl rfl rfl))))
theorem ok_show_fact {a_show_node : Addr} {d_show_node : FuncData} (G_show_node : Cal m P w K mg base c "show_node" a_show_node d_show_node 1 ["node"] F_show_node 1) (T : Txt w K mg) {f : Addr} {fd : FuncData} (D : Fun K "show_fact" "show_fact" s_show_fact f fd) (hm : mg "show_fact" = some (.ref f)) (hb : Binds K fd ["fact"] []) : Cal m P w K mg base c "show_fact" f fd 2 ["fact"] F_show_fact 1 :=
  ⟨fn_okD D sc_show_fact rfl rfl fun cdv A outer s H E hr => dv_show_fact G_show_node T cdv A outer s H E hr, fun s => okF_of (dv_show_fact (m := m) (P := P) (w := w) (base := base) (c := c) (f := f) G_show_node T .none callerA [] s (fun _ => none) (fun _ _ _ => False) (room_caller (by decide))).ok, hm, D.kp, hb⟩
/-! ### _law_take -/
abbrev s__law_take : Stmt := top 20
abbrev N__law_take : List Str := ["_law_pen_here", "_law_most", "_law_at", "_law_cell", "_law_n", "_law_found"]
theorem sc__law_take : FnScope N__law_take ["_law_pen_here", "_law_most"] (defScope s__law_take) := ⟨rfl, rfl, rfl, by decide +kernel, rfl, by decide +kernel, by decide +kernel⟩
def B__law_take : SemS :=
  (sSeq (sSet 2 (eOp (orG gIx gIxD) (eVar 0) (eCon (.str (sg "at")))))
  (sSeq (sIf (tBl (eOp gEq (eOp (orG gIx gIxD) (eVar 0) (eCon (.str (sg "left")))) (eCon (.int 0))))
  (sSeq (sPut (orP gSetL gSetD) (eOp gAdd (eVar 2) (eCon (.int 1))) (eVar 0) (eCon (.str (sg "at"))))
  (sSeq (sSet 3 (eCon (.int 1151)))
  (sSeq (sIf (tBl (eOp gGt (eFn (g1 gLen) (lCons (eOp (orG gIx gIxD) (eVar 0) (eCon (.str (sg "script")))) lNil)) (eCon (.int 0))))
  (sSet 3 (eOp (orG gIx gIxD) (eOp (orG gIx gIxD) (eVar 0) (eCon (.str (sg "script")))) (eOp gMod (eVar 2) (eFn (g1 gLen) (lCons (eOp (orG gIx gIxD) (eVar 0) (eCon (.str (sg "script")))) lNil)))))
  sNil)
  (sSeq (sIf (tOr' (tBl (eOp gGe (eVar 2) (eFn (g1 gLen) (lCons (eOp (orG gIx gIxD) (eVar 0) (eCon (.str (sg "script")))) lNil)))) (tBl (eOp (orG gLt gLtD) (eFn (g1 gAbs) (lCons (eVar 3) lNil)) (eOp gPow (eCon (.int 10)) (eCon (.int 18))))))
  (sSeq (sSet 3 (eOp gAdd (eOp gAdd (eOp gMod (eVar 3) (eCon (.int 2147483543))) (eOp gMul (eCon (.int 67867967)) (eVar 2))) (eCon (.int 521))))
  (sSeq (sSet 4 (eOp gMod (eOp gMul (eVar 3) (eCon (.int 40692))) (eCon (.int 2147483647))))
  (sSeq (sSet 4 (eOp gMod (eOp gAdd (eOp gAdd (eOp gMul (eVar 4) (eVar 4)) (eOp gMul (eCon (.int 9049)) (eVar 4))) (eOp gMul (eCon (.int 49979693)) (eVar 2))) (eCon (.int 2147483563))))
  (sRet (eOp gMod (eOp gDiv (eOp gMod (eOp gMul (eVar 4) (eCon (.int 69621))) (eCon (.int 2147483629))) (eCon (.int 19))) (eVar 1))))))
  sNil)
  (sPut (orP gSetL gSetD) (eFn (g1 gAbs) (lCons (eVar 3) lNil)) (eVar 0) (eCon (.str (sg "left"))))))))
  sNil)
  (sSeq (sSet 5 (eOp gMod (eOp (orG gIx gIxD) (eVar 0) (eCon (.str (sg "left")))) (eVar 1)))
  (sSeq (sPut (orP gSetL gSetD) (eOp gDiv (eOp (orG gIx gIxD) (eVar 0) (eCon (.str (sg "left")))) (eVar 1)) (eVar 0) (eCon (.str (sg "left"))))
  (sRet (eVar 5))))))
def F__law_take : Fn := fnOf 6 B__law_take
theorem dv__law_take  (T : Txt w K mg) {f : Addr} (cdv : Value) (A : Around) (outer : List PySem.Env) (s : Shared) (H : Hp) (E : XK) (hr : Room 0 (A.deeper (PyProof.Rows.envOfC "_law_take" (defScope s__law_take) s.heap.objs.size f cdv))) :
    SSs (cxOf (CXm m P w) P w K mg base N__law_take "_law_take" (defScope s__law_take) f cdv A outer s H E) c (fun cls d _ H => E cls d H) (defBody s__law_take) B__law_take :=
  have hu65 : (A.deeper (PyProof.Rows.envOfC "_law_take" (defScope s__law_take) s.heap.objs.size f cdv)).units + 65 < cLine := by have := hr.un; omega
  have hu9 : (A.deeper (PyProof.Rows.envOfC "_law_take" (defScope s__law_take) s.heap.objs.size f cdv)).units + 9 < cLine := by omega
  have nd := sc__law_take.nd
  (sss_cons (ss_set nd (i := 2) rfl (by first | exact Or.inl rfl | exact Or.inr rfl) (se_ix (ixG.or (ixG_D hu9)) (se_var (i := 0) rfl (by first | exact Or.inl rfl | exact Or.inr (Or.inl rfl) | exact Or.inr (Or.inr rfl)) rfl rfl) (se_str (sg_cps "at") (by decide +kernel)) (fun _ _ => rfl)) rfl (by first | exact Or.inl rfl | exact Or.inr rfl))
  (sss_cons (ss_if (st_cmp (opG_eq hu65) (se_ix (ixG.or (ixG_D hu9)) (se_var (i := 0) rfl (by first | exact Or.inl rfl | exact Or.inr (Or.inl rfl) | exact Or.inr (Or.inr rfl)) rfl rfl) (se_str (sg_cps "left") (by decide +kernel)) (fun _ _ => rfl)) se_int rfl)
  (sss_cons (ss_put (put_lst.or (put_dct hu9)) (se_op opG_add (se_var (i := 2) rfl (by first | exact Or.inl rfl | exact Or.inr (Or.inl rfl) | exact Or.inr (Or.inr rfl)) rfl rfl) se_int) (se_var (i := 0) rfl (by first | exact Or.inl rfl | exact Or.inr (Or.inl rfl) | exact Or.inr (Or.inr rfl)) rfl rfl) (se_str (sg_cps "at") (by decide +kernel)) (fun _ => rfl) rfl rfl rfl)
  (sss_cons (ss_set nd (i := 3) rfl (by first | exact Or.inl rfl | exact Or.inr rfl) se_int rfl (by first | exact Or.inl rfl | exact Or.inr rfl))
  (sss_cons (ss_if (st_cmp opG_gt (se_fnB fn_len rfl T.b_len (by decide +kernel) (sa_cons (se_ix (ixG.or (ixG_D hu9)) (se_var (i := 0) rfl (by first | exact Or.inl rfl | exact Or.inr (Or.inl rfl) | exact Or.inr (Or.inr rfl)) rfl rfl) (se_str (sg_cps "script") (by decide +kernel)) (fun _ _ => rfl)) sa_nil rfl) (by decide) rfl rfl rfl) se_int rfl)
  (sss_one (ss_set nd (i := 3) rfl (by first | exact Or.inl rfl | exact Or.inr rfl) (se_ix (ixG.or (ixG_D hu9)) (se_ix (ixG.or (ixG_D hu9)) (se_var (i := 0) rfl (by first | exact Or.inl rfl | exact Or.inr (Or.inl rfl) | exact Or.inr (Or.inr rfl)) rfl rfl) (se_str (sg_cps "script") (by decide +kernel)) (fun _ _ => rfl)) (se_op opG_mod (se_var (i := 2) rfl (by first | exact Or.inl rfl | exact Or.inr (Or.inl rfl) | exact Or.inr (Or.inr rfl)) rfl rfl) (se_fnB fn_len rfl T.b_len (by decide +kernel) (sa_cons (se_ix (ixG.or (ixG_D hu9)) (se_var (i := 0) rfl (by first | exact Or.inl rfl | exact Or.inr (Or.inl rfl) | exact Or.inr (Or.inr rfl)) rfl rfl) (se_str (sg_cps "script") (by decide +kernel)) (fun _ _ => rfl)) sa_nil rfl) (by decide) rfl rfl rfl)) (fun _ _ => rfl)) rfl (by first | exact Or.inl rfl | exact Or.inr rfl)))
  sss_nil)
  (sss_cons (ss_if (SW.st (sw_or (st_cmp opG_ge (se_var (i := 2) rfl (by first | exact Or.inl rfl | exact Or.inr (Or.inl rfl) | exact Or.inr (Or.inr rfl)) rfl rfl) (se_fnB fn_len rfl T.b_len (by decide +kernel) (sa_cons (se_ix (ixG.or (ixG_D hu9)) (se_var (i := 0) rfl (by first | exact Or.inl rfl | exact Or.inr (Or.inl rfl) | exact Or.inr (Or.inr rfl)) rfl rfl) (se_str (sg_cps "script") (by decide +kernel)) (fun _ _ => rfl)) sa_nil rfl) (by decide) rfl rfl rfl) rfl) (sw_or1 (st_cmp (opG_lt.or (opG_ltD hu65)) (se_fnB fn_abs rfl T.b_abs (by decide +kernel) (sa_cons (se_var (i := 3) rfl (by first | exact Or.inl rfl | exact Or.inr (Or.inl rfl) | exact Or.inr (Or.inr rfl)) rfl rfl) sa_nil rfl) (by decide) rfl rfl rfl) (se_op opG_pow se_int se_int) rfl))))
  (sss_cons (ss_set nd (i := 3) rfl (by first | exact Or.inl rfl | exact Or.inr rfl) (se_op opG_add (se_op opG_add (se_op opG_mod (se_var (i := 3) rfl (by first | exact Or.inl rfl | exact Or.inr (Or.inl rfl) | exact Or.inr (Or.inr rfl)) rfl rfl) se_int) (se_op opG_mul se_int (se_var (i := 2) rfl (by first | exact Or.inl rfl | exact Or.inr (Or.inl rfl) | exact Or.inr (Or.inr rfl)) rfl rfl))) se_int) rfl (by first | exact Or.inl rfl | exact Or.inr rfl))
  (sss_cons (ss_set nd (i := 4) rfl (by first | exact Or.inl rfl | exact Or.inr rfl) (se_op opG_mod (se_op opG_mul (se_var (i := 3) rfl (by first | exact Or.inl rfl | exact Or.inr (Or.inl rfl) | exact Or.inr (Or.inr rfl)) rfl rfl) se_int) se_int) rfl (by first | exact Or.inl rfl | exact Or.inr rfl))
  (sss_cons (ss_set nd (i := 4) rfl (by first | exact Or.inl rfl | exact Or.inr rfl) (se_op opG_mod (se_op opG_add (se_op opG_add (se_op opG_mul (se_var (i := 4) rfl (by first | exact Or.inl rfl | exact Or.inr (Or.inl rfl) | exact Or.inr (Or.inr rfl)) rfl rfl) (se_var (i := 4) rfl (by first | exact Or.inl rfl | exact Or.inr (Or.inl rfl) | exact Or.inr (Or.inr rfl)) rfl rfl)) (se_op opG_mul se_int (se_var (i := 4) rfl (by first | exact Or.inl rfl | exact Or.inr (Or.inl rfl) | exact Or.inr (Or.inr rfl)) rfl rfl))) (se_op opG_mul se_int (se_var (i := 2) rfl (by first | exact Or.inl rfl | exact Or.inr (Or.inl rfl) | exact Or.inr (Or.inr rfl)) rfl rfl))) se_int) rfl (by first | exact Or.inl rfl | exact Or.inr rfl))
  (sss_one (ss_ret (se_op opG_mod (se_op opG_div (se_op opG_mod (se_op opG_mul (se_var (i := 4) rfl (by first | exact Or.inl rfl | exact Or.inr (Or.inl rfl) | exact Or.inr (Or.inr rfl)) rfl rfl) se_int) se_int) se_int) (se_var (i := 1) rfl (by first | exact Or.inl rfl | exact Or.inr (Or.inl rfl) | exact Or.inr (Or.inr rfl)) rfl rfl)))))))
  sss_nil)
  (sss_one (ss_put (put_lst.or (put_dct hu9)) (se_fnB fn_abs rfl T.b_abs (by decide +kernel) (sa_cons (se_var (i := 3) rfl (by first | exact Or.inl rfl | exact Or.inr (Or.inl rfl) | exact Or.inr (Or.inr rfl)) rfl rfl) sa_nil rfl) (by decide) rfl rfl rfl) (se_var (i := 0) rfl (by first | exact Or.inl rfl | exact Or.inr (Or.inl rfl) | exact Or.inr (Or.inr rfl)) rfl rfl) (se_str (sg_cps "left") (by decide +kernel)) (fun _ => rfl) rfl rfl rfl))))))
  sss_nil)
  (sss_cons (ss_set nd (i := 5) rfl (by first | exact Or.inl rfl | exact Or.inr rfl) (se_op opG_mod (se_ix (ixG.or (ixG_D hu9)) (se_var (i := 0) rfl (by first | exact Or.inl rfl | exact Or.inr (Or.inl rfl) | exact Or.inr (Or.inr rfl)) rfl rfl) (se_str (sg_cps "left") (by decide +kernel)) (fun _ _ => rfl)) (se_var (i := 1) rfl (by first | exact Or.inl rfl | exact Or.inr (Or.inl rfl) | exact Or.inr (Or.inr rfl)) rfl rfl)) rfl (by first | exact Or.inl rfl | exact Or.inr rfl))
  (sss_cons (ss_put (put_lst.or (put_dct hu9)) (se_op opG_div (se_ix (ixG.or (ixG_D hu9)) (se_var (i := 0) rfl (by first | exact Or.inl rfl | exact Or.inr (Or.inl rfl) | exact Or.inr (Or.inr rfl)) rfl rfl) (se_str (sg_cps "left") (by decide +kernel)) (fun _ _ => rfl)) (se_var (i := 1) rfl (by first | exact Or.inl rfl | exact Or.inr (Or.inl rfl) | exact Or.inr (Or.inr rfl)) rfl rfl)) (se_var (i := 0) rfl (by first | exact Or.inl rfl | exact Or.inr (Or.inl rfl) | exact Or.inr (Or.inr rfl)) rfl rfl) (se_str (sg_cps "left") (by decide +kernel)) (fun _ => rfl) rfl rfl rfl)
  (sss_one (ss_ret (se_var (i := 5) rfl (by first | exact Or.inl rfl | exact Or.inr (Or.inl rfl) | exact Or.inr (Or.inr rfl)) rfl rfl)))))))
theorem ok__law_take  (T : Txt w K mg) {f : Addr} {fd : FuncData} (D : Fun K "_law_take" "_law_take" s__law_take f fd) (hm : mg "_law_take" = some (.ref f)) (hb : Binds K fd ["_law_pen_here", "_law_most"] []) : Cal m P w K mg base c "_law_take" f fd 1 ["_law_pen_here", "_law_most"] F__law_take 2 :=
  ⟨fn_okD D sc__law_take rfl rfl fun cdv A outer s H E hr => dv__law_take  T cdv A outer s H E hr, fun s => okF_of (dv__law_take (m := m) (P := P) (w := w) (base := base) (c := c) (f := f)  T .none callerA [] s (fun _ => none) (fun _ _ _ => False) (room_caller (by decide))).ok, hm, D.kp, hb⟩
/-! ### _law_changed -/
abbrev s__law_changed : Stmt := top 28
abbrev N__law_changed : List Str := ["_law_pen_here", "_law_text", "_law_words", "_law_way", "_law_sign", "_law_at", "_law_end_here"]
theorem sc__law_changed : FnScope N__law_changed ["_law_pen_here", "_law_text"] (defScope s__law_changed) := ⟨rfl, rfl, rfl, by decide +kernel, rfl, by decide +kernel, by decide +kernel⟩
def B__law_changed : SemS :=
  (sSeq (sSet 2 (eMet "str" gSplit (eVar 1) (lCons (eCon (.str (sg " "))) lNil)))
  (sSeq (sSet 3 (eCall F__law_take (lCons (eVar 0) (lCons (eCon (.int 9)) lNil))))
  (sSeq (sSet 4 (eOp (orG gIx gIxD) (eCon (.str (sg " 0-'A a9\n1z^_"))) (eCall F__law_take (lCons (eVar 0) (lCons (eCon (.int 13)) lNil)))))
  (sSeq (sSet 5 (eCall F__law_take (lCons (eVar 0) (lCons (eOp gAdd (eFn (g1 gLen) (lCons (eVar 1) lNil)) (eCon (.int 1))) lNil))))
  (sSeq (sIf (tBl (eOp (orG gLt gLtD) (eVar 3) (eCon (.int 2))))
  (sRet (eOp gAdd (eOp gAdd (eSl (eVar 1) none (some (eVar 5))) (eVar 4)) (eSl (eVar 1) (some (eVar 5)) none)))
  sNil)
  (sSeq (sIf (tBl (eOp gEq (eVar 3) (eCon (.int 2))))
  (sRet (eOp gAdd (eOp gAdd (eSl (eVar 1) none (some (eVar 5))) (eVar 4)) (eSl (eVar 1) (some (eOp gAdd (eVar 5) (eCon (.int 1)))) none)))
  sNil)
  (sSeq (sIf (tBl (eOp gEq (eVar 3) (eCon (.int 3))))
  (sRet (eOp gAdd (eSl (eVar 1) none (some (eVar 5))) (eSl (eVar 1) (some (eOp gAdd (eVar 5) (eCon (.int 1)))) none)))
  sNil)
  (sSeq (sIf (tBl (eOp gEq (eVar 3) (eCon (.int 4))))
  (sRet (eMet "str" gJoin (eCon (.str (sg " "))) (lCons (eSl (eVar 2) none (some (eCall F__law_take (lCons (eVar 0) (lCons (eCon (.int 3)) lNil))))) lNil)))
  sNil)
  (sSeq (sIf (tBl (eOp gEq (eVar 3) (eCon (.int 5))))
  (sRet (eOp gAdd (eVar 1) (eOp (orG gIx gIxD) (eLst (lCons (eCon (.str (sg " "))) (lCons (eCon (.str (sg " a"))) (lCons (eCon (.str (sg "\n"))) (lCons (eCon (.str (sg "  "))) lNil))))) (eCall F__law_take (lCons (eVar 0) (lCons (eCon (.int 4)) lNil))))))
  sNil)
  (sSeq (sIf (tBl (eOp gEq (eVar 3) (eCon (.int 6))))
  (sRet (eMet "str" gJoin (eCon (.str (sg " "))) (lCons (eUn gRev (eVar 2)) lNil)))
  sNil)
  (sSeq (sIf (tBl (eOp gEq (eVar 3) (eCon (.int 7))))
  (sSeq (sSet 6 (eOp (orG gIx gIxD) (eLst (lCons (eCon (.str (sg ""))) (lCons (eCon (.str (sg "-0"))) (lCons (eCon (.str (sg "00"))) (lCons (eCon (.str (sg "-"))) (lCons (eCon (.str (sg "A"))) (lCons (eCon (.str (sg "'A"))) (lCons (eCon (.str (sg "abcdefghi"))) (lCons (eCon (.str (sg "'abcdefghi"))) (lCons (eOp gAdd (eCon (.str (sg "1"))) (eOp gMulR (eCon (.str (sg "0"))) (eCon (.int 30)))) (lCons (eCon (.str (sg "+1"))) lNil))))))))))) (eCall F__law_take (lCons (eVar 0) (lCons (eCon (.int 10)) lNil)))))
  (sRet (eOp gAdd (eOp gAdd (eOp gAdd (eOp gAdd (eOp (orG gIx gIxD) (eVar 2) (eCon (.int 0))) (eCon (.str (sg " ")))) (eOp (orG gIx gIxD) (eVar 2) (eCon (.int 1)))) (eCon (.str (sg " ")))) (eVar 6))))
  sNil)
  (sSeq (sSet 5 (eCall F__law_take (lCons (eVar 0) (lCons (eCon (.int 2)) lNil))))
  (sSeq (sPut (orP gSetL gSetD) (eOp (orG gIx gIxD) (eLst (lCons (eCon (.str (sg ""))) (lCons (eCon (.str (sg "abcdefghi"))) (lCons (eCon (.str (sg "A"))) (lCons (eCon (.str (sg "5"))) (lCons (eCon (.str (sg "'a"))) (lCons (eCon (.str (sg "^a"))) lNil))))))) (eCall F__law_take (lCons (eVar 0) (lCons (eCon (.int 6)) lNil)))) (eVar 2) (eVar 5))
  (sRet (eMet "str" gJoin (eCon (.str (sg " "))) (lCons (eVar 2) lNil))))))))))))))))
def F__law_changed : Fn := fnOf 7 B__law_changed
theorem dv__law_changed {a__law_take : Addr} {d__law_take : FuncData} (G__law_take : Cal m P w K mg base c "_law_take" a__law_take d__law_take 1 ["_law_pen_here", "_law_most"] F__law_take 2) (T : Txt w K mg) {f : Addr} (cdv : Value) (A : Around) (outer : List PySem.Env) (s : Shared) (H : Hp) (E : XK) (hr : Room 1 (A.deeper (PyProof.Rows.envOfC "_law_changed" (defScope s__law_changed) s.heap.objs.size f cdv))) :
    SSs (cxOf (CXm m P w) P w K mg base N__law_changed "_law_changed" (defScope s__law_changed) f cdv A outer s H E) c (fun cls d _ H => E cls d H) (defBody s__law_changed) B__law_changed :=
  have hu65 : (A.deeper (PyProof.Rows.envOfC "_law_changed" (defScope s__law_changed) s.heap.objs.size f cdv)).units + 65 < cLine := by have := hr.un; omega
  have hu9 : (A.deeper (PyProof.Rows.envOfC "_law_changed" (defScope s__law_changed) s.heap.objs.size f cdv)).units + 9 < cLine := by omega
  have nd := sc__law_changed.nd
  (sss_cons (ss_set nd (i := 2) rfl (by first | exact Or.inl rfl | exact Or.inr rfl) (se_met met_split PySem.F.plainAttrs_str PySem.F.slot_str_split PySem.F.type_str_split (se_var (i := 1) rfl (by first | exact Or.inl rfl | exact Or.inr (Or.inl rfl) | exact Or.inr (Or.inr rfl)) rfl rfl) (sa_cons (se_str (sg_cps " ") (by decide +kernel)) sa_nil rfl) ⟨rfl, rfl, rfl⟩ rfl rfl) rfl (by first | exact Or.inl rfl | exact Or.inr rfl))
  (sss_cons (ss_set nd (i := 3) rfl (by first | exact Or.inl rfl | exact Or.inr rfl) (se_call G__law_take.ok (G__law_take.okx s) (hr.mono (j := 1) (by decide)) rfl G__law_take.mg G__law_take.kp G__law_take.bd takesD (sa_cons (se_var (i := 0) rfl (by first | exact Or.inl rfl | exact Or.inr (Or.inl rfl) | exact Or.inr (Or.inr rfl)) rfl rfl) (sa_cons se_int sa_nil rfl) rfl) rfl rfl rfl rfl) rfl (by first | exact Or.inl rfl | exact Or.inr rfl))
  (sss_cons (ss_set nd (i := 4) rfl (by first | exact Or.inl rfl | exact Or.inr rfl) (se_ix (ixG.or (ixG_D hu9)) (se_str (sg_cps " 0-'A a9\n1z^_") (by decide +kernel)) (se_call G__law_take.ok (G__law_take.okx s) (hr.mono (j := 1) (by decide)) rfl G__law_take.mg G__law_take.kp G__law_take.bd takesD (sa_cons (se_var (i := 0) rfl (by first | exact Or.inl rfl | exact Or.inr (Or.inl rfl) | exact Or.inr (Or.inr rfl)) rfl rfl) (sa_cons se_int sa_nil rfl) rfl) rfl rfl rfl rfl) (fun _ _ => rfl)) rfl (by first | exact Or.inl rfl | exact Or.inr rfl))
  (sss_cons (ss_set nd (i := 5) rfl (by first | exact Or.inl rfl | exact Or.inr rfl) (se_call G__law_take.ok (G__law_take.okx s) (hr.mono (j := 1) (by decide)) rfl G__law_take.mg G__law_take.kp G__law_take.bd takesD (sa_cons (se_var (i := 0) rfl (by first | exact Or.inl rfl | exact Or.inr (Or.inl rfl) | exact Or.inr (Or.inr rfl)) rfl rfl) (sa_cons (se_op opG_add (se_fnB fn_len rfl T.b_len (by decide +kernel) (sa_cons (se_var (i := 1) rfl (by first | exact Or.inl rfl | exact Or.inr (Or.inl rfl) | exact Or.inr (Or.inr rfl)) rfl rfl) sa_nil rfl) (by decide) rfl rfl rfl) se_int) sa_nil rfl) rfl) rfl rfl rfl rfl) rfl (by first | exact Or.inl rfl | exact Or.inr rfl))
  (sss_cons (ss_if (st_cmp (opG_lt.or (opG_ltD hu65)) (se_var (i := 3) rfl (by first | exact Or.inl rfl | exact Or.inr (Or.inl rfl) | exact Or.inr (Or.inr rfl)) rfl rfl) se_int rfl)
  (sss_one (ss_ret (se_op opG_add (se_op opG_add (se_slice (se_var (i := 1) rfl (by first | exact Or.inl rfl | exact Or.inr (Or.inl rfl) | exact Or.inr (Or.inr rfl)) rfl rfl) so_none (so_some (se_var (i := 5) rfl (by first | exact Or.inl rfl | exact Or.inr (Or.inl rfl) | exact Or.inr (Or.inr rfl)) rfl rfl))) (se_var (i := 4) rfl (by first | exact Or.inl rfl | exact Or.inr (Or.inl rfl) | exact Or.inr (Or.inr rfl)) rfl rfl)) (se_slice (se_var (i := 1) rfl (by first | exact Or.inl rfl | exact Or.inr (Or.inl rfl) | exact Or.inr (Or.inr rfl)) rfl rfl) (so_some (se_var (i := 5) rfl (by first | exact Or.inl rfl | exact Or.inr (Or.inl rfl) | exact Or.inr (Or.inr rfl)) rfl rfl)) so_none))))
  sss_nil)
  (sss_cons (ss_if (st_cmp (opG_eq hu65) (se_var (i := 3) rfl (by first | exact Or.inl rfl | exact Or.inr (Or.inl rfl) | exact Or.inr (Or.inr rfl)) rfl rfl) se_int rfl)
  (sss_one (ss_ret (se_op opG_add (se_op opG_add (se_slice (se_var (i := 1) rfl (by first | exact Or.inl rfl | exact Or.inr (Or.inl rfl) | exact Or.inr (Or.inr rfl)) rfl rfl) so_none (so_some (se_var (i := 5) rfl (by first | exact Or.inl rfl | exact Or.inr (Or.inl rfl) | exact Or.inr (Or.inr rfl)) rfl rfl))) (se_var (i := 4) rfl (by first | exact Or.inl rfl | exact Or.inr (Or.inl rfl) | exact Or.inr (Or.inr rfl)) rfl rfl)) (se_slice (se_var (i := 1) rfl (by first | exact Or.inl rfl | exact Or.inr (Or.inl rfl) | exact Or.inr (Or.inr rfl)) rfl rfl) (so_some (se_op opG_add (se_var (i := 5) rfl (by first | exact Or.inl rfl | exact Or.inr (Or.inl rfl) | exact Or.inr (Or.inr rfl)) rfl rfl) se_int)) so_none))))
  sss_nil)
  (sss_cons (ss_if (st_cmp (opG_eq hu65) (se_var (i := 3) rfl (by first | exact Or.inl rfl | exact Or.inr (Or.inl rfl) | exact Or.inr (Or.inr rfl)) rfl rfl) se_int rfl)
  (sss_one (ss_ret (se_op opG_add (se_slice (se_var (i := 1) rfl (by first | exact Or.inl rfl | exact Or.inr (Or.inl rfl) | exact Or.inr (Or.inr rfl)) rfl rfl) so_none (so_some (se_var (i := 5) rfl (by first | exact Or.inl rfl | exact Or.inr (Or.inl rfl) | exact Or.inr (Or.inr rfl)) rfl rfl))) (se_slice (se_var (i := 1) rfl (by first | exact Or.inl rfl | exact Or.inr (Or.inl rfl) | exact Or.inr (Or.inr rfl)) rfl rfl) (so_some (se_op opG_add (se_var (i := 5) rfl (by first | exact Or.inl rfl | exact Or.inr (Or.inl rfl) | exact Or.inr (Or.inr rfl)) rfl rfl) se_int)) so_none))))
  sss_nil)
  (sss_cons (ss_if (st_cmp (opG_eq hu65) (se_var (i := 3) rfl (by first | exact Or.inl rfl | exact Or.inr (Or.inl rfl) | exact Or.inr (Or.inr rfl)) rfl rfl) se_int rfl)
  (sss_one (ss_ret (se_met met_join PySem.F.plainAttrs_str PySem.F.slot_str_join PySem.F.type_str_join (se_str (sg_cps " ") (by decide +kernel)) (sa_cons (se_slice (se_var (i := 2) rfl (by first | exact Or.inl rfl | exact Or.inr (Or.inl rfl) | exact Or.inr (Or.inr rfl)) rfl rfl) so_none (so_some (se_call G__law_take.ok (G__law_take.okx s) (hr.mono (j := 1) (by decide)) rfl G__law_take.mg G__law_take.kp G__law_take.bd takesD (sa_cons (se_var (i := 0) rfl (by first | exact Or.inl rfl | exact Or.inr (Or.inl rfl) | exact Or.inr (Or.inr rfl)) rfl rfl) (sa_cons se_int sa_nil rfl) rfl) rfl rfl rfl rfl))) sa_nil rfl) ⟨rfl, rfl, rfl⟩ rfl rfl)))
  sss_nil)
  (sss_cons (ss_if (st_cmp (opG_eq hu65) (se_var (i := 3) rfl (by first | exact Or.inl rfl | exact Or.inr (Or.inl rfl) | exact Or.inr (Or.inr rfl)) rfl rfl) se_int rfl)
  (sss_one (ss_ret (se_op opG_add (se_var (i := 1) rfl (by first | exact Or.inl rfl | exact Or.inr (Or.inl rfl) | exact Or.inr (Or.inr rfl)) rfl rfl) (se_ix (ixG.or (ixG_D hu9)) (se_lst (sa_cons (se_str (sg_cps " ") (by decide +kernel)) (sa_cons (se_str (sg_cps " a") (by decide +kernel)) (sa_cons (se_str (sg_cps "\n") (by decide +kernel)) (sa_cons (se_str (sg_cps "  ") (by decide +kernel)) sa_nil rfl) rfl) rfl) rfl) (by decide)) (se_call G__law_take.ok (G__law_take.okx s) (hr.mono (j := 1) (by decide)) rfl G__law_take.mg G__law_take.kp G__law_take.bd takesD (sa_cons (se_var (i := 0) rfl (by first | exact Or.inl rfl | exact Or.inr (Or.inl rfl) | exact Or.inr (Or.inr rfl)) rfl rfl) (sa_cons se_int sa_nil rfl) rfl) rfl rfl rfl rfl) (fun _ _ => rfl)))))
  sss_nil)
  (sss_cons (ss_if (st_cmp (opG_eq hu65) (se_var (i := 3) rfl (by first | exact Or.inl rfl | exact Or.inr (Or.inl rfl) | exact Or.inr (Or.inr rfl)) rfl rfl) se_int rfl)
  (sss_one (ss_ret (se_met met_join PySem.F.plainAttrs_str PySem.F.slot_str_join PySem.F.type_str_join (se_str (sg_cps " ") (by decide +kernel)) (sa_cons (se_revL (se_var (i := 2) rfl (by first | exact Or.inl rfl | exact Or.inr (Or.inl rfl) | exact Or.inr (Or.inr rfl)) rfl rfl)) sa_nil rfl) ⟨rfl, rfl, rfl⟩ rfl rfl)))
  sss_nil)
  (sss_cons (ss_if (st_cmp (opG_eq hu65) (se_var (i := 3) rfl (by first | exact Or.inl rfl | exact Or.inr (Or.inl rfl) | exact Or.inr (Or.inr rfl)) rfl rfl) se_int rfl)
  (sss_cons (ss_set nd (i := 6) rfl (by first | exact Or.inl rfl | exact Or.inr rfl) (se_ix (ixG.or (ixG_D hu9)) (se_lst (sa_cons (se_str (sg_cps "") (by decide +kernel)) (sa_cons (se_str (sg_cps "-0") (by decide +kernel)) (sa_cons (se_str (sg_cps "00") (by decide +kernel)) (sa_cons (se_str (sg_cps "-") (by decide +kernel)) (sa_cons (se_str (sg_cps "A") (by decide +kernel)) (sa_cons (se_str (sg_cps "'A") (by decide +kernel)) (sa_cons (se_str (sg_cps "abcdefghi") (by decide +kernel)) (sa_cons (se_str (sg_cps "'abcdefghi") (by decide +kernel)) (sa_cons (se_op opG_add (se_str (sg_cps "1") (by decide +kernel)) (se_op opG_mulR (se_str (sg_cps "0") (by decide +kernel)) se_int)) (sa_cons (se_str (sg_cps "+1") (by decide +kernel)) sa_nil rfl) rfl) rfl) rfl) rfl) rfl) rfl) rfl) rfl) rfl) (by decide)) (se_call G__law_take.ok (G__law_take.okx s) (hr.mono (j := 1) (by decide)) rfl G__law_take.mg G__law_take.kp G__law_take.bd takesD (sa_cons (se_var (i := 0) rfl (by first | exact Or.inl rfl | exact Or.inr (Or.inl rfl) | exact Or.inr (Or.inr rfl)) rfl rfl) (sa_cons se_int sa_nil rfl) rfl) rfl rfl rfl rfl) (fun _ _ => rfl)) rfl (by first | exact Or.inl rfl | exact Or.inr rfl))
  (sss_one (ss_ret (se_op opG_add (se_op opG_add (se_op opG_add (se_op opG_add (se_ix (ixG.or (ixG_D hu9)) (se_var (i := 2) rfl (by first | exact Or.inl rfl | exact Or.inr (Or.inl rfl) | exact Or.inr (Or.inr rfl)) rfl rfl) se_int (fun _ _ => rfl)) (se_str (sg_cps " ") (by decide +kernel))) (se_ix (ixG.or (ixG_D hu9)) (se_var (i := 2) rfl (by first | exact Or.inl rfl | exact Or.inr (Or.inl rfl) | exact Or.inr (Or.inr rfl)) rfl rfl) se_int (fun _ _ => rfl))) (se_str (sg_cps " ") (by decide +kernel))) (se_var (i := 6) rfl (by first | exact Or.inl rfl | exact Or.inr (Or.inl rfl) | exact Or.inr (Or.inr rfl)) rfl rfl)))))
  sss_nil)
  (sss_cons (ss_set nd (i := 5) rfl (by first | exact Or.inl rfl | exact Or.inr rfl) (se_call G__law_take.ok (G__law_take.okx s) (hr.mono (j := 1) (by decide)) rfl G__law_take.mg G__law_take.kp G__law_take.bd takesD (sa_cons (se_var (i := 0) rfl (by first | exact Or.inl rfl | exact Or.inr (Or.inl rfl) | exact Or.inr (Or.inr rfl)) rfl rfl) (sa_cons se_int sa_nil rfl) rfl) rfl rfl rfl rfl) rfl (by first | exact Or.inl rfl | exact Or.inr rfl))
  (sss_cons (ss_put (put_lst.or (put_dct hu9)) (se_ix (ixG.or (ixG_D hu9)) (se_lst (sa_cons (se_str (sg_cps "") (by decide +kernel)) (sa_cons (se_str (sg_cps "abcdefghi") (by decide +kernel)) (sa_cons (se_str (sg_cps "A") (by decide +kernel)) (sa_cons (se_str (sg_cps "5") (by decide +kernel)) (sa_cons (se_str (sg_cps "'a") (by decide +kernel)) (sa_cons (se_str (sg_cps "^a") (by decide +kernel)) sa_nil rfl) rfl) rfl) rfl) rfl) rfl) (by decide)) (se_call G__law_take.ok (G__law_take.okx s) (hr.mono (j := 1) (by decide)) rfl G__law_take.mg G__law_take.kp G__law_take.bd takesD (sa_cons (se_var (i := 0) rfl (by first | exact Or.inl rfl | exact Or.inr (Or.inl rfl) | exact Or.inr (Or.inr rfl)) rfl rfl) (sa_cons se_int sa_nil rfl) rfl) rfl rfl rfl rfl) (fun _ _ => rfl)) (se_var (i := 2) rfl (by first | exact Or.inl rfl | exact Or.inr (Or.inl rfl) | exact Or.inr (Or.inr rfl)) rfl rfl) (se_var (i := 5) rfl (by first | exact Or.inl rfl | exact Or.inr (Or.inl rfl) | exact Or.inr (Or.inr rfl)) rfl rfl) (fun _ => rfl) rfl rfl rfl)
  (sss_one (ss_ret (se_met met_join PySem.F.plainAttrs_str PySem.F.slot_str_join PySem.F.type_str_join (se_str (sg_cps " ") (by decide +kernel)) (sa_cons (se_var (i := 2) rfl (by first | exact Or.inl rfl | exact Or.inr (Or.inl rfl) | exact Or.inr (Or.inr rfl)) rfl rfl) sa_nil rfl) ⟨rfl, rfl, rfl⟩ rfl rfl))))))))))))))))
theorem ok__law_changed {a__law_take : Addr} {d__law_take : FuncData} (G__law_take : Cal m P w K mg base c "_law_take" a__law_take d__law_take 1 ["_law_pen_here", "_law_most"] F__law_take 2) (T : Txt w K mg) {f : Addr} {fd : FuncData} (D : Fun K "_law_changed" "_law_changed" s__law_changed f fd) (hm : mg "_law_changed" = some (.ref f)) (hb : Binds K fd ["_law_pen_here", "_law_text"] []) : Cal m P w K mg base c "_law_changed" f fd 2 ["_law_pen_here", "_law_text"] F__law_changed 2 :=
  ⟨fn_okD D sc__law_changed rfl rfl fun cdv A outer s H E hr => dv__law_changed G__law_take T cdv A outer s H E hr, fun s => okF_of (dv__law_changed (m := m) (P := P) (w := w) (base := base) (c := c) (f := f) G__law_take T .none callerA [] s (fun _ => none) (fun _ _ _ => False) (room_caller (by decide))).ok, hm, D.kp, hb⟩
/-! ### _law_word -/
abbrev s__law_word : Stmt := top 21
abbrev N__law_word : List Str := ["_law_pen_here", "_law_many", "_law_word_here"]
theorem sc__law_word : FnScope N__law_word ["_law_pen_here", "_law_many"] (defScope s__law_word) := ⟨rfl, rfl, rfl, by decide +kernel, rfl, by decide +kernel, by decide +kernel⟩
def B__law_word : SemS :=
  (sSeq (sSet 2 (eOp (orG gIx gIxD) (eLst (lCons (eCon (.str (sg ""))) (lCons (eCon (.str (sg ""))) (lCons (eCon (.str (sg ""))) (lCons (eOp (orG gIx gIxD) (eLst (lCons (eCon (.str (sg "any"))) (lCons (eCon (.str (sg "keeps"))) (lCons (eCon (.str (sg "least"))) (lCons (eCon (.str (sg "is"))) (lCons (eCon (.str (sg "all"))) (lCons (eCon (.str (sg "many"))) lNil))))))) (eCall F__law_take (lCons (eVar 0) (lCons (eCon (.int 6)) lNil)))) lNil))))) (eCall F__law_take (lCons (eVar 0) (lCons (eCon (.int 4)) lNil)))))
  (sSeq (sWhile 1000 (tBl (eOp (orG gLt gLtD) (eFn (g1 gLen) (lCons (eVar 2) lNil)) (eVar 1)))
  (sSet 2 (eOp gAdd (eVar 2) (eOp (orG gIx gIxD) (eCon (.str (sg "abcdefghijklmnopqrstuvwxyz"))) (eCall F__law_take (lCons (eVar 0) (lCons (eCon (.int 26)) lNil)))))))
  (sRet (eSl (eVar 2) none (some (eVar 1))))))
def F__law_word : Fn := fnOf 3 B__law_word
theorem dv__law_word {a__law_take : Addr} {d__law_take : FuncData} (G__law_take : Cal m P w K mg base c "_law_take" a__law_take d__law_take 1 ["_law_pen_here", "_law_most"] F__law_take 2) (T : Txt w K mg) {f : Addr} (cdv : Value) (A : Around) (outer : List PySem.Env) (s : Shared) (H : Hp) (E : XK) (hr : Room 1 (A.deeper (PyProof.Rows.envOfC "_law_word" (defScope s__law_word) s.heap.objs.size f cdv))) :
    SSs (cxOf (CXm m P w) P w K mg base N__law_word "_law_word" (defScope s__law_word) f cdv A outer s H E) c (fun cls d _ H => E cls d H) (defBody s__law_word) B__law_word :=
  have hu65 : (A.deeper (PyProof.Rows.envOfC "_law_word" (defScope s__law_word) s.heap.objs.size f cdv)).units + 65 < cLine := by have := hr.un; omega
  have hu9 : (A.deeper (PyProof.Rows.envOfC "_law_word" (defScope s__law_word) s.heap.objs.size f cdv)).units + 9 < cLine := by omega
  have nd := sc__law_word.nd
  (sss_cons (ss_set nd (i := 2) rfl (by first | exact Or.inl rfl | exact Or.inr rfl) (se_ix (ixG.or (ixG_D hu9)) (se_lst (sa_cons (se_str (sg_cps "") (by decide +kernel)) (sa_cons (se_str (sg_cps "") (by decide +kernel)) (sa_cons (se_str (sg_cps "") (by decide +kernel)) (sa_cons (se_ix (ixG.or (ixG_D hu9)) (se_lst (sa_cons (se_str (sg_cps "any") (by decide +kernel)) (sa_cons (se_str (sg_cps "keeps") (by decide +kernel)) (sa_cons (se_str (sg_cps "least") (by decide +kernel)) (sa_cons (se_str (sg_cps "is") (by decide +kernel)) (sa_cons (se_str (sg_cps "all") (by decide +kernel)) (sa_cons (se_str (sg_cps "many") (by decide +kernel)) sa_nil rfl) rfl) rfl) rfl) rfl) rfl) (by decide)) (se_call G__law_take.ok (G__law_take.okx s) (hr.mono (j := 1) (by decide)) rfl G__law_take.mg G__law_take.kp G__law_take.bd takesD (sa_cons (se_var (i := 0) rfl (by first | exact Or.inl rfl | exact Or.inr (Or.inl rfl) | exact Or.inr (Or.inr rfl)) rfl rfl) (sa_cons se_int sa_nil rfl) rfl) rfl rfl rfl rfl) (fun _ _ => rfl)) sa_nil rfl) rfl) rfl) rfl) (by decide)) (se_call G__law_take.ok (G__law_take.okx s) (hr.mono (j := 1) (by decide)) rfl G__law_take.mg G__law_take.kp G__law_take.bd takesD (sa_cons (se_var (i := 0) rfl (by first | exact Or.inl rfl | exact Or.inr (Or.inl rfl) | exact Or.inr (Or.inr rfl)) rfl rfl) (sa_cons se_int sa_nil rfl) rfl) rfl rfl rfl rfl) (fun _ _ => rfl)) rfl (by first | exact Or.inl rfl | exact Or.inr rfl))
  (sss_cons (ss_while 1000 passesD (st_cmp (opG_lt.or (opG_ltD hu65)) (se_fnB fn_len rfl T.b_len (by decide +kernel) (sa_cons (se_var (i := 2) rfl (by first | exact Or.inl rfl | exact Or.inr (Or.inl rfl) | exact Or.inr (Or.inr rfl)) rfl rfl) sa_nil rfl) (by decide) rfl rfl rfl) (se_var (i := 1) rfl (by first | exact Or.inl rfl | exact Or.inr (Or.inl rfl) | exact Or.inr (Or.inr rfl)) rfl rfl) rfl)
  (sss_one (ss_set nd (i := 2) rfl (by first | exact Or.inl rfl | exact Or.inr rfl) (se_op opG_add (se_var (i := 2) rfl (by first | exact Or.inl rfl | exact Or.inr (Or.inl rfl) | exact Or.inr (Or.inr rfl)) rfl rfl) (se_ix (ixG.or (ixG_D hu9)) (se_str (sg_cps "abcdefghijklmnopqrstuvwxyz") (by decide +kernel)) (se_call G__law_take.ok (G__law_take.okx s) (hr.mono (j := 1) (by decide)) rfl G__law_take.mg G__law_take.kp G__law_take.bd takesD (sa_cons (se_var (i := 0) rfl (by first | exact Or.inl rfl | exact Or.inr (Or.inl rfl) | exact Or.inr (Or.inr rfl)) rfl rfl) (sa_cons se_int sa_nil rfl) rfl) rfl rfl rfl rfl) (fun _ _ => rfl))) rfl (by first | exact Or.inl rfl | exact Or.inr rfl))))
  (sss_one (ss_ret (se_slice (se_var (i := 2) rfl (by first | exact Or.inl rfl | exact Or.inr (Or.inl rfl) | exact Or.inr (Or.inr rfl)) rfl rfl) so_none (so_some (se_var (i := 1) rfl (by first | exact Or.inl rfl | exact Or.inr (Or.inl rfl) | exact Or.inr (Or.inr rfl)) rfl rfl)))))))
theorem ok__law_word {a__law_take : Addr} {d__law_take : FuncData} (G__law_take : Cal m P w K mg base c "_law_take" a__law_take d__law_take 1 ["_law_pen_here", "_law_most"] F__law_take 2) (T : Txt w K mg) {f : Addr} {fd : FuncData} (D : Fun K "_law_word" "_law_word" s__law_word f fd) (hm : mg "_law_word" = some (.ref f)) (hb : Binds K fd ["_law_pen_here", "_law_many"] []) : Cal m P w K mg base c "_law_word" f fd 2 ["_law_pen_here", "_law_many"] F__law_word 2 :=
  ⟨fn_okD D sc__law_word rfl rfl fun cdv A outer s H E hr => dv__law_word G__law_take T cdv A outer s H E hr, fun s => okF_of (dv__law_word (m := m) (P := P) (w := w) (base := base) (c := c) (f := f) G__law_take T .none callerA [] s (fun _ => none) (fun _ _ _ => False) (room_caller (by decide))).ok, hm, D.kp, hb⟩
/-! ### _law_node -/
abbrev s__law_node : Stmt := top 22
abbrev N__law_node : List Str := ["_law_pen_here", "_law_way"]
theorem sc__law_node : FnScope N__law_node ["_law_pen_here"] (defScope s__law_node) := ⟨rfl, rfl, rfl, by decide +kernel, rfl, by decide +kernel, by decide +kernel⟩
def B__law_node : SemS :=
  (sSeq (sSet 1 (eCall F__law_take (lCons (eVar 0) (lCons (eCon (.int 4)) lNil))))
  (sSeq (sIf (tBl (eOp gEq (eVar 1) (eCon (.int 0))))
  (sRet (eOp gSub (eCall F__law_take (lCons (eVar 0) (lCons (eCon (.int 21)) lNil))) (eCon (.int 10))))
  sNil)
  (sSeq (sIf (tBl (eOp gEq (eVar 1) (eCon (.int 1))))
  (sRet (eOp gMul (eOp (orG gIx gIxD) (eLst (lCons (eCon (.int 1)) (lCons (eUn gNeg (eCon (.int 1))) lNil))) (eCall F__law_take (lCons (eVar 0) (lCons (eCon (.int 2)) lNil)))) (eOp gSub (eOp gSub (eOp gPow (eCon (.int 10)) (eCon (.int 30))) (eCon (.int 1))) (eCall F__law_take (lCons (eVar 0) (lCons (eOp gPow (eCon (.int 10)) (eCon (.int 9))) lNil))))))
  sNil)
  (sSeq (sIf (tBl (eOp gEq (eVar 1) (eCon (.int 2))))
  (sRet (eTup (lCons (eCall F__law_word (lCons (eVar 0) (lCons (eCall F__law_take (lCons (eVar 0) (lCons (eCon (.int 9)) lNil))) lNil))) lNil)))
  sNil)
  (sRet (eCall F__law_word (lCons (eVar 0) (lCons (eOp gAdd (eCon (.int 1)) (eCall F__law_take (lCons (eVar 0) (lCons (eCon (.int 8)) lNil)))) lNil))))))))
def F__law_node : Fn := fnOf 2 B__law_node
theorem dv__law_node {a__law_take : Addr} {d__law_take : FuncData} (G__law_take : Cal m P w K mg base c "_law_take" a__law_take d__law_take 1 ["_law_pen_here", "_law_most"] F__law_take 2) {a__law_word : Addr} {d__law_word : FuncData} (G__law_word : Cal m P w K mg base c "_law_word" a__law_word d__law_word 2 ["_law_pen_here", "_law_many"] F__law_word 2) (T : Txt w K mg) {f : Addr} (cdv : Value) (A : Around) (outer : List PySem.Env) (s : Shared) (H : Hp) (E : XK) (hr : Room 2 (A.deeper (PyProof.Rows.envOfC "_law_node" (defScope s__law_node) s.heap.objs.size f cdv))) :
    SSs (cxOf (CXm m P w) P w K mg base N__law_node "_law_node" (defScope s__law_node) f cdv A outer s H E) c (fun cls d _ H => E cls d H) (defBody s__law_node) B__law_node :=
  have hu65 : (A.deeper (PyProof.Rows.envOfC "_law_node" (defScope s__law_node) s.heap.objs.size f cdv)).units + 65 < cLine := by have := hr.un; omega
  have hu9 : (A.deeper (PyProof.Rows.envOfC "_law_node" (defScope s__law_node) s.heap.objs.size f cdv)).units + 9 < cLine := by omega
  have nd := sc__law_node.nd
  (sss_cons (ss_set nd (i := 1) rfl (by first | exact Or.inl rfl | exact Or.inr rfl) (se_call G__law_take.ok (G__law_take.okx s) (hr.mono (j := 1) (by decide)) rfl G__law_take.mg G__law_take.kp G__law_take.bd takesD (sa_cons (se_var (i := 0) rfl (by first | exact Or.inl rfl | exact Or.inr (Or.inl rfl) | exact Or.inr (Or.inr rfl)) rfl rfl) (sa_cons se_int sa_nil rfl) rfl) rfl rfl rfl rfl) rfl (by first | exact Or.inl rfl | exact Or.inr rfl))
  (sss_cons (ss_if (st_cmp (opG_eq hu65) (se_var (i := 1) rfl (by first | exact Or.inl rfl | exact Or.inr (Or.inl rfl) | exact Or.inr (Or.inr rfl)) rfl rfl) se_int rfl)
  (sss_one (ss_ret (se_op opG_sub (se_call G__law_take.ok (G__law_take.okx s) (hr.mono (j := 1) (by decide)) rfl G__law_take.mg G__law_take.kp G__law_take.bd takesD (sa_cons (se_var (i := 0) rfl (by first | exact Or.inl rfl | exact Or.inr (Or.inl rfl) | exact Or.inr (Or.inr rfl)) rfl rfl) (sa_cons se_int sa_nil rfl) rfl) rfl rfl rfl rfl) se_int)))
  sss_nil)
  (sss_cons (ss_if (st_cmp (opG_eq hu65) (se_var (i := 1) rfl (by first | exact Or.inl rfl | exact Or.inr (Or.inl rfl) | exact Or.inr (Or.inr rfl)) rfl rfl) se_int rfl)
  (sss_one (ss_ret (se_op opG_mul (se_ix (ixG.or (ixG_D hu9)) (se_lst (sa_cons se_int (sa_cons (se_un unG_neg se_int) sa_nil rfl) rfl) (by decide)) (se_call G__law_take.ok (G__law_take.okx s) (hr.mono (j := 1) (by decide)) rfl G__law_take.mg G__law_take.kp G__law_take.bd takesD (sa_cons (se_var (i := 0) rfl (by first | exact Or.inl rfl | exact Or.inr (Or.inl rfl) | exact Or.inr (Or.inr rfl)) rfl rfl) (sa_cons se_int sa_nil rfl) rfl) rfl rfl rfl rfl) (fun _ _ => rfl)) (se_op opG_sub (se_op opG_sub (se_op opG_pow se_int se_int) se_int) (se_call G__law_take.ok (G__law_take.okx s) (hr.mono (j := 1) (by decide)) rfl G__law_take.mg G__law_take.kp G__law_take.bd takesD (sa_cons (se_var (i := 0) rfl (by first | exact Or.inl rfl | exact Or.inr (Or.inl rfl) | exact Or.inr (Or.inr rfl)) rfl rfl) (sa_cons (se_op opG_pow se_int se_int) sa_nil rfl) rfl) rfl rfl rfl rfl)))))
  sss_nil)
  (sss_cons (ss_if (st_cmp (opG_eq hu65) (se_var (i := 1) rfl (by first | exact Or.inl rfl | exact Or.inr (Or.inl rfl) | exact Or.inr (Or.inr rfl)) rfl rfl) se_int rfl)
  (sss_one (ss_ret (se_tup (sa_cons (se_call G__law_word.ok (G__law_word.okx s) (hr.mono (j := 2) (by decide)) rfl G__law_word.mg G__law_word.kp G__law_word.bd takesD (sa_cons (se_var (i := 0) rfl (by first | exact Or.inl rfl | exact Or.inr (Or.inl rfl) | exact Or.inr (Or.inr rfl)) rfl rfl) (sa_cons (se_call G__law_take.ok (G__law_take.okx s) (hr.mono (j := 1) (by decide)) rfl G__law_take.mg G__law_take.kp G__law_take.bd takesD (sa_cons (se_var (i := 0) rfl (by first | exact Or.inl rfl | exact Or.inr (Or.inl rfl) | exact Or.inr (Or.inr rfl)) rfl rfl) (sa_cons se_int sa_nil rfl) rfl) rfl rfl rfl rfl) sa_nil rfl) rfl) rfl rfl rfl rfl) sa_nil rfl) (by decide))))
  sss_nil)
  (sss_one (ss_ret (se_call G__law_word.ok (G__law_word.okx s) (hr.mono (j := 2) (by decide)) rfl G__law_word.mg G__law_word.kp G__law_word.bd takesD (sa_cons (se_var (i := 0) rfl (by first | exact Or.inl rfl | exact Or.inr (Or.inl rfl) | exact Or.inr (Or.inr rfl)) rfl rfl) (sa_cons (se_op opG_add se_int (se_call G__law_take.ok (G__law_take.okx s) (hr.mono (j := 1) (by decide)) rfl G__law_take.mg G__law_take.kp G__law_take.bd takesD (sa_cons (se_var (i := 0) rfl (by first | exact Or.inl rfl | exact Or.inr (Or.inl rfl) | exact Or.inr (Or.inr rfl)) rfl rfl) (sa_cons se_int sa_nil rfl) rfl) rfl rfl rfl rfl)) sa_nil rfl) rfl) rfl rfl rfl rfl)))))))
theorem ok__law_node {a__law_take : Addr} {d__law_take : FuncData} (G__law_take : Cal m P w K mg base c "_law_take" a__law_take d__law_take 1 ["_law_pen_here", "_law_most"] F__law_take 2) {a__law_word : Addr} {d__law_word : FuncData} (G__law_word : Cal m P w K mg base c "_law_word" a__law_word d__law_word 2 ["_law_pen_here", "_law_many"] F__law_word 2) (T : Txt w K mg) {f : Addr} {fd : FuncData} (D : Fun K "_law_node" "_law_node" s__law_node f fd) (hm : mg "_law_node" = some (.ref f)) (hb : Binds K fd ["_law_pen_here"] []) : Cal m P w K mg base c "_law_node" f fd 3 ["_law_pen_here"] F__law_node 1 :=
  ⟨fn_okD D sc__law_node rfl rfl fun cdv A outer s H E hr => dv__law_node G__law_take G__law_word T cdv A outer s H E hr, fun s => okF_of (dv__law_node (m := m) (P := P) (w := w) (base := base) (c := c) (f := f) G__law_take G__law_word T .none callerA [] s (fun _ => none) (fun _ _ _ => False) (room_caller (by decide))).ok, hm, D.kp, hb⟩
/-! ### _law_end -/
abbrev s__law_end : Stmt := top 23
abbrev N__law_end : List Str := ["_law_node_here", "_law_rest", "_law_text"]
theorem sc__law_end : FnScope N__law_end ["_law_node_here"] (defScope s__law_end) := ⟨rfl, rfl, rfl, by decide +kernel, rfl, by decide +kernel, by decide +kernel⟩
def B__law_end : SemS :=
  (sSeq (sIf (tTru (eUn (gIsi "str") (eVar 0)))
  (sRet (eVar 0))
  sNil)
  (sSeq (sIf (tTru (eUn (gIsi "tuple") (eVar 0)))
  (sRet (eOp gAdd (eCon (.str (sg "'"))) (eOp (orG gIx gIxD) (eVar 0) (eCon (.int 0)))))
  sNil)
  (sSeq (sSet 1 (eFn (g1 gAbs) (lCons (eVar 0) lNil)))
  (sSeq (sSet 2 (eOp (orG gIx gIxD) (eCon (.str (sg "0123456789"))) (eOp gMod (eVar 1) (eCon (.int 10)))))
  (sSeq (sWhile 1000 (tBl (eOp gGt (eVar 1) (eCon (.int 9))))
  (sSeq (sSet 1 (eOp gDiv (eVar 1) (eCon (.int 10))))
  (sSet 2 (eOp gAdd (eOp (orG gIx gIxD) (eCon (.str (sg "0123456789"))) (eOp gMod (eVar 1) (eCon (.int 10)))) (eVar 2)))))
  (sRet (eOp gAdd (eOp (orG gIx gIxD) (eLst (lCons (eCon (.str (sg ""))) (lCons (eCon (.str (sg "-"))) lNil))) (eFn (orF (g1 gInt) (g1 gIntT)) (lCons (eOp (orG gLt gLtD) (eVar 0) (eCon (.int 0))) lNil))) (eVar 2))))))))
def F__law_end : Fn := fnOf 3 B__law_end
theorem dv__law_end  (T : Txt w K mg) {f : Addr} (cdv : Value) (A : Around) (outer : List PySem.Env) (s : Shared) (H : Hp) (E : XK) (hr : Room 0 (A.deeper (PyProof.Rows.envOfC "_law_end" (defScope s__law_end) s.heap.objs.size f cdv))) :
    SSs (cxOf (CXm m P w) P w K mg base N__law_end "_law_end" (defScope s__law_end) f cdv A outer s H E) c (fun cls d _ H => E cls d H) (defBody s__law_end) B__law_end :=
  have hu65 : (A.deeper (PyProof.Rows.envOfC "_law_end" (defScope s__law_end) s.heap.objs.size f cdv)).units + 65 < cLine := by have := hr.un; omega
  have hu9 : (A.deeper (PyProof.Rows.envOfC "_law_end" (defScope s__law_end) s.heap.objs.size f cdv)).units + 9 < cLine := by omega
  have nd := sc__law_end.nd
  (sss_cons (ss_if (st_tru (se_isi (se_var (i := 0) rfl (by first | exact Or.inl rfl | exact Or.inr (Or.inl rfl) | exact Or.inr (Or.inr rfl)) rfl rfl) k_str rfl T.b_isinstance rfl T.b_str (by decide +kernel) (by decide) rfl rfl) (fun _ => rfl))
  (sss_one (ss_ret (se_var (i := 0) rfl (by first | exact Or.inl rfl | exact Or.inr (Or.inl rfl) | exact Or.inr (Or.inr rfl)) rfl rfl)))
  sss_nil)
  (sss_cons (ss_if (st_tru (se_isi (se_var (i := 0) rfl (by first | exact Or.inl rfl | exact Or.inr (Or.inl rfl) | exact Or.inr (Or.inr rfl)) rfl rfl) k_tuple rfl T.b_isinstance rfl T.b_tuple (by decide +kernel) (by decide) rfl rfl) (fun _ => rfl))
  (sss_one (ss_ret (se_op opG_add (se_str (sg_cps "'") (by decide +kernel)) (se_ix (ixG.or (ixG_D hu9)) (se_var (i := 0) rfl (by first | exact Or.inl rfl | exact Or.inr (Or.inl rfl) | exact Or.inr (Or.inr rfl)) rfl rfl) se_int (fun _ _ => rfl)))))
  sss_nil)
  (sss_cons (ss_set nd (i := 1) rfl (by first | exact Or.inl rfl | exact Or.inr rfl) (se_fnB fn_abs rfl T.b_abs (by decide +kernel) (sa_cons (se_var (i := 0) rfl (by first | exact Or.inl rfl | exact Or.inr (Or.inl rfl) | exact Or.inr (Or.inr rfl)) rfl rfl) sa_nil rfl) (by decide) rfl rfl rfl) rfl (by first | exact Or.inl rfl | exact Or.inr rfl))
  (sss_cons (ss_set nd (i := 2) rfl (by first | exact Or.inl rfl | exact Or.inr rfl) (se_ix (ixG.or (ixG_D hu9)) (se_str (sg_cps "0123456789") (by decide +kernel)) (se_op opG_mod (se_var (i := 1) rfl (by first | exact Or.inl rfl | exact Or.inr (Or.inl rfl) | exact Or.inr (Or.inr rfl)) rfl rfl) se_int) (fun _ _ => rfl)) rfl (by first | exact Or.inl rfl | exact Or.inr rfl))
  (sss_cons (ss_while 1000 passesD (st_cmp opG_gt (se_var (i := 1) rfl (by first | exact Or.inl rfl | exact Or.inr (Or.inl rfl) | exact Or.inr (Or.inr rfl)) rfl rfl) se_int rfl)
  (sss_cons (ss_set nd (i := 1) rfl (by first | exact Or.inl rfl | exact Or.inr rfl) (se_op opG_div (se_var (i := 1) rfl (by first | exact Or.inl rfl | exact Or.inr (Or.inl rfl) | exact Or.inr (Or.inr rfl)) rfl rfl) se_int) rfl (by first | exact Or.inl rfl | exact Or.inr rfl))
  (sss_one (ss_set nd (i := 2) rfl (by first | exact Or.inl rfl | exact Or.inr rfl) (se_op opG_add (se_ix (ixG.or (ixG_D hu9)) (se_str (sg_cps "0123456789") (by decide +kernel)) (se_op opG_mod (se_var (i := 1) rfl (by first | exact Or.inl rfl | exact Or.inr (Or.inl rfl) | exact Or.inr (Or.inr rfl)) rfl rfl) se_int) (fun _ _ => rfl)) (se_var (i := 2) rfl (by first | exact Or.inl rfl | exact Or.inr (Or.inl rfl) | exact Or.inr (Or.inr rfl)) rfl rfl)) rfl (by first | exact Or.inl rfl | exact Or.inr rfl)))))
  (sss_one (ss_ret (se_op opG_add (se_ix (ixG.or (ixG_D hu9)) (se_lst (sa_cons (se_str (sg_cps "") (by decide +kernel)) (sa_cons (se_str (sg_cps "-") (by decide +kernel)) sa_nil rfl) rfl) (by decide)) (se_fnT fn_int2 rfl T.b_int (by decide +kernel) (sa_cons (se_cmp (opG_lt.or (opG_ltD hu65)) (se_var (i := 0) rfl (by first | exact Or.inl rfl | exact Or.inr (Or.inl rfl) | exact Or.inr (Or.inr rfl)) rfl rfl) se_int rfl) sa_nil rfl) (by decide) rfl rfl rfl) (fun _ _ => rfl)) (se_var (i := 2) rfl (by first | exact Or.inl rfl | exact Or.inr (Or.inl rfl) | exact Or.inr (Or.inr rfl)) rfl rfl)))))))))
theorem ok__law_end  (T : Txt w K mg) {f : Addr} {fd : FuncData} (D : Fun K "_law_end" "_law_end" s__law_end f fd) (hm : mg "_law_end" = some (.ref f)) (hb : Binds K fd ["_law_node_here"] []) : Cal m P w K mg base c "_law_end" f fd 1 ["_law_node_here"] F__law_end 1 :=
  ⟨fn_okD D sc__law_end rfl rfl fun cdv A outer s H E hr => dv__law_end  T cdv A outer s H E hr, fun s => okF_of (dv__law_end (m := m) (P := P) (w := w) (base := base) (c := c) (f := f)  T .none callerA [] s (fun _ => none) (fun _ _ _ => False) (room_caller (by decide))).ok, hm, D.kp, hb⟩
/-! ### are_letters -/
abbrev s_are_letters : Stmt := top 10
abbrev N_are_letters : List Str := ["text", "sign"]
theorem sc_are_letters : FnScope N_are_letters ["text"] (defScope s_are_letters) := ⟨rfl, rfl, rfl, by decide +kernel, rfl, by decide +kernel, by decide +kernel⟩
theorem dv_are_letters  (T : Txt w K mg) {f : Addr} (cdv : Value) (A : Around) (outer : List PySem.Env) (s : Shared) (H : Hp) (E : XK) (hr : Room 0 (A.deeper (PyProof.Rows.envOfC "are_letters" (defScope s_are_letters) s.heap.objs.size f cdv))) :
    SSs (cxOf (CXm m P w) P w K mg base N_are_letters "are_letters" (defScope s_are_letters) f cdv A outer s H E) c (fun cls d _ H => E cls d H) (defBody s_are_letters) B_are_letters :=
  have hu65 : (A.deeper (PyProof.Rows.envOfC "are_letters" (defScope s_are_letters) s.heap.objs.size f cdv)).units + 65 < cLine := by have := hr.un; omega
  have hu9 : (A.deeper (PyProof.Rows.envOfC "are_letters" (defScope s_are_letters) s.heap.objs.size f cdv)).units + 9 < cLine := by omega
  have nd := sc_are_letters.nd
  (sss_one (ss_ret (se_and (se_cmp opG_le (se_fnB fn_len rfl T.b_len (by decide +kernel) (sa_cons (se_var (i := 0) rfl (by first | exact Or.inl rfl | exact Or.inr (Or.inl rfl) | exact Or.inr (Or.inr rfl)) rfl rfl) sa_nil rfl) (by decide) rfl rfl rfl) (se_gint rfl T.c_MOST_LETTERS rfl) rfl) (se_and1 (se_fnB (fn_all rfl) rfl T.b_all (by decide +kernel) (sa_cons (se_comp (own := [("sign", 1)]) (is := [1]) (qt := tYes) rfl nd (si_any (se_var (i := 0) rfl (by first | exact Or.inl rfl | exact Or.inr (Or.inl rfl) | exact Or.inr (Or.inr rfl)) rfl rfl)) (blkOk_by (by with_unfolding_all rfl)) rfl (fun _ _ _ _ _ => (sg_name nd (i := 1) rfl (by first | exact Or.inl rfl | exact Or.inr rfl) (by first | exact Or.inl rfl | exact Or.inr rfl))) (fun _ _ _ _ _ => SIf.none) (fun _ _ _ _ _ => (se_cmp ((opG_in hu65).or (opG_inD hu9)) (se_var (i := 1) rfl (by first | exact Or.inl rfl | exact Or.inr (Or.inl rfl) | exact Or.inr (Or.inr rfl)) rfl rfl) (se_gstr (s := "abcdefghijklmnopqrstuvwxyz") rfl T.c_LETTERS rfl (by decide +kernel)) rfl)) (fun _ => rfl) s 0) sa_nil rfl) (by decide) rfl rfl rfl)))))
theorem ok_are_letters  (T : Txt w K mg) {f : Addr} {fd : FuncData} (D : Fun K "are_letters" "are_letters" s_are_letters f fd) (hm : mg "are_letters" = some (.ref f)) (hb : Binds K fd ["text"] []) : Cal m P w K mg base c "are_letters" f fd 1 ["text"] F_are_letters 1 :=
  ⟨fn_okD D sc_are_letters rfl rfl fun cdv A outer s H E hr => dv_are_letters  T cdv A outer s H E hr, fun s => okF_of (dv_are_letters (m := m) (P := P) (w := w) (base := base) (c := c) (f := f)  T .none callerA [] s (fun _ => none) (fun _ _ _ => False) (room_caller (by decide))).ok, hm, D.kp, hb⟩
/-! ### is_name -/
abbrev s_is_name : Stmt := top 11
abbrev N_is_name : List Str := ["thing"]
theorem sc_is_name : FnScope N_is_name ["thing"] (defScope s_is_name) := ⟨rfl, rfl, rfl, by decide +kernel, rfl, by decide +kernel, by decide +kernel⟩
theorem dv_is_name {a_are_letters : Addr} {d_are_letters : FuncData} (G_are_letters : Cal m P w K mg base c "are_letters" a_are_letters d_are_letters 1 ["text"] F_are_letters 1) (T : Txt w K mg) {f : Addr} (cdv : Value) (A : Around) (outer : List PySem.Env) (s : Shared) (H : Hp) (E : XK) (hr : Room 1 (A.deeper (PyProof.Rows.envOfC "is_name" (defScope s_is_name) s.heap.objs.size f cdv))) :
    SSs (cxOf (CXm m P w) P w K mg base N_is_name "is_name" (defScope s_is_name) f cdv A outer s H E) c (fun cls d _ H => E cls d H) (defBody s_is_name) B_is_name :=
  have hu65 : (A.deeper (PyProof.Rows.envOfC "is_name" (defScope s_is_name) s.heap.objs.size f cdv)).units + 65 < cLine := by have := hr.un; omega
  have hu9 : (A.deeper (PyProof.Rows.envOfC "is_name" (defScope s_is_name) s.heap.objs.size f cdv)).units + 9 < cLine := by omega
  have nd := sc_is_name.nd
  (sss_one (ss_ret (se_and (se_isi (se_var (i := 0) rfl (by first | exact Or.inl rfl | exact Or.inr (Or.inl rfl) | exact Or.inr (Or.inr rfl)) rfl rfl) k_str rfl T.b_isinstance rfl T.b_str (by decide +kernel) (by decide) rfl rfl) (se_and (se_cmp (opG_ne hu65) (se_var (i := 0) rfl (by first | exact Or.inl rfl | exact Or.inr (Or.inl rfl) | exact Or.inr (Or.inr rfl)) rfl rfl) (se_str (sg_cps "") (by decide +kernel)) rfl) (se_and1 (se_call G_are_letters.ok (G_are_letters.okx s) (hr.mono (j := 1) (by decide)) rfl G_are_letters.mg G_are_letters.kp G_are_letters.bd takesD (sa_cons (se_var (i := 0) rfl (by first | exact Or.inl rfl | exact Or.inr (Or.inl rfl) | exact Or.inr (Or.inr rfl)) rfl rfl) sa_nil rfl) rfl rfl rfl rfl))))))
theorem ok_is_name {a_are_letters : Addr} {d_are_letters : FuncData} (G_are_letters : Cal m P w K mg base c "are_letters" a_are_letters d_are_letters 1 ["text"] F_are_letters 1) (T : Txt w K mg) {f : Addr} {fd : FuncData} (D : Fun K "is_name" "is_name" s_is_name f fd) (hm : mg "is_name" = some (.ref f)) (hb : Binds K fd ["thing"] []) : Cal m P w K mg base c "is_name" f fd 2 ["thing"] F_is_name 1 :=
  ⟨fn_okD D sc_is_name rfl rfl fun cdv A outer s H E hr => dv_is_name G_are_letters T cdv A outer s H E hr, fun s => okF_of (dv_is_name (m := m) (P := P) (w := w) (base := base) (c := c) (f := f) G_are_letters T .none callerA [] s (fun _ => none) (fun _ _ _ => False) (room_caller (by decide))).ok, hm, D.kp, hb⟩
/-! ### is_number_text -/
abbrev s_is_number_text : Stmt := top 13
abbrev N_is_number_text : List Str := ["text", "figures", "sign"]
theorem sc_is_number_text : FnScope N_is_number_text ["text"] (defScope s_is_number_text) := ⟨rfl, rfl, rfl, by decide +kernel, rfl, by decide +kernel, by decide +kernel⟩
def B_is_number_text : SemS :=
  (sSeq (sSet 1 (eVar 0))
  (sSeq (sIf (tBl (eOp gEq (eSl (eVar 0) none (some (eCon (.int 1)))) (eCon (.str (sg "-")))))
  (sSet 1 (eSl (eVar 0) (some (eCon (.int 1))) none))
  sNil)
  (sSeq (sIf (tOr' (tNt (tBl (eChain gLe gLe (eCon (.int 1)) (eFn (g1 gLen) (lCons (eVar 1) lNil)) (eCon (.int 30))))) (tNt (tTru (eFn (g1 gAll) (lCons (eComp (l1 (eVar 1)) itSeq (tgN 2) [2] (fun ρ => .ok true ρ) (eOp (orG gIn gInD) (eVar 2) (eCon (.str (sg "0123456789"))))) lNil)))))
  (sRet (eCon (.bl false)))
  sNil)
  (sRet (eOr (eOp gNe (eOp (orG gIx gIxD) (eVar 1) (eCon (.int 0))) (eCon (.str (sg "0")))) (eOp gEq (eVar 0) (eCon (.str (sg "0")))))))))
def F_is_number_text : Fn := fnOf 3 B_is_number_text
theorem dv_is_number_text  (T : Txt w K mg) {f : Addr} (cdv : Value) (A : Around) (outer : List PySem.Env) (s : Shared) (H : Hp) (E : XK) (hr : Room 0 (A.deeper (PyProof.Rows.envOfC "is_number_text" (defScope s_is_number_text) s.heap.objs.size f cdv))) :
    SSs (cxOf (CXm m P w) P w K mg base N_is_number_text "is_number_text" (defScope s_is_number_text) f cdv A outer s H E) c (fun cls d _ H => E cls d H) (defBody s_is_number_text) B_is_number_text :=
  have hu65 : (A.deeper (PyProof.Rows.envOfC "is_number_text" (defScope s_is_number_text) s.heap.objs.size f cdv)).units + 65 < cLine := by have := hr.un; omega
  have hu9 : (A.deeper (PyProof.Rows.envOfC "is_number_text" (defScope s_is_number_text) s.heap.objs.size f cdv)).units + 9 < cLine := by omega
  have nd := sc_is_number_text.nd
  (sss_cons (ss_set nd (i := 1) rfl (by first | exact Or.inl rfl | exact Or.inr rfl) (se_var (i := 0) rfl (by first | exact Or.inl rfl | exact Or.inr (Or.inl rfl) | exact Or.inr (Or.inr rfl)) rfl rfl) rfl (by first | exact Or.inl rfl | exact Or.inr rfl))
  (sss_cons (ss_if (st_cmp (opG_eq hu65) (se_slice (se_var (i := 0) rfl (by first | exact Or.inl rfl | exact Or.inr (Or.inl rfl) | exact Or.inr (Or.inr rfl)) rfl rfl) so_none (so_some se_int)) (se_str (sg_cps "-") (by decide +kernel)) rfl)
  (sss_one (ss_set nd (i := 1) rfl (by first | exact Or.inl rfl | exact Or.inr rfl) (se_slice (se_var (i := 0) rfl (by first | exact Or.inl rfl | exact Or.inr (Or.inl rfl) | exact Or.inr (Or.inr rfl)) rfl rfl) (so_some se_int) so_none) rfl (by first | exact Or.inl rfl | exact Or.inr rfl)))
  sss_nil)
  (sss_cons (ss_if (SW.st (sw_or (st_not (st_chain opG_le opG_le se_int (se_fnB fn_len rfl T.b_len (by decide +kernel) (sa_cons (se_var (i := 1) rfl (by first | exact Or.inl rfl | exact Or.inr (Or.inl rfl) | exact Or.inr (Or.inr rfl)) rfl rfl) sa_nil rfl) (by decide) rfl rfl rfl) (se_gint rfl T.c_MOST_FIGURES rfl) rfl)) (sw_or1 (st_not (st_tru (se_fnB (fn_all rfl) rfl T.b_all (by decide +kernel) (sa_cons (se_comp (own := [("sign", 2)]) (is := [2]) (qt := tYes) rfl nd (si_any (se_var (i := 1) rfl (by first | exact Or.inl rfl | exact Or.inr (Or.inl rfl) | exact Or.inr (Or.inr rfl)) rfl rfl)) (blkOk_by (by with_unfolding_all rfl)) rfl (fun _ _ _ _ _ => (sg_name nd (i := 2) rfl (by first | exact Or.inl rfl | exact Or.inr rfl) (by first | exact Or.inl rfl | exact Or.inr rfl))) (fun _ _ _ _ _ => SIf.none) (fun _ _ _ _ _ => (se_cmp ((opG_in hu65).or (opG_inD hu9)) (se_var (i := 2) rfl (by first | exact Or.inl rfl | exact Or.inr (Or.inl rfl) | exact Or.inr (Or.inr rfl)) rfl rfl) (se_gstr (s := "0123456789") rfl T.c_FIGURES rfl (by decide +kernel)) rfl)) (fun _ => rfl) s 0) sa_nil rfl) (by decide) rfl rfl rfl) (fun _ => rfl))))))
  (sss_one (ss_ret se_bl))
  sss_nil)
  (sss_one (ss_ret (se_or (se_cmp (opG_ne hu65) (se_ix (ixG.or (ixG_D hu9)) (se_var (i := 1) rfl (by first | exact Or.inl rfl | exact Or.inr (Or.inl rfl) | exact Or.inr (Or.inr rfl)) rfl rfl) se_int (fun _ _ => rfl)) (se_str (sg_cps "0") (by decide +kernel)) rfl) (se_and1 (se_cmp (opG_eq hu65) (se_var (i := 0) rfl (by first | exact Or.inl rfl | exact Or.inr (Or.inl rfl) | exact Or.inr (Or.inr rfl)) rfl rfl) (se_str (sg_cps "0") (by decide +kernel)) rfl))))))))
theorem ok_is_number_text  (T : Txt w K mg) {f : Addr} {fd : FuncData} (D : Fun K "is_number_text" "is_number_text" s_is_number_text f fd) (hm : mg "is_number_text" = some (.ref f)) (hb : Binds K fd ["text"] []) : Cal m P w K mg base c "is_number_text" f fd 1 ["text"] F_is_number_text 1 :=
  ⟨fn_okD D sc_is_number_text rfl rfl fun cdv A outer s H E hr => dv_is_number_text  T cdv A outer s H E hr, fun s => okF_of (dv_is_number_text (m := m) (P := P) (w := w) (base := base) (c := c) (f := f)  T .none callerA [] s (fun _ => none) (fun _ _ _ => False) (room_caller (by decide))).ok, hm, D.kp, hb⟩
/-! ### read_node -/
abbrev s_read_node : Stmt := top 14
abbrev N_read_node : List Str := ["text"]
theorem sc_read_node : FnScope N_read_node ["text"] (defScope s_read_node) := ⟨rfl, rfl, rfl, by decide +kernel, rfl, by decide +kernel, by decide +kernel⟩
def B_read_node : SemS :=
  (sSeq (sIf (tNt (tTru (eUn (gIsi "str") (eVar 0))))
  (sRaise "NoNode")
  sNil)
  (sSeq (sIf (tAn (tBl (eOp gEq (eSl (eVar 0) none (some (eCon (.int 1)))) (eCon (.str (sg "'"))))) (tTru (eCall F_are_letters (lCons (eSl (eVar 0) (some (eCon (.int 1))) none) lNil))))
  (sRet (eTup (lCons (eSl (eVar 0) (some (eCon (.int 1))) none) lNil)))
  sNil)
  (sSeq (sIf (tTru (eCall F_is_name (lCons (eVar 0) lNil)))
  (sRet (eVar 0))
  sNil)
  (sSeq (sIf (tNt (tTru (eCall F_is_number_text (lCons (eVar 0) lNil))))
  (sRaise "NoNode")
  sNil)
  (sRet (eFn (orF (g1 gInt) (g1 gIntT)) (lCons (eVar 0) lNil)))))))
def F_read_node : Fn := fnOf 1 B_read_node
theorem dv_read_node {a_is_name : Addr} {d_is_name : FuncData} (G_is_name : Cal m P w K mg base c "is_name" a_is_name d_is_name 2 ["thing"] F_is_name 1) {a_are_letters : Addr} {d_are_letters : FuncData} (G_are_letters : Cal m P w K mg base c "are_letters" a_are_letters d_are_letters 1 ["text"] F_are_letters 1) {a_is_number_text : Addr} {d_is_number_text : FuncData} (G_is_number_text : Cal m P w K mg base c "is_number_text" a_is_number_text d_is_number_text 1 ["text"] F_is_number_text 1) (T : Txt w K mg) {f : Addr} (cdv : Value) (A : Around) (outer : List PySem.Env) (s : Shared) (H : Hp) (E : XK) (hr : Room 2 (A.deeper (PyProof.Rows.envOfC "read_node" (defScope s_read_node) s.heap.objs.size f cdv))) :
    SSs (cxOf (CXm m P w) P w K mg base N_read_node "read_node" (defScope s_read_node) f cdv A outer s H E) c (fun cls d _ H => E cls d H) (defBody s_read_node) B_read_node :=
  have hu65 : (A.deeper (PyProof.Rows.envOfC "read_node" (defScope s_read_node) s.heap.objs.size f cdv)).units + 65 < cLine := by have := hr.un; omega
  have hu9 : (A.deeper (PyProof.Rows.envOfC "read_node" (defScope s_read_node) s.heap.objs.size f cdv)).units + 9 < cLine := by omega
  have nd := sc_read_node.nd
  (sss_cons (ss_if (st_not (st_tru (se_isi (se_var (i := 0) rfl (by first | exact Or.inl rfl | exact Or.inr (Or.inl rfl) | exact Or.inr (Or.inr rfl)) rfl rfl) k_str rfl T.b_isinstance rfl T.b_str (by decide +kernel) (by decide) rfl rfl) (fun _ => rfl)))
  (sss_one (ss_raise rfl takesD T.n_NoNode T.q_NoNode T.g_NoNode T.k_NoNode rfl rfl))
  sss_nil)
  (sss_cons (ss_if (SW.st (sw_and (st_cmp (opG_eq hu65) (se_slice (se_var (i := 0) rfl (by first | exact Or.inl rfl | exact Or.inr (Or.inl rfl) | exact Or.inr (Or.inr rfl)) rfl rfl) so_none (so_some se_int)) (se_gstr (s := "'") rfl T.c_TICK rfl (by decide +kernel)) rfl) (sw_and1 (st_tru (se_call G_are_letters.ok (G_are_letters.okx s) (hr.mono (j := 1) (by decide)) rfl G_are_letters.mg G_are_letters.kp G_are_letters.bd takesD (sa_cons (se_slice (se_var (i := 0) rfl (by first | exact Or.inl rfl | exact Or.inr (Or.inl rfl) | exact Or.inr (Or.inr rfl)) rfl rfl) (so_some se_int) so_none) sa_nil rfl) rfl rfl rfl rfl) (fun _ => rfl)))))
  (sss_one (ss_ret (se_tup (sa_cons (se_slice (se_var (i := 0) rfl (by first | exact Or.inl rfl | exact Or.inr (Or.inl rfl) | exact Or.inr (Or.inr rfl)) rfl rfl) (so_some se_int) so_none) sa_nil rfl) (by decide))))
  sss_nil)
  (sss_cons (ss_if (st_tru (se_call G_is_name.ok (G_is_name.okx s) (hr.mono (j := 2) (by decide)) rfl G_is_name.mg G_is_name.kp G_is_name.bd takesD (sa_cons (se_var (i := 0) rfl (by first | exact Or.inl rfl | exact Or.inr (Or.inl rfl) | exact Or.inr (Or.inr rfl)) rfl rfl) sa_nil rfl) rfl rfl rfl rfl) (fun _ => rfl))
  (sss_one (ss_ret (se_var (i := 0) rfl (by first | exact Or.inl rfl | exact Or.inr (Or.inl rfl) | exact Or.inr (Or.inr rfl)) rfl rfl)))
  sss_nil)
  (sss_cons (ss_if (st_not (st_tru (se_call G_is_number_text.ok (G_is_number_text.okx s) (hr.mono (j := 1) (by decide)) rfl G_is_number_text.mg G_is_number_text.kp G_is_number_text.bd takesD (sa_cons (se_var (i := 0) rfl (by first | exact Or.inl rfl | exact Or.inr (Or.inl rfl) | exact Or.inr (Or.inr rfl)) rfl rfl) sa_nil rfl) rfl rfl rfl rfl) (fun _ => rfl)))
  (sss_one (ss_raise rfl takesD T.n_NoNode T.q_NoNode T.g_NoNode T.k_NoNode rfl rfl))
  sss_nil)
  (sss_one (ss_ret (se_fnT fn_int2 rfl T.b_int (by decide +kernel) (sa_cons (se_var (i := 0) rfl (by first | exact Or.inl rfl | exact Or.inr (Or.inl rfl) | exact Or.inr (Or.inr rfl)) rfl rfl) sa_nil rfl) (by decide) rfl rfl rfl)))))))
theorem ok_read_node {a_is_name : Addr} {d_is_name : FuncData} (G_is_name : Cal m P w K mg base c "is_name" a_is_name d_is_name 2 ["thing"] F_is_name 1) {a_are_letters : Addr} {d_are_letters : FuncData} (G_are_letters : Cal m P w K mg base c "are_letters" a_are_letters d_are_letters 1 ["text"] F_are_letters 1) {a_is_number_text : Addr} {d_is_number_text : FuncData} (G_is_number_text : Cal m P w K mg base c "is_number_text" a_is_number_text d_is_number_text 1 ["text"] F_is_number_text 1) (T : Txt w K mg) {f : Addr} {fd : FuncData} (D : Fun K "read_node" "read_node" s_read_node f fd) (hm : mg "read_node" = some (.ref f)) (hb : Binds K fd ["text"] []) : Cal m P w K mg base c "read_node" f fd 3 ["text"] F_read_node 1 :=
  ⟨fn_okD D sc_read_node rfl rfl fun cdv A outer s H E hr => dv_read_node G_is_name G_are_letters G_is_number_text T cdv A outer s H E hr, fun s => okF_of (dv_read_node (m := m) (P := P) (w := w) (base := base) (c := c) (f := f) G_is_name G_are_letters G_is_number_text T .none callerA [] s (fun _ => none) (fun _ _ _ => False) (room_caller (by decide))).ok, hm, D.kp, hb⟩
/-! ### read_fact -/
abbrev s_read_fact : Stmt := top 17
abbrev N_read_fact : List Str := ["text", "words", "node"]
theorem sc_read_fact : FnScope N_read_fact ["text"] (defScope s_read_fact) := ⟨rfl, rfl, rfl, by decide +kernel, rfl, by decide +kernel, by decide +kernel⟩
def B_read_fact : SemS :=
  (sSeq (sIf (tNt (tTru (eUn (gIsi "str") (eVar 0))))
  (sRaise "NoFact")
  sNil)
  (sSeq (sSet 1 (eMet "str" gSplit (eVar 0) (lCons (eCon (.str (sg " "))) lNil)))
  (sSeq (sIf (tOr' (tBl (eOp gNe (eFn (g1 gLen) (lCons (eVar 1) lNil)) (eCon (.int 3)))) (tOr' (tNt (tTru (eCall F_is_name (lCons (eOp (orG gIx gIxD) (eVar 1) (eCon (.int 0))) lNil)))) (tNt (tTru (eCall F_is_name (lCons (eOp (orG gIx gIxD) (eVar 1) (eCon (.int 1))) lNil))))))
  (sRaise "NoFact")
  sNil)
  (sSeq (sTryR (tabOf [("NoNode", true), ("NoFact", false)])
  (sSet 2 (eCall F_read_node (lCons (eOp (orG gIx gIxD) (eVar 1) (eCon (.int 2))) lNil)))
  "NoFact")
  (sRet (eTup (lCons (eOp (orG gIx gIxD) (eVar 1) (eCon (.int 0))) (lCons (eOp (orG gIx gIxD) (eVar 1) (eCon (.int 1))) (lCons (eVar 2) lNil)))))))))
def F_read_fact : Fn := fnOf 3 B_read_fact
theorem dv_read_fact {a_read_node : Addr} {d_read_node : FuncData} (G_read_node : Cal .o P w K mg base c "read_node" a_read_node d_read_node 3 ["text"] F_read_node 1) {a_is_name : Addr} {d_is_name : FuncData} (G_is_name : Cal .o P w K mg base c "is_name" a_is_name d_is_name 2 ["thing"] F_is_name 1) (Gn_read_node : Cal .n P w K mg base c "read_node" a_read_node d_read_node 3 ["text"] F_read_node 1) (T : Txt w K mg) {f : Addr} (cdv : Value) (A : Around) (outer : List PySem.Env) (s : Shared) (H : Hp) (E : XK) (hr : Room 3 (A.deeper (PyProof.Rows.envOfC "read_fact" (defScope s_read_fact) s.heap.objs.size f cdv))) :
    SSs (cxOf (CXm .o P w) P w K mg base N_read_fact "read_fact" (defScope s_read_fact) f cdv A outer s H E) c (fun cls d _ H => E cls d H) (defBody s_read_fact) B_read_fact :=
  have hu65 : (A.deeper (PyProof.Rows.envOfC "read_fact" (defScope s_read_fact) s.heap.objs.size f cdv)).units + 65 < cLine := by have := hr.un; omega
  have hu9 : (A.deeper (PyProof.Rows.envOfC "read_fact" (defScope s_read_fact) s.heap.objs.size f cdv)).units + 9 < cLine := by omega
  have nd := sc_read_fact.nd
  (sss_cons (ss_if (st_not (st_tru (se_isi (se_var (i := 0) rfl (by first | exact Or.inl rfl | exact Or.inr (Or.inl rfl) | exact Or.inr (Or.inr rfl)) rfl rfl) k_str rfl T.b_isinstance rfl T.b_str (by decide +kernel) (by decide) rfl rfl) (fun _ => rfl)))
  (sss_one (ss_raise rfl takesD T.n_NoFact T.q_NoFact T.g_NoFact T.k_NoFact rfl rfl))
  sss_nil)
  (sss_cons (ss_set nd (i := 1) rfl (by first | exact Or.inl rfl | exact Or.inr rfl) (se_met met_split PySem.F.plainAttrs_str PySem.F.slot_str_split PySem.F.type_str_split (se_var (i := 0) rfl (by first | exact Or.inl rfl | exact Or.inr (Or.inl rfl) | exact Or.inr (Or.inr rfl)) rfl rfl) (sa_cons (se_str (sg_cps " ") (by decide +kernel)) sa_nil rfl) ⟨rfl, rfl, rfl⟩ rfl rfl) rfl (by first | exact Or.inl rfl | exact Or.inr rfl))
  (sss_cons (ss_if (SW.st (sw_or (st_cmp (opG_ne hu65) (se_fnB fn_len rfl T.b_len (by decide +kernel) (sa_cons (se_var (i := 1) rfl (by first | exact Or.inl rfl | exact Or.inr (Or.inl rfl) | exact Or.inr (Or.inr rfl)) rfl rfl) sa_nil rfl) (by decide) rfl rfl rfl) se_int rfl) (sw_or (st_not (st_tru (se_call G_is_name.ok (G_is_name.okx s) (hr.mono (j := 2) (by decide)) rfl G_is_name.mg G_is_name.kp G_is_name.bd takesD (sa_cons (se_ix (ixG.or (ixG_D hu9)) (se_var (i := 1) rfl (by first | exact Or.inl rfl | exact Or.inr (Or.inl rfl) | exact Or.inr (Or.inr rfl)) rfl rfl) se_int (fun _ _ => rfl)) sa_nil rfl) rfl rfl rfl rfl) (fun _ => rfl))) (sw_or1 (st_not (st_tru (se_call G_is_name.ok (G_is_name.okx s) (hr.mono (j := 2) (by decide)) rfl G_is_name.mg G_is_name.kp G_is_name.bd takesD (sa_cons (se_ix (ixG.or (ixG_D hu9)) (se_var (i := 1) rfl (by first | exact Or.inl rfl | exact Or.inr (Or.inl rfl) | exact Or.inr (Or.inr rfl)) rfl rfl) se_int (fun _ _ => rfl)) sa_nil rfl) rfl rfl rfl rfl) (fun _ => rfl)))))))
  (sss_one (ss_raise rfl takesD T.n_NoFact T.q_NoFact T.g_NoFact T.k_NoFact rfl rfl))
  sss_nil)
  (sss_cons (ss_tryR rfl rfl rfl T.g_NoNode rfl passesD passesAtD takesD (exmT_tab T.e_NoNode) T.n_NoFact T.q_NoFact T.g_NoFact T.k_NoFact rfl rfl (fun W0 pn0 xe0 tk0 pp0 => (sss_one (ss_set nd (i := 2) rfl (by first | exact Or.inl rfl | exact Or.inr rfl) (se_call Gn_read_node.ok (Gn_read_node.okx s) (hr.mono (j := 3) (by decide)) rfl Gn_read_node.mg Gn_read_node.kp Gn_read_node.bd tk0 (sa_cons (se_ix (ixG.or (ixG_D hu9)) (se_var (i := 1) rfl (by first | exact Or.inl rfl | exact Or.inr (Or.inl rfl) | exact Or.inr (Or.inr rfl)) rfl rfl) se_int (fun _ _ => rfl)) sa_nil rfl) rfl rfl rfl rfl) rfl (by first | exact Or.inl rfl | exact Or.inr rfl)))))
  (sss_one (ss_ret (se_tup (sa_cons (se_ix (ixG.or (ixG_D hu9)) (se_var (i := 1) rfl (by first | exact Or.inl rfl | exact Or.inr (Or.inl rfl) | exact Or.inr (Or.inr rfl)) rfl rfl) se_int (fun _ _ => rfl)) (sa_cons (se_ix (ixG.or (ixG_D hu9)) (se_var (i := 1) rfl (by first | exact Or.inl rfl | exact Or.inr (Or.inl rfl) | exact Or.inr (Or.inr rfl)) rfl rfl) se_int (fun _ _ => rfl)) (sa_cons (se_var (i := 2) rfl (by first | exact Or.inl rfl | exact Or.inr (Or.inl rfl) | exact Or.inr (Or.inr rfl)) rfl rfl) sa_nil rfl) rfl) rfl) (by decide))))))))
theorem ok_read_fact {a_read_node : Addr} {d_read_node : FuncData} (G_read_node : Cal .o P w K mg base c "read_node" a_read_node d_read_node 3 ["text"] F_read_node 1) {a_is_name : Addr} {d_is_name : FuncData} (G_is_name : Cal .o P w K mg base c "is_name" a_is_name d_is_name 2 ["thing"] F_is_name 1) (Gn_read_node : Cal .n P w K mg base c "read_node" a_read_node d_read_node 3 ["text"] F_read_node 1) (T : Txt w K mg) {f : Addr} {fd : FuncData} (D : Fun K "read_fact" "read_fact" s_read_fact f fd) (hm : mg "read_fact" = some (.ref f)) (hb : Binds K fd ["text"] []) : Cal .o P w K mg base c "read_fact" f fd 4 ["text"] F_read_fact 1 :=
  ⟨fn_okD D sc_read_fact rfl rfl fun cdv A outer s H E hr => dv_read_fact G_read_node G_is_name Gn_read_node T cdv A outer s H E hr, fun s => okF_of (dv_read_fact (P := P) (w := w) (base := base) (c := c) (f := f) G_read_node G_is_name Gn_read_node T .none callerA [] s (fun _ => none) (fun _ _ _ => False) (room_caller (by decide))).ok, hm, D.kp, hb⟩
/-! ### _law_told -/
abbrev s__law_told : Stmt := top 29
abbrev N__law_told : List Str := ["_law_text", "_law_found", "e"]
theorem sc__law_told : FnScope N__law_told ["_law_text"] (defScope s__law_told) := ⟨rfl, rfl, rfl, by decide +kernel, rfl, by decide +kernel, by decide +kernel⟩
def B__law_told : SemS :=
  (sSeq (sSet 1 (eLst lNil))
  (sSeq (sTry 2 (tabOf [("NoNode", true), ("NoFact", true)])
  (sSet 1 (eLst (lCons (eCon (.str (sg "fact"))) (lCons (eCall F_read_fact (lCons (eVar 0) lNil)) lNil))))
  (sSet 1 (eLst (lCons (eCon (.str (sg "refused"))) (lCons (eAn (eUn (gIsX [("NoNode", false), ("NoFact", true)]) (eVar 2)) (eAn (eUn (gIsX [("NoNode", true), ("NoFact", true)]) (eVar 2)) (eNt (eUn (gIsX [("NoNode", true), ("NoFact", false)]) (eVar 2))))) lNil)))))
  (sRet (eVar 1))))
def F__law_told : Fn := fnOf 3 B__law_told
theorem dv__law_told {a_read_fact : Addr} {d_read_fact : FuncData} (G_read_fact : Cal .o P w K mg base c "read_fact" a_read_fact d_read_fact 4 ["text"] F_read_fact 1) (T : Txt w K mg) {f : Addr} (cdv : Value) (A : Around) (outer : List PySem.Env) (s : Shared) (H : Hp) (E : XK) (hr : Room 4 (A.deeper (PyProof.Rows.envOfC "_law_told" (defScope s__law_told) s.heap.objs.size f cdv))) :
    SSs (cxOf (CXm .o P w) P w K mg base N__law_told "_law_told" (defScope s__law_told) f cdv A outer s H E) c (fun cls d _ H => E cls d H) (defBody s__law_told) B__law_told :=
  have hu65 : (A.deeper (PyProof.Rows.envOfC "_law_told" (defScope s__law_told) s.heap.objs.size f cdv)).units + 65 < cLine := by have := hr.un; omega
  have hu9 : (A.deeper (PyProof.Rows.envOfC "_law_told" (defScope s__law_told) s.heap.objs.size f cdv)).units + 9 < cLine := by omega
  have nd := sc__law_told.nd
  (sss_cons (ss_set nd (i := 1) rfl (by first | exact Or.inl rfl | exact Or.inr rfl) (se_lst sa_nil (by decide)) rfl (by first | exact Or.inl rfl | exact Or.inr rfl))
  (sss_cons (ss_try (i := 2) rfl rfl rfl nd rfl rfl rfl T.g_ShapeError rfl takesD passesD (exmT_tab T.e_ShapeError) (fun W0 pn0 xe0 tk0 pp0 => (sss_one (ss_set nd (i := 1) rfl (by first | exact Or.inl rfl | exact Or.inr rfl) (se_lst (sa_cons (se_str (sg_cps "fact") (by decide +kernel)) (sa_cons (se_call G_read_fact.ok (G_read_fact.okx s) (hr.mono (j := 4) (by decide)) rfl G_read_fact.mg G_read_fact.kp G_read_fact.bd tk0 (sa_cons (se_var (i := 0) rfl (by first | exact Or.inl rfl | exact Or.inr (Or.inl rfl) | exact Or.inr (Or.inr rfl)) rfl rfl) sa_nil rfl) rfl rfl rfl rfl) sa_nil rfl) rfl) (by decide)) rfl (by first | exact Or.inl rfl | exact Or.inr rfl))))
  (fun a0 pn0 => (sss_one (ss_set nd (i := 1) rfl (by first | exact Or.inl rfl | exact Or.inr rfl) (se_lst (sa_cons (se_str (sg_cps "refused") (by decide +kernel)) (sa_cons (se_and (se_isX (se_var (i := 2) rfl (by first | exact Or.inl rfl | exact Or.inr (Or.inl rfl) | exact Or.inr (Or.inr rfl)) rfl rfl) (clsE_own rfl T.g_NoFact rfl) T.i_NoFact rfl T.b_isinstance rfl) (se_and (se_isX (se_var (i := 2) rfl (by first | exact Or.inl rfl | exact Or.inr (Or.inl rfl) | exact Or.inr (Or.inr rfl)) rfl rfl) (clsE_blt rfl T.b_ValueError (by decide +kernel) (by decide) rfl) T.i_ValueError rfl T.b_isinstance rfl) (se_and1 (se_not (se_isX (se_var (i := 2) rfl (by first | exact Or.inl rfl | exact Or.inr (Or.inl rfl) | exact Or.inr (Or.inr rfl)) rfl rfl) (clsE_own rfl T.g_NoNode rfl) T.i_NoNode rfl T.b_isinstance rfl))))) sa_nil rfl) rfl) (by decide)) rfl (by first | exact Or.inl rfl | exact Or.inr rfl)))))
  (sss_one (ss_ret (se_var (i := 1) rfl (by first | exact Or.inl rfl | exact Or.inr (Or.inl rfl) | exact Or.inr (Or.inr rfl)) rfl rfl)))))
theorem ok__law_told {a_read_fact : Addr} {d_read_fact : FuncData} (G_read_fact : Cal .o P w K mg base c "read_fact" a_read_fact d_read_fact 4 ["text"] F_read_fact 1) (T : Txt w K mg) {f : Addr} {fd : FuncData} (D : Fun K "_law_told" "_law_told" s__law_told f fd) (hm : mg "_law_told" = some (.ref f)) (hb : Binds K fd ["_law_text"] []) : Cal .o P w K mg base c "_law_told" f fd 5 ["_law_text"] F__law_told 1 :=
  ⟨fn_okD D sc__law_told rfl rfl fun cdv A outer s H E hr => dv__law_told G_read_fact T cdv A outer s H E hr, fun s => okF_of (dv__law_told (P := P) (w := w) (base := base) (c := c) (f := f) G_read_fact T .none callerA [] s (fun _ => none) (fun _ _ _ => False) (room_caller (by decide))).ok, hm, D.kp, hb⟩
/-! ### _law_right -/
abbrev s__law_right : Stmt := top 30
abbrev N__law_right : List Str := ["_law_text", "_law_due", "_law_found"]
theorem sc__law_right : FnScope N__law_right ["_law_text", "_law_due"] (defScope s__law_right) := ⟨rfl, rfl, rfl, by decide +kernel, rfl, by decide +kernel, by decide +kernel⟩
def B__law_right : SemS :=
  (sSeq (sSet 2 (eCall F__law_told (lCons (eVar 0) lNil)))
  (sSeq (sIf (tBl (eOp gEq (eVar 1) (eLst lNil)))
  (sRet (eOp gEq (eVar 2) (eLst (lCons (eCon (.str (sg "refused"))) (lCons (eCon (.bl true)) lNil)))))
  sNil)
  (sSeq (sIf (tOr' (tBl (eOp gNe (eOp (orG gIx gIxD) (eVar 2) (eCon (.int 0))) (eCon (.str (sg "fact"))))) (tOr' (tNt (tTru (eUn (gIsi "tuple") (eOp (orG gIx gIxD) (eVar 2) (eCon (.int 1)))))) (tOr' (tBl (eOp gNe (eFn (g1 gLen) (lCons (eOp (orG gIx gIxD) (eVar 2) (eCon (.int 1))) lNil)) (eCon (.int 3)))) (tTru (eUn (gIsi "bool") (eOp (orG gIx gIxD) (eOp (orG gIx gIxD) (eVar 2) (eCon (.int 1))) (eCon (.int 2))))))))
  (sRet (eCon (.bl false)))
  sNil)
  (sRet (eOp gEq (eOp (orG gIx gIxD) (eVar 2) (eCon (.int 1))) (eOp (orG gIx gIxD) (eVar 1) (eCon (.int 0))))))))
def F__law_right : Fn := fnOf 3 B__law_right
theorem dv__law_right {a__law_told : Addr} {d__law_told : FuncData} (G__law_told : Cal .o P w K mg base c "_law_told" a__law_told d__law_told 5 ["_law_text"] F__law_told 1) (T : Txt w K mg) {f : Addr} (cdv : Value) (A : Around) (outer : List PySem.Env) (s : Shared) (H : Hp) (E : XK) (hr : Room 5 (A.deeper (PyProof.Rows.envOfC "_law_right" (defScope s__law_right) s.heap.objs.size f cdv))) :
    SSs (cxOf (CXm .o P w) P w K mg base N__law_right "_law_right" (defScope s__law_right) f cdv A outer s H E) c (fun cls d _ H => E cls d H) (defBody s__law_right) B__law_right :=
  have hu65 : (A.deeper (PyProof.Rows.envOfC "_law_right" (defScope s__law_right) s.heap.objs.size f cdv)).units + 65 < cLine := by have := hr.un; omega
  have hu9 : (A.deeper (PyProof.Rows.envOfC "_law_right" (defScope s__law_right) s.heap.objs.size f cdv)).units + 9 < cLine := by omega
  have nd := sc__law_right.nd
  (sss_cons (ss_set nd (i := 2) rfl (by first | exact Or.inl rfl | exact Or.inr rfl) (se_call G__law_told.ok (G__law_told.okx s) (hr.mono (j := 5) (by decide)) rfl G__law_told.mg G__law_told.kp G__law_told.bd takesD (sa_cons (se_var (i := 0) rfl (by first | exact Or.inl rfl | exact Or.inr (Or.inl rfl) | exact Or.inr (Or.inr rfl)) rfl rfl) sa_nil rfl) rfl rfl rfl rfl) rfl (by first | exact Or.inl rfl | exact Or.inr rfl))
  (sss_cons (ss_if (st_cmp (opG_eq hu65) (se_var (i := 1) rfl (by first | exact Or.inl rfl | exact Or.inr (Or.inl rfl) | exact Or.inr (Or.inr rfl)) rfl rfl) (se_lst sa_nil (by decide)) rfl)
  (sss_one (ss_ret (se_cmp (opG_eq hu65) (se_var (i := 2) rfl (by first | exact Or.inl rfl | exact Or.inr (Or.inl rfl) | exact Or.inr (Or.inr rfl)) rfl rfl) (se_lst (sa_cons (se_str (sg_cps "refused") (by decide +kernel)) (sa_cons se_bl sa_nil rfl) rfl) (by decide)) rfl)))
  sss_nil)
  (sss_cons (ss_if (SW.st (sw_or (st_cmp (opG_ne hu65) (se_ix (ixG.or (ixG_D hu9)) (se_var (i := 2) rfl (by first | exact Or.inl rfl | exact Or.inr (Or.inl rfl) | exact Or.inr (Or.inr rfl)) rfl rfl) se_int (fun _ _ => rfl)) (se_str (sg_cps "fact") (by decide +kernel)) rfl) (sw_or (st_not (st_tru (se_isi (se_ix (ixG.or (ixG_D hu9)) (se_var (i := 2) rfl (by first | exact Or.inl rfl | exact Or.inr (Or.inl rfl) | exact Or.inr (Or.inr rfl)) rfl rfl) se_int (fun _ _ => rfl)) k_tuple rfl T.b_isinstance rfl T.b_tuple (by decide +kernel) (by decide) rfl rfl) (fun _ => rfl))) (sw_or (st_cmp (opG_ne hu65) (se_fnB fn_len rfl T.b_len (by decide +kernel) (sa_cons (se_ix (ixG.or (ixG_D hu9)) (se_var (i := 2) rfl (by first | exact Or.inl rfl | exact Or.inr (Or.inl rfl) | exact Or.inr (Or.inr rfl)) rfl rfl) se_int (fun _ _ => rfl)) sa_nil rfl) (by decide) rfl rfl rfl) se_int rfl) (sw_or1 (st_tru (se_isi (se_ix (ixG.or (ixG_D hu9)) (se_ix (ixG.or (ixG_D hu9)) (se_var (i := 2) rfl (by first | exact Or.inl rfl | exact Or.inr (Or.inl rfl) | exact Or.inr (Or.inr rfl)) rfl rfl) se_int (fun _ _ => rfl)) se_int (fun _ _ => rfl)) k_bool rfl T.b_isinstance rfl T.b_bool (by decide +kernel) (by decide) rfl rfl) (fun _ => rfl)))))))
  (sss_one (ss_ret se_bl))
  sss_nil)
  (sss_one (ss_ret (se_cmp (opG_eq hu65) (se_ix (ixG.or (ixG_D hu9)) (se_var (i := 2) rfl (by first | exact Or.inl rfl | exact Or.inr (Or.inl rfl) | exact Or.inr (Or.inr rfl)) rfl rfl) se_int (fun _ _ => rfl)) (se_ix (ixG.or (ixG_D hu9)) (se_var (i := 1) rfl (by first | exact Or.inl rfl | exact Or.inr (Or.inl rfl) | exact Or.inr (Or.inr rfl)) rfl rfl) se_int (fun _ _ => rfl)) rfl))))))
theorem ok__law_right {a__law_told : Addr} {d__law_told : FuncData} (G__law_told : Cal .o P w K mg base c "_law_told" a__law_told d__law_told 5 ["_law_text"] F__law_told 1) (T : Txt w K mg) {f : Addr} {fd : FuncData} (D : Fun K "_law_right" "_law_right" s__law_right f fd) (hm : mg "_law_right" = some (.ref f)) (hb : Binds K fd ["_law_text", "_law_due"] []) : Cal .o P w K mg base c "_law_right" f fd 6 ["_law_text", "_law_due"] F__law_right 2 :=
  ⟨fn_okD D sc__law_right rfl rfl fun cdv A outer s H E hr => dv__law_right G__law_told T cdv A outer s H E hr, fun s => okF_of (dv__law_right (P := P) (w := w) (base := base) (c := c) (f := f) G__law_told T .none callerA [] s (fun _ => none) (fun _ _ _ => False) (room_caller (by decide))).ok, hm, D.kp, hb⟩
/-! ### _law_has_only -/
abbrev s__law_has_only : Stmt := top 24
abbrev N__law_has_only : List Str := ["_law_text", "_law_signs", "_law_sign"]
theorem sc__law_has_only : FnScope N__law_has_only ["_law_text", "_law_signs"] (defScope s__law_has_only) := ⟨rfl, rfl, rfl, by decide +kernel, rfl, by decide +kernel, by decide +kernel⟩
def B__law_has_only : SemS :=
  (sRet (eOp gEq (eComp (l1 (eVar 0)) itSeq (tgN 2) [2] (tBl (eOp (orG gNotIn gNotInD) (eVar 2) (eVar 1))) (eVar 2)) (eLst lNil)))
def F__law_has_only : Fn := fnOf 3 B__law_has_only
theorem dv__law_has_only  (T : Txt w K mg) {f : Addr} (cdv : Value) (A : Around) (outer : List PySem.Env) (s : Shared) (H : Hp) (E : XK) (hr : Room 0 (A.deeper (PyProof.Rows.envOfC "_law_has_only" (defScope s__law_has_only) s.heap.objs.size f cdv))) :
    SSs (cxOf (CXm m P w) P w K mg base N__law_has_only "_law_has_only" (defScope s__law_has_only) f cdv A outer s H E) c (fun cls d _ H => E cls d H) (defBody s__law_has_only) B__law_has_only :=
  have hu65 : (A.deeper (PyProof.Rows.envOfC "_law_has_only" (defScope s__law_has_only) s.heap.objs.size f cdv)).units + 65 < cLine := by have := hr.un; omega
  have hu9 : (A.deeper (PyProof.Rows.envOfC "_law_has_only" (defScope s__law_has_only) s.heap.objs.size f cdv)).units + 9 < cLine := by omega
  have nd := sc__law_has_only.nd
  (sss_one (ss_ret (se_cmp (opG_eq hu65) (se_comp (own := [("_law_sign", 2)]) (is := [2]) (qt := (TT' w K c W0 (tBl (eOp (orG gNotIn gNotInD) (eVar 2) (eVar 1))))) rfl nd (si_any (se_var (i := 0) rfl (by first | exact Or.inl rfl | exact Or.inr (Or.inl rfl) | exact Or.inr (Or.inr rfl)) rfl rfl)) (blkOk_by (by with_unfolding_all rfl)) rfl (fun _ _ _ _ _ => (sg_name nd (i := 2) rfl (by first | exact Or.inl rfl | exact Or.inr rfl) (by first | exact Or.inl rfl | exact Or.inr rfl))) (fun _ _ _ _ _ => (SIf.one (st_cmp ((opG_notin hu65).or (opG_notinD hu9)) (se_var (i := 2) rfl (by first | exact Or.inl rfl | exact Or.inr (Or.inl rfl) | exact Or.inr (Or.inr rfl)) rfl rfl) (se_var (i := 1) rfl (by first | exact Or.inl rfl | exact Or.inr (Or.inl rfl) | exact Or.inr (Or.inr rfl)) rfl rfl) rfl))) (fun _ _ _ _ _ => (se_var (i := 2) rfl (by first | exact Or.inl rfl | exact Or.inr (Or.inl rfl) | exact Or.inr (Or.inr rfl)) rfl rfl)) (fun _ => rfl) s 0) (se_lst sa_nil (by decide)) rfl)))
theorem ok__law_has_only  (T : Txt w K mg) {f : Addr} {fd : FuncData} (D : Fun K "_law_has_only" "_law_has_only" s__law_has_only f fd) (hm : mg "_law_has_only" = some (.ref f)) (hb : Binds K fd ["_law_text", "_law_signs"] []) : Cal m P w K mg base c "_law_has_only" f fd 1 ["_law_text", "_law_signs"] F__law_has_only 2 :=
  ⟨fn_okD D sc__law_has_only rfl rfl fun cdv A outer s H E hr => dv__law_has_only  T cdv A outer s H E hr, fun s => okF_of (dv__law_has_only (m := m) (P := P) (w := w) (base := base) (c := c) (f := f)  T .none callerA [] s (fun _ => none) (fun _ _ _ => False) (room_caller (by decide))).ok, hm, D.kp, hb⟩
/-! ### _law_name -/
abbrev s__law_name : Stmt := top 25
abbrev N__law_name : List Str := ["_law_text"]
theorem sc__law_name : FnScope N__law_name ["_law_text"] (defScope s__law_name) := ⟨rfl, rfl, rfl, by decide +kernel, rfl, by decide +kernel, by decide +kernel⟩
def B__law_name : SemS :=
  (sRet (eAn (eChain gLe gLe (eCon (.int 1)) (eFn (g1 gLen) (lCons (eVar 0) lNil)) (eCon (.int 8))) (eCall F__law_has_only (lCons (eVar 0) (lCons (eCon (.str (sg "abcdefghijklmnopqrstuvwxyz"))) lNil)))))
def F__law_name : Fn := fnOf 1 B__law_name
theorem dv__law_name {a__law_has_only : Addr} {d__law_has_only : FuncData} (G__law_has_only : Cal m P w K mg base c "_law_has_only" a__law_has_only d__law_has_only 1 ["_law_text", "_law_signs"] F__law_has_only 2) (T : Txt w K mg) {f : Addr} (cdv : Value) (A : Around) (outer : List PySem.Env) (s : Shared) (H : Hp) (E : XK) (hr : Room 1 (A.deeper (PyProof.Rows.envOfC "_law_name" (defScope s__law_name) s.heap.objs.size f cdv))) :
    SSs (cxOf (CXm m P w) P w K mg base N__law_name "_law_name" (defScope s__law_name) f cdv A outer s H E) c (fun cls d _ H => E cls d H) (defBody s__law_name) B__law_name :=
  have hu65 : (A.deeper (PyProof.Rows.envOfC "_law_name" (defScope s__law_name) s.heap.objs.size f cdv)).units + 65 < cLine := by have := hr.un; omega
  have hu9 : (A.deeper (PyProof.Rows.envOfC "_law_name" (defScope s__law_name) s.heap.objs.size f cdv)).units + 9 < cLine := by omega
  have nd := sc__law_name.nd
  (sss_one (ss_ret (se_and (se_chain opG_le opG_le se_int (se_fnB fn_len rfl T.b_len (by decide +kernel) (sa_cons (se_var (i := 0) rfl (by first | exact Or.inl rfl | exact Or.inr (Or.inl rfl) | exact Or.inr (Or.inr rfl)) rfl rfl) sa_nil rfl) (by decide) rfl rfl rfl) se_int rfl) (se_and1 (se_call G__law_has_only.ok (G__law_has_only.okx s) (hr.mono (j := 1) (by decide)) rfl G__law_has_only.mg G__law_has_only.kp G__law_has_only.bd takesD (sa_cons (se_var (i := 0) rfl (by first | exact Or.inl rfl | exact Or.inr (Or.inl rfl) | exact Or.inr (Or.inr rfl)) rfl rfl) (sa_cons (se_str (sg_cps "abcdefghijklmnopqrstuvwxyz") (by decide +kernel)) sa_nil rfl) rfl) rfl rfl rfl rfl)))))
theorem ok__law_name {a__law_has_only : Addr} {d__law_has_only : FuncData} (G__law_has_only : Cal m P w K mg base c "_law_has_only" a__law_has_only d__law_has_only 1 ["_law_text", "_law_signs"] F__law_has_only 2) (T : Txt w K mg) {f : Addr} {fd : FuncData} (D : Fun K "_law_name" "_law_name" s__law_name f fd) (hm : mg "_law_name" = some (.ref f)) (hb : Binds K fd ["_law_text"] []) : Cal m P w K mg base c "_law_name" f fd 2 ["_law_text"] F__law_name 1 :=
  ⟨fn_okD D sc__law_name rfl rfl fun cdv A outer s H E hr => dv__law_name G__law_has_only T cdv A outer s H E hr, fun s => okF_of (dv__law_name (m := m) (P := P) (w := w) (base := base) (c := c) (f := f) G__law_has_only T .none callerA [] s (fun _ => none) (fun _ _ _ => False) (room_caller (by decide))).ok, hm, D.kp, hb⟩
/-! ### _law_end_read -/
abbrev s__law_end_read : Stmt := top 26
abbrev N__law_end_read : List Str := ["_law_text", "_law_body", "_law_n", "_law_sign"]
theorem sc__law_end_read : FnScope N__law_end_read ["_law_text"] (defScope s__law_end_read) := ⟨rfl, rfl, rfl, by decide +kernel, rfl, by decide +kernel, by decide +kernel⟩
def B__law_end_read : SemS :=
  (sSeq (sIf (tTru (eCall F__law_name (lCons (eVar 0) lNil)))
  (sRet (eLst (lCons (eVar 0) lNil)))
  sNil)
  (sSeq (sIf (tBl (eOp gEq (eSl (eVar 0) none (some (eCon (.int 1)))) (eCon (.str (sg "'")))))
  (sRet (eOp gMulR (eLst (lCons (eTup (lCons (eSl (eVar 0) (some (eCon (.int 1))) none) lNil)) lNil)) (eFn (orF (g1 gInt) (g1 gIntT)) (lCons (eOr (eOp gEq (eVar 0) (eCon (.str (sg "'")))) (eCall F__law_name (lCons (eSl (eVar 0) (some (eCon (.int 1))) none) lNil))) lNil))))
  sNil)
  (sSeq (sSet 1 (eSl (eVar 0) (some (eFn (orF (g1 gInt) (g1 gIntT)) (lCons (eOp gEq (eSl (eVar 0) none (some (eCon (.int 1)))) (eCon (.str (sg "-")))) lNil))) none))
  (sSeq (sIf (tOr' (tBl (eOp gEq (eVar 1) (eCon (.str (sg ""))))) (tOr' (tBl (eOp gGt (eFn (g1 gLen) (lCons (eVar 1) lNil)) (eCon (.int 30)))) (tNt (tTru (eCall F__law_has_only (lCons (eVar 1) (lCons (eCon (.str (sg "0123456789"))) lNil)))))))
  (sRet (eLst lNil))
  sNil)
  (sSeq (sIf (tAn (tBl (eOp gEq (eOp (orG gIx gIxD) (eVar 1) (eCon (.int 0))) (eCon (.str (sg "0"))))) (tBl (eOp gNe (eVar 0) (eCon (.str (sg "0"))))))
  (sRet (eLst lNil))
  sNil)
  (sSeq (sSet 2 (eCon (.int 0)))
  (sSeq (sFor (l1 (eVar 1)) itSeq (tgN 3)
  (sSet 2 (eOp gAdd (eOp gMul (eCon (.int 10)) (eVar 2)) (eMet "str" gIndexS (eCon (.str (sg "0123456789"))) (lCons (eVar 3) lNil)))))
  (sRet (eLst (lCons (eOp (orG gIx gIxD) (eLst (lCons (eVar 2) (lCons (eOp gSub (eCon (.int 0)) (eVar 2)) lNil))) (eFn (orF (g1 gInt) (g1 gIntT)) (lCons (eOp gEq (eSl (eVar 0) none (some (eCon (.int 1)))) (eCon (.str (sg "-")))) lNil))) lNil))))))))))
def F__law_end_read : Fn := fnOf 4 B__law_end_read
theorem dv__law_end_read {a__law_name : Addr} {d__law_name : FuncData} (G__law_name : Cal m P w K mg base c "_law_name" a__law_name d__law_name 2 ["_law_text"] F__law_name 1) {a__law_has_only : Addr} {d__law_has_only : FuncData} (G__law_has_only : Cal m P w K mg base c "_law_has_only" a__law_has_only d__law_has_only 1 ["_law_text", "_law_signs"] F__law_has_only 2) (T : Txt w K mg) {f : Addr} (cdv : Value) (A : Around) (outer : List PySem.Env) (s : Shared) (H : Hp) (E : XK) (hr : Room 2 (A.deeper (PyProof.Rows.envOfC "_law_end_read" (defScope s__law_end_read) s.heap.objs.size f cdv))) :
    SSs (cxOf (CXm m P w) P w K mg base N__law_end_read "_law_end_read" (defScope s__law_end_read) f cdv A outer s H E) c (fun cls d _ H => E cls d H) (defBody s__law_end_read) B__law_end_read :=
  have hu65 : (A.deeper (PyProof.Rows.envOfC "_law_end_read" (defScope s__law_end_read) s.heap.objs.size f cdv)).units + 65 < cLine := by have := hr.un; omega
  have hu9 : (A.deeper (PyProof.Rows.envOfC "_law_end_read" (defScope s__law_end_read) s.heap.objs.size f cdv)).units + 9 < cLine := by omega
  have nd := sc__law_end_read.nd
  (sss_cons (ss_if (st_tru (se_call G__law_name.ok (G__law_name.okx s) (hr.mono (j := 2) (by decide)) rfl G__law_name.mg G__law_name.kp G__law_name.bd takesD (sa_cons (se_var (i := 0) rfl (by first | exact Or.inl rfl | exact Or.inr (Or.inl rfl) | exact Or.inr (Or.inr rfl)) rfl rfl) sa_nil rfl) rfl rfl rfl rfl) (fun _ => rfl))
  (sss_one (ss_ret (se_lst (sa_cons (se_var (i := 0) rfl (by first | exact Or.inl rfl | exact Or.inr (Or.inl rfl) | exact Or.inr (Or.inr rfl)) rfl rfl) sa_nil rfl) (by decide))))
  sss_nil)
  (sss_cons (ss_if (st_cmp (opG_eq hu65) (se_slice (se_var (i := 0) rfl (by first | exact Or.inl rfl | exact Or.inr (Or.inl rfl) | exact Or.inr (Or.inr rfl)) rfl rfl) so_none (so_some se_int)) (se_str (sg_cps "'") (by decide +kernel)) rfl)
  (sss_one (ss_ret (se_op opG_mulR (se_lst (sa_cons (se_tup (sa_cons (se_slice (se_var (i := 0) rfl (by first | exact Or.inl rfl | exact Or.inr (Or.inl rfl) | exact Or.inr (Or.inr rfl)) rfl rfl) (so_some se_int) so_none) sa_nil rfl) (by decide)) sa_nil rfl) (by decide)) (se_fnT fn_int2 rfl T.b_int (by decide +kernel) (sa_cons (se_or (se_cmp (opG_eq hu65) (se_var (i := 0) rfl (by first | exact Or.inl rfl | exact Or.inr (Or.inl rfl) | exact Or.inr (Or.inr rfl)) rfl rfl) (se_str (sg_cps "'") (by decide +kernel)) rfl) (se_and1 (se_call G__law_name.ok (G__law_name.okx s) (hr.mono (j := 2) (by decide)) rfl G__law_name.mg G__law_name.kp G__law_name.bd takesD (sa_cons (se_slice (se_var (i := 0) rfl (by first | exact Or.inl rfl | exact Or.inr (Or.inl rfl) | exact Or.inr (Or.inr rfl)) rfl rfl) (so_some se_int) so_none) sa_nil rfl) rfl rfl rfl rfl))) sa_nil rfl) (by decide) rfl rfl rfl))))
  sss_nil)
  (sss_cons (ss_set nd (i := 1) rfl (by first | exact Or.inl rfl | exact Or.inr rfl) (se_slice (se_var (i := 0) rfl (by first | exact Or.inl rfl | exact Or.inr (Or.inl rfl) | exact Or.inr (Or.inr rfl)) rfl rfl) (so_some (se_fnT fn_int2 rfl T.b_int (by decide +kernel) (sa_cons (se_cmp (opG_eq hu65) (se_slice (se_var (i := 0) rfl (by first | exact Or.inl rfl | exact Or.inr (Or.inl rfl) | exact Or.inr (Or.inr rfl)) rfl rfl) so_none (so_some se_int)) (se_str (sg_cps "-") (by decide +kernel)) rfl) sa_nil rfl) (by decide) rfl rfl rfl)) so_none) rfl (by first | exact Or.inl rfl | exact Or.inr rfl))
  (sss_cons (ss_if (SW.st (sw_or (st_cmp (opG_eq hu65) (se_var (i := 1) rfl (by first | exact Or.inl rfl | exact Or.inr (Or.inl rfl) | exact Or.inr (Or.inr rfl)) rfl rfl) (se_str (sg_cps "") (by decide +kernel)) rfl) (sw_or (st_cmp opG_gt (se_fnB fn_len rfl T.b_len (by decide +kernel) (sa_cons (se_var (i := 1) rfl (by first | exact Or.inl rfl | exact Or.inr (Or.inl rfl) | exact Or.inr (Or.inr rfl)) rfl rfl) sa_nil rfl) (by decide) rfl rfl rfl) se_int rfl) (sw_or1 (st_not (st_tru (se_call G__law_has_only.ok (G__law_has_only.okx s) (hr.mono (j := 1) (by decide)) rfl G__law_has_only.mg G__law_has_only.kp G__law_has_only.bd takesD (sa_cons (se_var (i := 1) rfl (by first | exact Or.inl rfl | exact Or.inr (Or.inl rfl) | exact Or.inr (Or.inr rfl)) rfl rfl) (sa_cons (se_str (sg_cps "0123456789") (by decide +kernel)) sa_nil rfl) rfl) rfl rfl rfl rfl) (fun _ => rfl)))))))
  (sss_one (ss_ret (se_lst sa_nil (by decide))))
  sss_nil)
  (sss_cons (ss_if (SW.st (sw_and (st_cmp (opG_eq hu65) (se_ix (ixG.or (ixG_D hu9)) (se_var (i := 1) rfl (by first | exact Or.inl rfl | exact Or.inr (Or.inl rfl) | exact Or.inr (Or.inr rfl)) rfl rfl) se_int (fun _ _ => rfl)) (se_str (sg_cps "0") (by decide +kernel)) rfl) (sw_and1 (st_cmp (opG_ne hu65) (se_var (i := 0) rfl (by first | exact Or.inl rfl | exact Or.inr (Or.inl rfl) | exact Or.inr (Or.inr rfl)) rfl rfl) (se_str (sg_cps "0") (by decide +kernel)) rfl))))
  (sss_one (ss_ret (se_lst sa_nil (by decide))))
  sss_nil)
  (sss_cons (ss_set nd (i := 2) rfl (by first | exact Or.inl rfl | exact Or.inr rfl) se_int rfl (by first | exact Or.inl rfl | exact Or.inr rfl))
  (sss_cons (ss_for passesD rfl (si_any (se_var (i := 1) rfl (by first | exact Or.inl rfl | exact Or.inr (Or.inl rfl) | exact Or.inr (Or.inr rfl)) rfl rfl)) (sg_name nd (i := 3) rfl (by first | exact Or.inl rfl | exact Or.inr rfl) (by first | exact Or.inl rfl | exact Or.inr rfl))
  (sss_one (ss_set nd (i := 2) rfl (by first | exact Or.inl rfl | exact Or.inr rfl) (se_op opG_add (se_op opG_mul se_int (se_var (i := 2) rfl (by first | exact Or.inl rfl | exact Or.inr (Or.inl rfl) | exact Or.inr (Or.inr rfl)) rfl rfl)) (se_met met_indexS PySem.F.plainAttrs_str PySem.F.slot_str_index PySem.F.type_str_index (se_str (sg_cps "0123456789") (by decide +kernel)) (sa_cons (se_var (i := 3) rfl (by first | exact Or.inl rfl | exact Or.inr (Or.inl rfl) | exact Or.inr (Or.inr rfl)) rfl rfl) sa_nil rfl) ⟨rfl, rfl, rfl⟩ rfl rfl)) rfl (by first | exact Or.inl rfl | exact Or.inr rfl))) (fun _ => rfl))
  (sss_one (ss_ret (se_lst (sa_cons (se_ix (ixG.or (ixG_D hu9)) (se_lst (sa_cons (se_var (i := 2) rfl (by first | exact Or.inl rfl | exact Or.inr (Or.inl rfl) | exact Or.inr (Or.inr rfl)) rfl rfl) (sa_cons (se_op opG_sub se_int (se_var (i := 2) rfl (by first | exact Or.inl rfl | exact Or.inr (Or.inl rfl) | exact Or.inr (Or.inr rfl)) rfl rfl)) sa_nil rfl) rfl) (by decide)) (se_fnT fn_int2 rfl T.b_int (by decide +kernel) (sa_cons (se_cmp (opG_eq hu65) (se_slice (se_var (i := 0) rfl (by first | exact Or.inl rfl | exact Or.inr (Or.inl rfl) | exact Or.inr (Or.inr rfl)) rfl rfl) so_none (so_some se_int)) (se_str (sg_cps "-") (by decide +kernel)) rfl) sa_nil rfl) (by decide) rfl rfl rfl) (fun _ _ => rfl)) sa_nil rfl) (by decide)))))))))))
theorem ok__law_end_read {a__law_name : Addr} {d__law_name : FuncData} (G__law_name : Cal m P w K mg base c "_law_name" a__law_name d__law_name 2 ["_law_text"] F__law_name 1) {a__law_has_only : Addr} {d__law_has_only : FuncData} (G__law_has_only : Cal m P w K mg base c "_law_has_only" a__law_has_only d__law_has_only 1 ["_law_text", "_law_signs"] F__law_has_only 2) (T : Txt w K mg) {f : Addr} {fd : FuncData} (D : Fun K "_law_end_read" "_law_end_read" s__law_end_read f fd) (hm : mg "_law_end_read" = some (.ref f)) (hb : Binds K fd ["_law_text"] []) : Cal m P w K mg base c "_law_end_read" f fd 3 ["_law_text"] F__law_end_read 1 :=
  ⟨fn_okD D sc__law_end_read rfl rfl fun cdv A outer s H E hr => dv__law_end_read G__law_name G__law_has_only T cdv A outer s H E hr, fun s => okF_of (dv__law_end_read (m := m) (P := P) (w := w) (base := base) (c := c) (f := f) G__law_name G__law_has_only T .none callerA [] s (fun _ => none) (fun _ _ _ => False) (room_caller (by decide))).ok, hm, D.kp, hb⟩
/-! ### _law_read -/
abbrev s__law_read : Stmt := top 27
abbrev N__law_read : List Str := ["_law_text", "_law_words", "_law_node_here"]
theorem sc__law_read : FnScope N__law_read ["_law_text"] (defScope s__law_read) := ⟨rfl, rfl, rfl, by decide +kernel, rfl, by decide +kernel, by decide +kernel⟩
def B__law_read : SemS :=
  (sSeq (sSet 1 (eMet "str" gSplit (eVar 0) (lCons (eCon (.str (sg " "))) lNil)))
  (sSeq (sIf (tOr' (tBl (eOp gNe (eFn (g1 gLen) (lCons (eVar 1) lNil)) (eCon (.int 3)))) (tOr' (tNt (tTru (eCall F__law_name (lCons (eOp (orG gIx gIxD) (eVar 1) (eCon (.int 0))) lNil)))) (tNt (tTru (eCall F__law_name (lCons (eOp (orG gIx gIxD) (eVar 1) (eCon (.int 1))) lNil))))))
  (sRet (eLst lNil))
  sNil)
  (sRet (eComp (l1 (eCall F__law_end_read (lCons (eOp (orG gIx gIxD) (eVar 1) (eCon (.int 2))) lNil))) itSeq (tgN 2) [2] (fun ρ => .ok true ρ) (eTup (lCons (eOp (orG gIx gIxD) (eVar 1) (eCon (.int 0))) (lCons (eOp (orG gIx gIxD) (eVar 1) (eCon (.int 1))) (lCons (eVar 2) lNil))))))))
def F__law_read : Fn := fnOf 3 B__law_read
theorem dv__law_read {a__law_name : Addr} {d__law_name : FuncData} (G__law_name : Cal m P w K mg base c "_law_name" a__law_name d__law_name 2 ["_law_text"] F__law_name 1) {a__law_end_read : Addr} {d__law_end_read : FuncData} (G__law_end_read : Cal m P w K mg base c "_law_end_read" a__law_end_read d__law_end_read 3 ["_law_text"] F__law_end_read 1) (T : Txt w K mg) {f : Addr} (cdv : Value) (A : Around) (outer : List PySem.Env) (s : Shared) (H : Hp) (E : XK) (hr : Room 3 (A.deeper (PyProof.Rows.envOfC "_law_read" (defScope s__law_read) s.heap.objs.size f cdv))) :
    SSs (cxOf (CXm m P w) P w K mg base N__law_read "_law_read" (defScope s__law_read) f cdv A outer s H E) c (fun cls d _ H => E cls d H) (defBody s__law_read) B__law_read :=
  have hu65 : (A.deeper (PyProof.Rows.envOfC "_law_read" (defScope s__law_read) s.heap.objs.size f cdv)).units + 65 < cLine := by have := hr.un; omega
  have hu9 : (A.deeper (PyProof.Rows.envOfC "_law_read" (defScope s__law_read) s.heap.objs.size f cdv)).units + 9 < cLine := by omega
  have nd := sc__law_read.nd
  (sss_cons (ss_set nd (i := 1) rfl (by first | exact Or.inl rfl | exact Or.inr rfl) (se_met met_split PySem.F.plainAttrs_str PySem.F.slot_str_split PySem.F.type_str_split (se_var (i := 0) rfl (by first | exact Or.inl rfl | exact Or.inr (Or.inl rfl) | exact Or.inr (Or.inr rfl)) rfl rfl) (sa_cons (se_str (sg_cps " ") (by decide +kernel)) sa_nil rfl) ⟨rfl, rfl, rfl⟩ rfl rfl) rfl (by first | exact Or.inl rfl | exact Or.inr rfl))
  (sss_cons (ss_if (SW.st (sw_or (st_cmp (opG_ne hu65) (se_fnB fn_len rfl T.b_len (by decide +kernel) (sa_cons (se_var (i := 1) rfl (by first | exact Or.inl rfl | exact Or.inr (Or.inl rfl) | exact Or.inr (Or.inr rfl)) rfl rfl) sa_nil rfl) (by decide) rfl rfl rfl) se_int rfl) (sw_or (st_not (st_tru (se_call G__law_name.ok (G__law_name.okx s) (hr.mono (j := 2) (by decide)) rfl G__law_name.mg G__law_name.kp G__law_name.bd takesD (sa_cons (se_ix (ixG.or (ixG_D hu9)) (se_var (i := 1) rfl (by first | exact Or.inl rfl | exact Or.inr (Or.inl rfl) | exact Or.inr (Or.inr rfl)) rfl rfl) se_int (fun _ _ => rfl)) sa_nil rfl) rfl rfl rfl rfl) (fun _ => rfl))) (sw_or1 (st_not (st_tru (se_call G__law_name.ok (G__law_name.okx s) (hr.mono (j := 2) (by decide)) rfl G__law_name.mg G__law_name.kp G__law_name.bd takesD (sa_cons (se_ix (ixG.or (ixG_D hu9)) (se_var (i := 1) rfl (by first | exact Or.inl rfl | exact Or.inr (Or.inl rfl) | exact Or.inr (Or.inr rfl)) rfl rfl) se_int (fun _ _ => rfl)) sa_nil rfl) rfl rfl rfl rfl) (fun _ => rfl)))))))
  (sss_one (ss_ret (se_lst sa_nil (by decide))))
  sss_nil)
  (sss_one (ss_ret (se_comp (own := [("_law_node_here", 2)]) (is := [2]) (qt := tYes) rfl nd (si_any (se_call G__law_end_read.ok (G__law_end_read.okx s) (hr.mono (j := 3) (by decide)) rfl G__law_end_read.mg G__law_end_read.kp G__law_end_read.bd takesD (sa_cons (se_ix (ixG.or (ixG_D hu9)) (se_var (i := 1) rfl (by first | exact Or.inl rfl | exact Or.inr (Or.inl rfl) | exact Or.inr (Or.inr rfl)) rfl rfl) se_int (fun _ _ => rfl)) sa_nil rfl) rfl rfl rfl rfl)) (blkOk_by (by with_unfolding_all rfl)) rfl (fun _ _ _ _ _ => (sg_name nd (i := 2) rfl (by first | exact Or.inl rfl | exact Or.inr rfl) (by first | exact Or.inl rfl | exact Or.inr rfl))) (fun _ _ _ _ _ => SIf.none) (fun _ _ _ _ _ => (se_tup (sa_cons (se_ix (ixG.or (ixG_D hu9)) (se_var (i := 1) rfl (by first | exact Or.inl rfl | exact Or.inr (Or.inl rfl) | exact Or.inr (Or.inr rfl)) rfl rfl) se_int (fun _ _ => rfl)) (sa_cons (se_ix (ixG.or (ixG_D hu9)) (se_var (i := 1) rfl (by first | exact Or.inl rfl | exact Or.inr (Or.inl rfl) | exact Or.inr (Or.inr rfl)) rfl rfl) se_int (fun _ _ => rfl)) (sa_cons (se_var (i := 2) rfl (by first | exact Or.inl rfl | exact Or.inr (Or.inl rfl) | exact Or.inr (Or.inr rfl)) rfl rfl) sa_nil rfl) rfl) rfl) (by decide))) (fun _ => rfl) s 0)))))
theorem ok__law_read {a__law_name : Addr} {d__law_name : FuncData} (G__law_name : Cal m P w K mg base c "_law_name" a__law_name d__law_name 2 ["_law_text"] F__law_name 1) {a__law_end_read : Addr} {d__law_end_read : FuncData} (G__law_end_read : Cal m P w K mg base c "_law_end_read" a__law_end_read d__law_end_read 3 ["_law_text"] F__law_end_read 1) (T : Txt w K mg) {f : Addr} {fd : FuncData} (D : Fun K "_law_read" "_law_read" s__law_read f fd) (hm : mg "_law_read" = some (.ref f)) (hb : Binds K fd ["_law_text"] []) : Cal m P w K mg base c "_law_read" f fd 4 ["_law_text"] F__law_read 1 :=
  ⟨fn_okD D sc__law_read rfl rfl fun cdv A outer s H E hr => dv__law_read G__law_name G__law_end_read T cdv A outer s H E hr, fun s => okF_of (dv__law_read (m := m) (P := P) (w := w) (base := base) (c := c) (f := f) G__law_name G__law_end_read T .none callerA [] s (fun _ => none) (fun _ _ _ => False) (room_caller (by decide))).ok, hm, D.kp, hb⟩
/-! ### law -/
abbrev s_law : Stmt := top 31
abbrev N_law : List Str := ["_law_script", "_law_pen_here", "_law_texts", "_law_k", "_law_fact", "_law_text", "_law_found", "_law_thing"]
theorem sc_law : FnScope N_law ["_law_script"] (defScope s_law) := ⟨rfl, rfl, rfl, by decide +kernel, rfl, by decide +kernel, by decide +kernel⟩
def B_law : SemS :=
  (sSeq (sSet 1 (eCall F__law_pen (lCons (eVar 0) lNil)))
  (sSeq (sSet 2 (eLst lNil))
  (sSeq (sFor (lCons (eOp gAdd (eCon (.int 1)) (eCall F__law_take (lCons (eVar 1) (lCons (eCon (.int 12)) lNil)))) lNil) itRange1 (tgN 3)
  (sSeq (sSet 4 (eTup (lCons (eCall F__law_word (lCons (eVar 1) (lCons (eOp gAdd (eCon (.int 1)) (eCall F__law_take (lCons (eVar 1) (lCons (eCon (.int 8)) lNil)))) lNil))) (lCons (eCall F__law_word (lCons (eVar 1) (lCons (eOp gAdd (eCon (.int 1)) (eCall F__law_take (lCons (eVar 1) (lCons (eCon (.int 8)) lNil)))) lNil))) (lCons (eCall F__law_node (lCons (eVar 1) lNil)) lNil)))))
  (sSeq (sSet 5 (eOp gAdd (eOp gAdd (eOp gAdd (eOp gAdd (eOp (orG gIx gIxD) (eVar 4) (eCon (.int 0))) (eCon (.str (sg " ")))) (eOp (orG gIx gIxD) (eVar 4) (eCon (.int 1)))) (eCon (.str (sg " ")))) (eCall F__law_end (lCons (eOp (orG gIx gIxD) (eVar 4) (eCon (.int 2))) lNil))))
  (sSeq (sSet 6 (eCall F_show_fact (lCons (eVar 4) lNil)))
  (sSeq (sIf (tOr' (tNt (tTru (eUn (gIsi "str") (eVar 6)))) (tOr' (tBl (eOp gNe (eVar 6) (eVar 5))) (tNt (tTru (eCall F__law_right (lCons (eVar 5) (lCons (eLst (lCons (eVar 4) lNil)) lNil)))))))
  (sRet (eCon (.bl false)))
  sNil)
  (sExp (eMut "list" gAppend (eVar 2) (lCons (eVar 5) lNil))))))))
  (sSeq (sFor (lCons (eOp gAdd (eCon (.int 4)) (eCall F__law_take (lCons (eVar 1) (lCons (eCon (.int 17)) lNil)))) lNil) itRange1 (tgN 3)
  (sSeq (sSet 5 (eCall F__law_changed (lCons (eVar 1) (lCons (eOp (orG gIx gIxD) (eVar 2) (eCall F__law_take (lCons (eVar 1) (lCons (eFn (g1 gLen) (lCons (eVar 2) lNil)) lNil)))) lNil))))
  (sIf (tNt (tTru (eCall F__law_right (lCons (eVar 5) (lCons (eCall F__law_read (lCons (eVar 5) lNil)) lNil)))))
  (sRet (eCon (.bl false)))
  sNil)))
  (sSeq (sFor (l1 (eLst (lCons (eCon .non) (lCons (eCon (.int 5)) (lCons (eCon (.bl true)) (lCons (eTup (lCons (eCon (.str (sg "a"))) (lCons (eCon (.str (sg "b"))) (lCons (eCon (.int 1)) lNil)))) (lCons (eLst (lCons (eCon (.str (sg "a b 1"))) lNil)) (lCons eDct0 lNil)))))))) itSeq (tgN 7)
  (sIf (tNt (tTru (eCall F__law_right (lCons (eVar 7) (lCons (eLst lNil) lNil)))))
  (sRet (eCon (.bl false)))
  sNil))
  (sRet (eCon (.bl true))))))))
def F_law : Fn := fnOf 8 B_law
theorem dv_law {a__law_pen : Addr} {d__law_pen : FuncData} (G__law_pen : Cal .o P w K mg base c "_law_pen" a__law_pen d__law_pen 1 ["_law_script"] F__law_pen 1) {a_show_fact : Addr} {d_show_fact : FuncData} (G_show_fact : Cal .o P w K mg base c "show_fact" a_show_fact d_show_fact 2 ["fact"] F_show_fact 1) {a__law_changed : Addr} {d__law_changed : FuncData} (G__law_changed : Cal .o P w K mg base c "_law_changed" a__law_changed d__law_changed 2 ["_law_pen_here", "_law_text"] F__law_changed 2) {a__law_take : Addr} {d__law_take : FuncData} (G__law_take : Cal .o P w K mg base c "_law_take" a__law_take d__law_take 1 ["_law_pen_here", "_law_most"] F__law_take 2) {a__law_word : Addr} {d__law_word : FuncData} (G__law_word : Cal .o P w K mg base c "_law_word" a__law_word d__law_word 2 ["_law_pen_here", "_law_many"] F__law_word 2) {a__law_node : Addr} {d__law_node : FuncData} (G__law_node : Cal .o P w K mg base c "_law_node" a__law_node d__law_node 3 ["_law_pen_here"] F__law_node 1) {a__law_end : Addr} {d__law_end : FuncData} (G__law_end : Cal .o P w K mg base c "_law_end" a__law_end d__law_end 1 ["_law_node_here"] F__law_end 1) {a__law_right : Addr} {d__law_right : FuncData} (G__law_right : Cal .o P w K mg base c "_law_right" a__law_right d__law_right 6 ["_law_text", "_law_due"] F__law_right 2) {a__law_read : Addr} {d__law_read : FuncData} (G__law_read : Cal .o P w K mg base c "_law_read" a__law_read d__law_read 4 ["_law_text"] F__law_read 1) (T : Txt w K mg) {f : Addr} (cdv : Value) (A : Around) (outer : List PySem.Env) (s : Shared) (H : Hp) (E : XK) (hr : Room 6 (A.deeper (PyProof.Rows.envOfC "law" (defScope s_law) s.heap.objs.size f cdv))) :
    SSs (cxOf (CXm .o P w) P w K mg base N_law "law" (defScope s_law) f cdv A outer s H E) c (fun cls d _ H => E cls d H) (defBody s_law) B_law :=
  have hu65 : (A.deeper (PyProof.Rows.envOfC "law" (defScope s_law) s.heap.objs.size f cdv)).units + 65 < cLine := by have := hr.un; omega
  have hu9 : (A.deeper (PyProof.Rows.envOfC "law" (defScope s_law) s.heap.objs.size f cdv)).units + 9 < cLine := by omega
  have nd := sc_law.nd
  (sss_cons (ss_set nd (i := 1) rfl (by first | exact Or.inl rfl | exact Or.inr rfl) (se_call G__law_pen.ok (G__law_pen.okx s) (hr.mono (j := 1) (by decide)) rfl G__law_pen.mg G__law_pen.kp G__law_pen.bd takesD (sa_cons (se_var (i := 0) rfl (by first | exact Or.inl rfl | exact Or.inr (Or.inl rfl) | exact Or.inr (Or.inr rfl)) rfl rfl) sa_nil rfl) rfl rfl rfl rfl) rfl (by first | exact Or.inl rfl | exact Or.inr rfl))
  (sss_cons (ss_set nd (i := 2) rfl (by first | exact Or.inl rfl | exact Or.inr rfl) (se_lst sa_nil (by decide)) rfl (by first | exact Or.inl rfl | exact Or.inr rfl))
  (sss_cons (ss_for passesD rfl (si_range1 rfl T.b_range (sa_cons (se_op opG_add se_int (se_call G__law_take.ok (G__law_take.okx s) (hr.mono (j := 1) (by decide)) rfl G__law_take.mg G__law_take.kp G__law_take.bd takesD (sa_cons (se_var (i := 1) rfl (by first | exact Or.inl rfl | exact Or.inr (Or.inl rfl) | exact Or.inr (Or.inr rfl)) rfl rfl) (sa_cons se_int sa_nil rfl) rfl) rfl rfl rfl rfl)) sa_nil rfl) rfl) (sg_name nd (i := 3) rfl (by first | exact Or.inl rfl | exact Or.inr rfl) (by first | exact Or.inl rfl | exact Or.inr rfl))
  (sss_cons (ss_set nd (i := 4) rfl (by first | exact Or.inl rfl | exact Or.inr rfl) (se_tup (sa_cons (se_call G__law_word.ok (G__law_word.okx s) (hr.mono (j := 2) (by decide)) rfl G__law_word.mg G__law_word.kp G__law_word.bd takesD (sa_cons (se_var (i := 1) rfl (by first | exact Or.inl rfl | exact Or.inr (Or.inl rfl) | exact Or.inr (Or.inr rfl)) rfl rfl) (sa_cons (se_op opG_add se_int (se_call G__law_take.ok (G__law_take.okx s) (hr.mono (j := 1) (by decide)) rfl G__law_take.mg G__law_take.kp G__law_take.bd takesD (sa_cons (se_var (i := 1) rfl (by first | exact Or.inl rfl | exact Or.inr (Or.inl rfl) | exact Or.inr (Or.inr rfl)) rfl rfl) (sa_cons se_int sa_nil rfl) rfl) rfl rfl rfl rfl)) sa_nil rfl) rfl) rfl rfl rfl rfl) (sa_cons (se_call G__law_word.ok (G__law_word.okx s) (hr.mono (j := 2) (by decide)) rfl G__law_word.mg G__law_word.kp G__law_word.bd takesD (sa_cons (se_var (i := 1) rfl (by first | exact Or.inl rfl | exact Or.inr (Or.inl rfl) | exact Or.inr (Or.inr rfl)) rfl rfl) (sa_cons (se_op opG_add se_int (se_call G__law_take.ok (G__law_take.okx s) (hr.mono (j := 1) (by decide)) rfl G__law_take.mg G__law_take.kp G__law_take.bd takesD (sa_cons (se_var (i := 1) rfl (by first | exact Or.inl rfl | exact Or.inr (Or.inl rfl) | exact Or.inr (Or.inr rfl)) rfl rfl) (sa_cons se_int sa_nil rfl) rfl) rfl rfl rfl rfl)) sa_nil rfl) rfl) rfl rfl rfl rfl) (sa_cons (se_call G__law_node.ok (G__law_node.okx s) (hr.mono (j := 3) (by decide)) rfl G__law_node.mg G__law_node.kp G__law_node.bd takesD (sa_cons (se_var (i := 1) rfl (by first | exact Or.inl rfl | exact Or.inr (Or.inl rfl) | exact Or.inr (Or.inr rfl)) rfl rfl) sa_nil rfl) rfl rfl rfl rfl) sa_nil rfl) rfl) rfl) (by decide)) rfl (by first | exact Or.inl rfl | exact Or.inr rfl))
  (sss_cons (ss_set nd (i := 5) rfl (by first | exact Or.inl rfl | exact Or.inr rfl) (se_op opG_add (se_op opG_add (se_op opG_add (se_op opG_add (se_ix (ixG.or (ixG_D hu9)) (se_var (i := 4) rfl (by first | exact Or.inl rfl | exact Or.inr (Or.inl rfl) | exact Or.inr (Or.inr rfl)) rfl rfl) se_int (fun _ _ => rfl)) (se_str (sg_cps " ") (by decide +kernel))) (se_ix (ixG.or (ixG_D hu9)) (se_var (i := 4) rfl (by first | exact Or.inl rfl | exact Or.inr (Or.inl rfl) | exact Or.inr (Or.inr rfl)) rfl rfl) se_int (fun _ _ => rfl))) (se_str (sg_cps " ") (by decide +kernel))) (se_call G__law_end.ok (G__law_end.okx s) (hr.mono (j := 1) (by decide)) rfl G__law_end.mg G__law_end.kp G__law_end.bd takesD (sa_cons (se_ix (ixG.or (ixG_D hu9)) (se_var (i := 4) rfl (by first | exact Or.inl rfl | exact Or.inr (Or.inl rfl) | exact Or.inr (Or.inr rfl)) rfl rfl) se_int (fun _ _ => rfl)) sa_nil rfl) rfl rfl rfl rfl)) rfl (by first | exact Or.inl rfl | exact Or.inr rfl))
  (sss_cons (ss_set nd (i := 6) rfl (by first | exact Or.inl rfl | exact Or.inr rfl) (se_call G_show_fact.ok (G_show_fact.okx s) (hr.mono (j := 2) (by decide)) rfl G_show_fact.mg G_show_fact.kp G_show_fact.bd takesD (sa_cons (se_var (i := 4) rfl (by first | exact Or.inl rfl | exact Or.inr (Or.inl rfl) | exact Or.inr (Or.inr rfl)) rfl rfl) sa_nil rfl) rfl rfl rfl rfl) rfl (by first | exact Or.inl rfl | exact Or.inr rfl))
  (sss_cons (ss_if (SW.st (sw_or (st_not (st_tru (se_isi (se_var (i := 6) rfl (by first | exact Or.inl rfl | exact Or.inr (Or.inl rfl) | exact Or.inr (Or.inr rfl)) rfl rfl) k_str rfl T.b_isinstance rfl T.b_str (by decide +kernel) (by decide) rfl rfl) (fun _ => rfl))) (sw_or (st_cmp (opG_ne hu65) (se_var (i := 6) rfl (by first | exact Or.inl rfl | exact Or.inr (Or.inl rfl) | exact Or.inr (Or.inr rfl)) rfl rfl) (se_var (i := 5) rfl (by first | exact Or.inl rfl | exact Or.inr (Or.inl rfl) | exact Or.inr (Or.inr rfl)) rfl rfl) rfl) (sw_or1 (st_not (st_tru (se_call G__law_right.ok (G__law_right.okx s) (hr.mono (j := 6) (by decide)) rfl G__law_right.mg G__law_right.kp G__law_right.bd takesD (sa_cons (se_var (i := 5) rfl (by first | exact Or.inl rfl | exact Or.inr (Or.inl rfl) | exact Or.inr (Or.inr rfl)) rfl rfl) (sa_cons (se_lst (sa_cons (se_var (i := 4) rfl (by first | exact Or.inl rfl | exact Or.inr (Or.inl rfl) | exact Or.inr (Or.inr rfl)) rfl rfl) sa_nil rfl) (by decide)) sa_nil rfl) rfl) rfl rfl rfl rfl) (fun _ => rfl)))))))
  (sss_one (ss_ret se_bl))
  sss_nil)
  (sss_one (ss_exp (se_mut mut_append PySem.F.plainAttrs_list PySem.F.slot_list_append PySem.F.type_list_append (se_var (i := 2) rfl (by first | exact Or.inl rfl | exact Or.inr (Or.inl rfl) | exact Or.inr (Or.inr rfl)) rfl rfl) (sa_cons (se_var (i := 5) rfl (by first | exact Or.inl rfl | exact Or.inr (Or.inl rfl) | exact Or.inr (Or.inr rfl)) rfl rfl) sa_nil rfl) ⟨rfl, rfl, rfl⟩ rfl rfl) rfl)))))) (fun _ => rfl))
  (sss_cons (ss_for passesD rfl (si_range1 rfl T.b_range (sa_cons (se_op opG_add se_int (se_call G__law_take.ok (G__law_take.okx s) (hr.mono (j := 1) (by decide)) rfl G__law_take.mg G__law_take.kp G__law_take.bd takesD (sa_cons (se_var (i := 1) rfl (by first | exact Or.inl rfl | exact Or.inr (Or.inl rfl) | exact Or.inr (Or.inr rfl)) rfl rfl) (sa_cons se_int sa_nil rfl) rfl) rfl rfl rfl rfl)) sa_nil rfl) rfl) (sg_name nd (i := 3) rfl (by first | exact Or.inl rfl | exact Or.inr rfl) (by first | exact Or.inl rfl | exact Or.inr rfl))
  (sss_cons (ss_set nd (i := 5) rfl (by first | exact Or.inl rfl | exact Or.inr rfl) (se_call G__law_changed.ok (G__law_changed.okx s) (hr.mono (j := 2) (by decide)) rfl G__law_changed.mg G__law_changed.kp G__law_changed.bd takesD (sa_cons (se_var (i := 1) rfl (by first | exact Or.inl rfl | exact Or.inr (Or.inl rfl) | exact Or.inr (Or.inr rfl)) rfl rfl) (sa_cons (se_ix (ixG.or (ixG_D hu9)) (se_var (i := 2) rfl (by first | exact Or.inl rfl | exact Or.inr (Or.inl rfl) | exact Or.inr (Or.inr rfl)) rfl rfl) (se_call G__law_take.ok (G__law_take.okx s) (hr.mono (j := 1) (by decide)) rfl G__law_take.mg G__law_take.kp G__law_take.bd takesD (sa_cons (se_var (i := 1) rfl (by first | exact Or.inl rfl | exact Or.inr (Or.inl rfl) | exact Or.inr (Or.inr rfl)) rfl rfl) (sa_cons (se_fnB fn_len rfl T.b_len (by decide +kernel) (sa_cons (se_var (i := 2) rfl (by first | exact Or.inl rfl | exact Or.inr (Or.inl rfl) | exact Or.inr (Or.inr rfl)) rfl rfl) sa_nil rfl) (by decide) rfl rfl rfl) sa_nil rfl) rfl) rfl rfl rfl rfl) (fun _ _ => rfl)) sa_nil rfl) rfl) rfl rfl rfl rfl) rfl (by first | exact Or.inl rfl | exact Or.inr rfl))
  (sss_one (ss_if (st_not (st_tru (se_call G__law_right.ok (G__law_right.okx s) (hr.mono (j := 6) (by decide)) rfl G__law_right.mg G__law_right.kp G__law_right.bd takesD (sa_cons (se_var (i := 5) rfl (by first | exact Or.inl rfl | exact Or.inr (Or.inl rfl) | exact Or.inr (Or.inr rfl)) rfl rfl) (sa_cons (se_call G__law_read.ok (G__law_read.okx s) (hr.mono (j := 4) (by decide)) rfl G__law_read.mg G__law_read.kp G__law_read.bd takesD (sa_cons (se_var (i := 5) rfl (by first | exact Or.inl rfl | exact Or.inr (Or.inl rfl) | exact Or.inr (Or.inr rfl)) rfl rfl) sa_nil rfl) rfl rfl rfl rfl) sa_nil rfl) rfl) rfl rfl rfl rfl) (fun _ => rfl)))
  (sss_one (ss_ret se_bl))
  sss_nil))) (fun _ => rfl))
  (sss_cons (ss_for passesD rfl (si_any (se_lst (sa_cons se_non (sa_cons se_int (sa_cons se_bl (sa_cons (se_tup (sa_cons (se_str (sg_cps "a") (by decide +kernel)) (sa_cons (se_str (sg_cps "b") (by decide +kernel)) (sa_cons se_int sa_nil rfl) rfl) rfl) (by decide)) (sa_cons (se_lst (sa_cons (se_str (sg_cps "a b 1") (by decide +kernel)) sa_nil rfl) (by decide)) (sa_cons se_dct0 sa_nil rfl) rfl) rfl) rfl) rfl) rfl) (by decide))) (sg_name nd (i := 7) rfl (by first | exact Or.inl rfl | exact Or.inr rfl) (by first | exact Or.inl rfl | exact Or.inr rfl))
  (sss_one (ss_if (st_not (st_tru (se_call G__law_right.ok (G__law_right.okx s) (hr.mono (j := 6) (by decide)) rfl G__law_right.mg G__law_right.kp G__law_right.bd takesD (sa_cons (se_var (i := 7) rfl (by first | exact Or.inl rfl | exact Or.inr (Or.inl rfl) | exact Or.inr (Or.inr rfl)) rfl rfl) (sa_cons (se_lst sa_nil (by decide)) sa_nil rfl) rfl) rfl rfl rfl rfl) (fun _ => rfl)))
  (sss_one (ss_ret se_bl))
  sss_nil)) (fun _ => rfl))
  (sss_one (ss_ret se_bl)))))))
theorem ok_law {a__law_pen : Addr} {d__law_pen : FuncData} (G__law_pen : Cal .o P w K mg base c "_law_pen" a__law_pen d__law_pen 1 ["_law_script"] F__law_pen 1) {a_show_fact : Addr} {d_show_fact : FuncData} (G_show_fact : Cal .o P w K mg base c "show_fact" a_show_fact d_show_fact 2 ["fact"] F_show_fact 1) {a__law_changed : Addr} {d__law_changed : FuncData} (G__law_changed : Cal .o P w K mg base c "_law_changed" a__law_changed d__law_changed 2 ["_law_pen_here", "_law_text"] F__law_changed 2) {a__law_take : Addr} {d__law_take : FuncData} (G__law_take : Cal .o P w K mg base c "_law_take" a__law_take d__law_take 1 ["_law_pen_here", "_law_most"] F__law_take 2) {a__law_word : Addr} {d__law_word : FuncData} (G__law_word : Cal .o P w K mg base c "_law_word" a__law_word d__law_word 2 ["_law_pen_here", "_law_many"] F__law_word 2) {a__law_node : Addr} {d__law_node : FuncData} (G__law_node : Cal .o P w K mg base c "_law_node" a__law_node d__law_node 3 ["_law_pen_here"] F__law_node 1) {a__law_end : Addr} {d__law_end : FuncData} (G__law_end : Cal .o P w K mg base c "_law_end" a__law_end d__law_end 1 ["_law_node_here"] F__law_end 1) {a__law_right : Addr} {d__law_right : FuncData} (G__law_right : Cal .o P w K mg base c "_law_right" a__law_right d__law_right 6 ["_law_text", "_law_due"] F__law_right 2) {a__law_read : Addr} {d__law_read : FuncData} (G__law_read : Cal .o P w K mg base c "_law_read" a__law_read d__law_read 4 ["_law_text"] F__law_read 1) (T : Txt w K mg) {f : Addr} {fd : FuncData} (D : Fun K "law" "law" s_law f fd) (hm : mg "law" = some (.ref f)) (hb : Binds K fd ["_law_script"] []) : Cal .o P w K mg base c "law" f fd 7 ["_law_script"] F_law 1 :=
  ⟨fn_okD D sc_law rfl rfl fun cdv A outer s H E hr => dv_law G__law_pen G_show_fact G__law_changed G__law_take G__law_word G__law_node G__law_end G__law_right G__law_read T cdv A outer s H E hr, fun s => okF_of (dv_law (P := P) (w := w) (base := base) (c := c) (f := f) G__law_pen G_show_fact G__law_changed G__law_take G__law_word G__law_node G__law_end G__law_right G__law_read T .none callerA [] s (fun _ => none) (fun _ _ _ => False) (room_caller (by decide))).ok, hm, D.kp, hb⟩
end
end K05
namespace K05
open PySem L2 WS
local macro_rules | `(tactic| clear $ts*) => do { let ls ← ts.mapM fun t => `(Lean.Parser.Tactic.simpLemma| $t:term); `(tactic| simp -implicitDefEqProofs (disch := omega) only [id_eq, beq_self_eq_true, Int.reduceBEq, Int.reduceLT, Int.reduceLE, Int.reduceNeg, Int.reduceAdd, Int.reduceSub, Int.reduceMul, decide_true, decide_false, List.length_cons, List.length_nil, List.cons_append, List.nil_append, List.replicate, List.map_cons, List.map_nil, Nat.reduceAdd, Nat.reduceSub, Nat.reduceBEq, Bool.and_self, Bool.not_true, Bool.not_false, Bool.true_and, Bool.false_and, Int.cast_ofNat_Int, bind_ok, bindN_ok, sbind_ok, then_nx, then_rt, then_bk, then_ct, loop_nx, loop_ct, loop_bk, loop_rt, x_var, evV_fz, evV_lf, evV_ow, evV_le, evV_lk, x_con, v_fro, v_tmp, v_at, g_fz, g_ow, g_le, g_lf, g_lk, d_0, d_s, s_0, s_s, p_sc, p_nl, p_nd, p_nt, x_op, x_op1, x_op2, x_un, x_un1, x_nil, x_cons, x_cons1, x_cons2, x_fn, x_fn1, x_tup, x_tup1, x_tup2, x_lst, x_lst1, x_lst2, x_dct0, f_nil, f_cons, f_k, f_k2, z_fro, z_tmp, z_at, z_ow, z_le, z_fz, z_lf, x_bl, x_bl1, b_bl, x_tru, x_tru1, b_tru, b_some, x_nt, x_nt1, x_an, x_an_t, x_an_f, x_or, x_or_t, x_or_f, x_ean, x_ean_t, x_ean_f, x_eor, x_eor_t, x_eor_f, x_ent, x_ent1, x_eif, x_eif_t, x_eif_f, x_ch, x_cha, x_chb, x_chk_t, x_chk_f, x_ch1, x_ch2, x_part0, x_part, x_part1, x_outI, x_sl, x_sl0, x_sl1, x_sl2, x_call, x_callE, x_callT, x_callO, a_nil, a_fro, a_tmp, a_at, a_t, a_f, w_ow, w_le, w_lk, w_fz, w_lf, n_nil, n_one, n_two, m_nil, m_cons, t_fro, t_tmp, t_at, t_ow, t_le, t_fz, t_lf, q_wbs, q_nil, q_cons, u_nil, u_fro, u_tmp, u_at, u_t, u_f, h_none, h_owle, h_owlf, h_lele, h_lelf, h_fz, h_un, h_lf, h_lk, x_l1, x_l11, x_comp, x_comp_f, x_comp_t, x_comp1, x_compE, c_nil, c_cons, c_un, c_fz, o_itS, o_itL, o_itT, x_seq, x_set, x_put, x_putB, x_put_f, x_put_t, x_put_a, x_putF, l_fz, l_ow, l_un, x_if, x_if_t, x_if_f, x_nilS, x_ret, x_ret1, x_exp, x_exp1, x_sput, x_sput0, x_sput1, x_sput2, x_sput3, x_outT, x_setZ_ow, x_setZ_le, x_mut, x_mut0, x_mut1, x_mut2, x_mut3, x_outS, x_outZ_ow, x_outZ_le, o_add, o_sub, o_eqI, o_neI, o_eqS, o_neS, o_lt, o_le, o_gt, o_ge, o_lenN, o_lenS, o_lenL, o_lenT, o_abs, o_slS, o_slL, o_slT, x_wh_t, x_wh_f, o_neg, o_isi, ky_non, ky_bl, ky_int, ky_str, ky_tup, ky_lst, ky_dct, ky_scr, ky_err, y_str_err, y_int_err, y_bool_err, y_tuple_err, y_list_err, y_dict_err, y_str_NoneType, y_str_bool, y_str_int, y_str_str, y_str_tuple, y_str_list, y_str_dict, y_int_NoneType, y_int_bool, y_int_int, y_int_str, y_int_tuple, y_int_list, y_int_dict, y_bool_NoneType, y_bool_bool, y_bool_int, y_bool_str, y_bool_tuple, y_bool_list, y_bool_dict, y_tuple_NoneType, y_tuple_bool, y_tuple_int, y_tuple_str, y_tuple_tuple, y_tuple_list, y_tuple_dict, y_list_NoneType, y_list_bool, y_list_int, y_list_str, y_list_tuple, y_list_list, y_list_dict, y_dict_NoneType, y_dict_bool, y_dict_int, y_dict_str, y_dict_tuple, y_dict_list, y_dict_dict, fo_for, fo_for_f, fo_some, fo_nil, fo_t, fo_nx, w_ok, w_exn, w_K, w_bind, w_KS, w_sbind, w_nx, w_rt, w_bk, w_ct, w_sx, w_KT, w_then, w_turn, w_C, w_CX, w_call, w_fok, w_fx, w_Co, fo_ownS, fo_for_a, fo_for_t, fo_for_ff, x_sortK, x_sortK1, x_met, x_met0, x_met1, x_met2, x_asg, x_asg0, o_clear, o_reverse, x_asg1, x_optS, oo_lt, oo_ltS, o_rev, t_str, t_lst, t_dct, fo_forL, n_three, k_lock, k_nil, k_cons, k_any, k_t, k_f, k_ow, k_le, k_lk, k_un, k_u0, k_ulk, k_ufz, k_uun, k_uow, k_ule, k_ulf, fo_A, g_tgN, g_tgA, g_tgT, g_tg0, g_tgL, g_some, g_w0, g_w1, g_b0, g_b1, x_ownO, x_comp_a, x_compA, x_comp_ff, k_uself, k_any2, fo_for_aa, fo_B, o_itZ, o_itZt, o_eqB, o_neB, i_is, i_isn, i_n0, i_n1, i_n2, i_n3, i_n4, i_n5, i_n6, i_tlk, i_t0, i_t1, i_t2, i_t3, i_t4, i_t5, i_l0, i_l1, i_l2, i_l3, i_l4, i_l5, i_leI, i_leS, o_listD, o_listL, o_listT, if_true, ite_true, ite_false, Bool.and_true, Bool.not_not, o_mul2, o_mod, o_div, ev_addS1, ev_addL1, ev_addS, ev_addL, p_2, p_3, p_4, p_5, p_6, p_7, p_8, p_9, p_10, p_12, p_15, p_18, p_20, p_25, p_29, p_30, p_31, p_60, $ls,*]) }
theorem take_s {ns : List Int} {n : Nat} {p : D} {m : Int} {Q : R → List Sl → Prop} {X : Ex → List Sl → Prop} (hp : Pn ns n p) (hn : n ≤ 2 ^ 60) (hm : 0 < m) (hm2 : m < 2 ^ 60) (q : ∀ p' r, Pn ns (n + 1) p' → 0 ≤ r → r < m → Q (.fro (.int r)) [.le p', .un]) : wF (F__law_take [.le p, .fz (.int m)]) Q X := by
  obtain ⟨a, l, rfl, ha, hb, hl⟩ := hp
  unfold F__law_take
  refine w_fn _ _ _ _ _ ?_
  unfold B__law_take
  have mm : ∀ x : Int, 0 ≤ x % m ∧ x % m < m := fun x => ⟨Int.emod_nonneg _ (by omega), Int.emod_lt_of_pos _ hm⟩
  have hlen : (0 : Int) ≤ ns.length := by omega
  clear pen_at pen_left pen_script put_at put_left
  repeat' (first
    | (refine w_if (fun h => ?_) (fun h => ?_) <;> simp only [beq_iff_eq, decide_eq_true_eq, decide_eq_false_iff_not, beq_eq_false_iff_ne, ne_eq, Bool.not_eq_true'] at h)
    | (refine w_or (fun h => ?_) (fun h => ?_) <;> simp only [beq_iff_eq, decide_eq_true_eq, decide_eq_false_iff_not, beq_eq_false_iff_ne, ne_eq] at h)
    | (refine w_ixN (Int.emod_nonneg _ (by omega)) (Int.emod_lt_of_pos _ (by omega)) (fun c => ?_))
    | clear pen_at pen_left pen_script put_at put_left)
  all_goals first
    | exact q _ _ ⟨_, _, rfl, by omega, by omega, hl⟩ (mm _).1 (mm _).2
    | exact q _ _ ⟨_, _, rfl, by omega, by omega, Int.ediv_nonneg hl (by omega)⟩ (mm _).1 (mm _).2
    | exact q _ _ ⟨_, _, rfl, by omega, by omega, Int.ediv_nonneg (abs_nn _) (by omega)⟩ (mm _).1 (mm _).2
    | exact q _ _ ⟨_, _, rfl, by omega, by omega, Int.ediv_nonneg (by decide) (by omega)⟩ (mm _).1 (mm _).2
theorem pen_e (ns : List Int) : F__law_pen [.fz (.scr ns)] = .ok (.tmp (pen ns 0 0)) [.un] := rfl
theorem word_s {ns : List Int} {n : Nat} {p : D} {k : Int} {Q : R → List Sl → Prop} {X : Ex → List Sl → Prop} (hp : Pn ns n p) (hn : n ≤ 2 ^ 59) (h0 : 0 ≤ k) (h1 : k ≤ 100) (q : ∀ p' s, Pn ns (n + 110) p' → isLet s → (s.length : Int) = k → Q (.fro (.str s)) [.le p', .un]) : wF (F__law_word [.le p, .fz (.int k)]) Q X := by
  unfold F__law_word
  refine w_fn _ _ _ _ _ ?_
  unfold B__law_word
  repeat (first | (with_reducible refine take_s (by assumption) ?_ ?_ ?_ (fun p r hp hr0 hr1 => ?_); omega; omega; omega) | clear d_0)
  refine w_ixL (by omega) (by simpa using hr1) fun x hm _ => ?_
  obtain ⟨s1, rfl, hl1, hl2⟩ : ∃ s, x = .str s ∧ isLet s ∧ s.length ≤ 5 := by
    simp only [List.mem_cons, List.not_mem_nil, or_false] at hm
    rcases hm with rfl | rfl | rfl | rfl | rfl | rfl <;> exact ⟨_, rfl, let_dec (by decide +kernel), by decide +kernel⟩
  repeat (first | (with_reducible refine take_s (by assumption) ?_ ?_ ?_ (fun p r hp hr0 hr1 => ?_); omega; omega; omega) | clear d_0)
  refine w_ixL (by omega) (by simpa using hr1) fun x hm _ => ?_
  obtain ⟨s2, rfl, hl3, hl4⟩ : ∃ s, x = .str s ∧ isLet s ∧ s.length ≤ 5 := by
    simp only [List.mem_cons, List.not_mem_nil, or_false] at hm
    rcases hm with rfl | rfl | rfl | rfl
    · exact ⟨_, rfl, let_dec (by decide +kernel), by decide +kernel⟩
    · exact ⟨_, rfl, let_dec (by decide +kernel), by decide +kernel⟩
    · exact ⟨_, rfl, let_dec (by decide +kernel), by decide +kernel⟩
    · exact ⟨_, rfl, hl1, hl2⟩
  repeat (first | (with_reducible refine take_s (by assumption) ?_ ?_ ?_ (fun p r hp hr0 hr1 => ?_); omega; omega; omega) | clear d_0)
  refine while_s (fun m ρ => ∃ p t, ρ = [.le p, .fz (.int k), .fz (.str t)] ∧ Pn ns (n + 2 + t.length) p ∧ t.length ≤ 105 ∧ isLet t ∧ (k - t.length).toNat = m) ?_ 1000 (k - s2.length).toNat _ (by omega) ?_
  · rintro m ρ ⟨p, t, rfl, hp, hl, ht, hm⟩
    clear d_0
    by_cases hc : (t.length : Int) < k
    · clear (id hc)
      refine ⟨m - 1, by omega, ?_⟩
      repeat (first | (with_reducible refine take_s (by assumption) ?_ ?_ ?_ (fun p r hp hr0 hr1 => ?_); omega; omega; omega) | clear d_0)
      refine w_ixS (by omega) (by rw [show (sg "abcdefghijklmnopqrstuvwxyz").length = 26 by decide +kernel]; omega) fun c hm _ => ?_
      clear d_0
      exact ⟨_, _, rfl, (by assumption : Pn ns _ _).mono (by simp; omega), by simp; omega, let_app ht (let_one (let_mem.mp hm)), by simp; omega⟩
    · clear (id hc)
      have e := cut_to t (k := k) h0
      refine q _ _ (hp.mono (by omega)) (fun c hc => ht c ?_) ?_
      · rw [e] at hc; exact List.mem_of_mem_take hc
      · rw [e, List.length_take]; omega
  · exact ⟨_, _, rfl, (by assumption : Pn ns _ _).mono (by omega), by omega, hl3, rfl⟩
/-- a node as it is drawn -/
def NodeX (x : D) : Prop := (∃ i : Int, x = .int i ∧ i.natAbs < 10 ^ 30) ∨ (∃ s, x = .tup [.str s] ∧ isLet s ∧ s.length ≤ 8) ∨ ∃ s, x = .str s ∧ isLet s ∧ 1 ≤ s.length ∧ s.length ≤ 8
theorem node_s {ns : List Int} {n : Nat} {p : D} {Q : R → List Sl → Prop} {X : Ex → List Sl → Prop} (hp : Pn ns n p) (hn : n ≤ 2 ^ 58) (q : ∀ p' x, Pn ns (n + 200) p' → NodeX x → Q (.fro x) [.le p']) : wF (F__law_node [.le p]) Q X := by
  unfold F__law_node
  with_reducible refine w_fn _ _ _ _ _ ?_
  unfold B__law_node
  try clear d_0
  refine take_s (by assumption) (by first | omega | (simp; omega)) (by first | omega | (simp; omega)) (by first | omega | (simp; omega)) fun p w hp hw0 hw1 => ?_
  clear d_0
  refine w_if (fun h => ?_) fun h => ?_
  · try clear d_0
    refine take_s (by assumption) (by first | omega | (simp; omega)) (by first | omega | (simp; omega)) (by first | omega | (simp; omega)) fun p r hp hr0 hr1 => ?_
    clear d_0
    exact q _ _ (hp.mono (by omega)) (.inl ⟨_, rfl, by omega⟩)
  clear d_0
  refine w_if (fun h => ?_) fun h => ?_
  · try clear d_0
    refine take_s (by assumption) (by first | omega | (simp; omega)) (by first | omega | (simp; omega)) (by first | omega | (simp; omega)) fun p a hp ha0 ha1 => ?_
    clear d_0
    refine w_ixL (by omega) (by simpa using ha1) fun x hx _ => ?_
    try clear d_0
    refine take_s (by assumption) (by first | omega | (simp; omega)) (by first | omega | (simp; omega)) (by first | omega | (simp; omega)) fun p b hp hb0 hb1 => ?_
    simp only [List.mem_cons, List.not_mem_nil, or_false] at hx
    rcases hx with rfl | rfl
    · clear d_0
      refine q _ _ (hp.mono (by omega)) (.inl ⟨_, rfl, ?_⟩)
      omega
    · clear d_0
      refine q _ _ (hp.mono (by omega)) (.inl ⟨_, rfl, ?_⟩)
      omega
  clear d_0
  refine w_if (fun h => ?_) fun h => ?_
  · try clear d_0
    refine take_s (by assumption) (by first | omega | (simp; omega)) (by first | omega | (simp; omega)) (by first | omega | (simp; omega)) fun p r hp hr0 hr1 => ?_
    clear d_0
    refine word_s hp (by omega) (by omega) (by omega) fun p s hp hs hsl => ?_
    clear d_0
    exact q _ _ (hp.mono (by omega)) (.inr (.inl ⟨s, rfl, hs, by omega⟩))
  try clear d_0
  refine take_s (by assumption) (by first | omega | (simp; omega)) (by first | omega | (simp; omega)) (by first | omega | (simp; omega)) fun p r hp hr0 hr1 => ?_
  clear d_0
  refine word_s hp (by omega) (by omega) (by omega) fun p s hp hs hsl => ?_
  clear d_0
  exact q _ _ (hp.mono (by omega)) (.inr (.inr ⟨s, rfl, hs, by omega, by omega⟩))
end K05
namespace K05
open PySem L2 WS
local macro_rules | `(tactic| clear $ts*) => do { let ls ← ts.mapM fun t => `(Lean.Parser.Tactic.simpLemma| $t:term); `(tactic| simp -implicitDefEqProofs (disch := omega) only [id_eq, beq_self_eq_true, Int.reduceBEq, Int.reduceLT, Int.reduceLE, Int.reduceNeg, Int.reduceAdd, Int.reduceSub, Int.reduceMul, decide_true, decide_false, List.length_cons, List.length_nil, List.cons_append, List.nil_append, List.replicate, List.map_cons, List.map_nil, Nat.reduceAdd, Nat.reduceSub, Nat.reduceBEq, Bool.and_self, Bool.not_true, Bool.not_false, Bool.true_and, Bool.false_and, Int.cast_ofNat_Int, bind_ok, bindN_ok, sbind_ok, then_nx, then_rt, then_bk, then_ct, loop_nx, loop_ct, loop_bk, loop_rt, x_var, evV_fz, evV_lf, evV_ow, evV_le, evV_lk, x_con, v_fro, v_tmp, v_at, g_fz, g_ow, g_le, g_lf, g_lk, d_0, d_s, s_0, s_s, p_sc, p_nl, p_nd, p_nt, x_op, x_op1, x_op2, x_un, x_un1, x_nil, x_cons, x_cons1, x_cons2, x_fn, x_fn1, x_tup, x_tup1, x_tup2, x_lst, x_lst1, x_lst2, x_dct0, f_nil, f_cons, f_k, f_k2, z_fro, z_tmp, z_at, z_ow, z_le, z_fz, z_lf, x_bl, x_bl1, b_bl, x_tru, x_tru1, b_tru, b_some, x_nt, x_nt1, x_an, x_an_t, x_an_f, x_or, x_or_t, x_or_f, x_ean, x_ean_t, x_ean_f, x_eor, x_eor_t, x_eor_f, x_ent, x_ent1, x_eif, x_eif_t, x_eif_f, x_ch, x_cha, x_chb, x_chk_t, x_chk_f, x_ch1, x_ch2, x_part0, x_part, x_part1, x_outI, x_sl, x_sl0, x_sl1, x_sl2, x_call, x_callE, x_callT, x_callO, a_nil, a_fro, a_tmp, a_at, a_t, a_f, w_ow, w_le, w_lk, w_fz, w_lf, n_nil, n_one, n_two, m_nil, m_cons, t_fro, t_tmp, t_at, t_ow, t_le, t_fz, t_lf, q_wbs, q_nil, q_cons, u_nil, u_fro, u_tmp, u_at, u_t, u_f, h_none, h_owle, h_owlf, h_lele, h_lelf, h_fz, h_un, h_lf, h_lk, x_l1, x_l11, x_comp, x_comp_f, x_comp_t, x_comp1, x_compE, c_nil, c_cons, c_un, c_fz, o_itS, o_itL, o_itT, x_seq, x_set, x_put, x_putB, x_put_f, x_put_t, x_put_a, x_putF, l_fz, l_ow, l_un, x_if, x_if_t, x_if_f, x_nilS, x_ret, x_ret1, x_exp, x_exp1, x_sput, x_sput0, x_sput1, x_sput2, x_sput3, x_outT, x_setZ_ow, x_setZ_le, x_mut, x_mut0, x_mut1, x_mut2, x_mut3, x_outS, x_outZ_ow, x_outZ_le, o_add, o_sub, o_eqI, o_neI, o_eqS, o_neS, o_lt, o_le, o_gt, o_ge, o_lenN, o_lenS, o_lenL, o_lenT, o_abs, o_slS, o_slL, o_slT, x_wh_t, x_wh_f, o_neg, o_isi, ky_non, ky_bl, ky_int, ky_str, ky_tup, ky_lst, ky_dct, ky_scr, ky_err, y_str_err, y_int_err, y_bool_err, y_tuple_err, y_list_err, y_dict_err, y_str_NoneType, y_str_bool, y_str_int, y_str_str, y_str_tuple, y_str_list, y_str_dict, y_int_NoneType, y_int_bool, y_int_int, y_int_str, y_int_tuple, y_int_list, y_int_dict, y_bool_NoneType, y_bool_bool, y_bool_int, y_bool_str, y_bool_tuple, y_bool_list, y_bool_dict, y_tuple_NoneType, y_tuple_bool, y_tuple_int, y_tuple_str, y_tuple_tuple, y_tuple_list, y_tuple_dict, y_list_NoneType, y_list_bool, y_list_int, y_list_str, y_list_tuple, y_list_list, y_list_dict, y_dict_NoneType, y_dict_bool, y_dict_int, y_dict_str, y_dict_tuple, y_dict_list, y_dict_dict, fo_for, fo_for_f, fo_some, fo_nil, fo_t, fo_nx, w_ok, w_exn, w_K, w_bind, w_KS, w_sbind, w_nx, w_rt, w_bk, w_ct, w_sx, w_KT, w_then, w_turn, w_C, w_CX, w_call, w_fok, w_fx, w_Co, fo_ownS, fo_for_a, fo_for_t, fo_for_ff, x_sortK, x_sortK1, x_met, x_met0, x_met1, x_met2, x_asg, x_asg0, o_clear, o_reverse, x_asg1, x_optS, oo_lt, oo_ltS, o_rev, t_str, t_lst, t_dct, fo_forL, n_three, k_lock, k_nil, k_cons, k_any, k_t, k_f, k_ow, k_le, k_lk, k_un, k_u0, k_ulk, k_ufz, k_uun, k_uow, k_ule, k_ulf, fo_A, g_tgN, g_tgA, g_tgT, g_tg0, g_tgL, g_some, g_w0, g_w1, g_b0, g_b1, x_ownO, x_comp_a, x_compA, x_comp_ff, k_uself, k_any2, fo_for_aa, fo_B, o_itZ, o_itZt, o_eqB, o_neB, i_is, i_isn, i_n0, i_n1, i_n2, i_n3, i_n4, i_n5, i_n6, i_tlk, i_t0, i_t1, i_t2, i_t3, i_t4, i_t5, i_l0, i_l1, i_l2, i_l3, i_l4, i_l5, i_leI, i_leS, o_listD, o_listL, o_listT, if_true, ite_true, ite_false, Bool.and_true, Bool.not_not, o_mul2, o_mod, o_div, ev_addS1, ev_addL1, ev_addS, ev_addL, p_2, p_3, p_4, p_5, p_6, p_7, p_8, p_9, p_10, p_12, p_15, p_18, p_20, p_25, p_29, p_30, p_31, p_60, $ls,*]) }
theorem fig_mem {c : Nat} : c ∈ sg "0123456789" ↔ 48 ≤ c ∧ c ≤ 57 := by
  constructor
  · have : ∀ c ∈ sg "0123456789", 48 ≤ c ∧ c ≤ 57 := by decide +kernel
    exact this c
  · have all : ∀ k, k < 10 → (48 + k) ∈ sg "0123456789" := by decide +kernel
    intro h
    have := all (c - 48) (by omega)
    rwa [show 48 + (c - 48) = c by omega] at this
theorem fig_dec (c : Nat) : decide (c ∈ sg "0123456789") = isFig c := by
  rw [Bool.eq_iff_iff, decide_eq_true_iff, fig_mem]
  unfold isFig
  rw [Bool.and_eq_true, decide_eq_true_iff, decide_eq_true_iff]
theorem minus_sg : sg "-" = [45] := by decide +kernel
theorem zero_sg : sg "0" = [48] := by decide +kernel
/-- the figures of a text -/
def bodyT (t : List Nat) : List Nat := if t.take 1 = [45] then t.drop 1 else t
/-- whether it writes a number -/
def numB (t : List Nat) : Bool := decide (1 ≤ (bodyT t).length ∧ (bodyT t).length ≤ 30) && ((bodyT t).all isFig && (decide ((bodyT t).take 1 ≠ [48]) || decide (t = [48])))
def valT (t : List Nat) : Int := if t.take 1 = [45] then -(figs (bodyT t) : Int) else (figs (bodyT t) : Int)
/-- the node that a text writes -/
def rd (t : List Nat) : Option D :=
  if decide (t.take 1 = [39]) && letB (t.drop 1) then some (.tup [.str (t.drop 1)]) else if nameD (.str t) then some (.str t) else if numB t then some (.int (valT t)) else none
theorem i_s0 (c : Nat) (r : List Nat) : orG gIx gIxD (.str (c :: r)) (.int 0) = some (.sc (.str [c])) := by
  obtain ⟨d, _, g, e⟩ := ev_ix_str (s := c :: r) (i := 0) (by decide) (by simp only [List.length_cons]; omega)
  cases g
  exact e
theorem int_e {t : List Nat} (h : numB t = true) : (orF (g1 gInt) (g1 gIntT)) [.str t] = some (.sc (.int (valT t))) := by
  unfold numB at h
  rw [Bool.and_eq_true, Bool.and_eq_true, decide_eq_true_iff] at h
  obtain ⟨⟨h1, h2⟩, h3, _⟩ := h
  show gIntT (.str t) = _
  cases t with
  | nil => exact absurd h1 (by decide)
  | cons c r =>
    show (if (c :: r).length ≤ 600 then (if c = 45 then (if r ≠ [] ∧ r.all isFig = true then some (PR.sc (.int (-(figs r : Int)))) else none) else if (c :: r).all isFig = true then some (PR.sc (.int (figs (c :: r) : Int))) else none) else none) = _
    by_cases hc : c = 45
    · subst hc
      have eb : bodyT (45 :: r) = r := if_pos rfl
      rw [eb] at h1 h2 h3
      have ev : valT (45 :: r) = -(figs r : Int) := by
        unfold valT
        rw [eb]
        exact if_pos rfl
      rw [if_pos (by rw [List.length_cons]; omega), if_pos rfl, if_pos ⟨fun e => by rw [e] at h1; exact absurd h1 (by decide), h3⟩, ev]
    · have ne : ¬ (c :: r).take 1 = [45] := fun e => hc (by injection e)
      have eb : bodyT (c :: r) = c :: r := if_neg ne
      rw [eb] at h1 h2 h3
      have ev : valT (c :: r) = (figs (c :: r) : Int) := by
        unfold valT
        rw [eb]
        exact if_neg ne
      rw [if_pos (by omega), if_neg hc, if_pos h3, ev]
theorem isnum_e (t : List Nat) (hl : t.length ≤ 400) : F_is_number_text [.fz (.str t)] = .ok (.fro (.bl (numB t))) [.un] := by
  refine wF_eq ?_
  unfold F_is_number_text
  with_reducible refine w_fn _ _ _ _ _ ?_
  unfold B_is_number_text
  have c1 : cutL t none (some 1) = t.take 1 := cut_to _ (by omega)
  have c2 : cutL t (some 1) none = t.drop 1 := cut_from _ (by omega)
  clear (id c1) (id c2) minus_sg
  refine cut_s (fun ρ => ρ = [.fz (.str t), .fz (.str (bodyT t)), .un]) ?_ ?_
  · refine w_if (fun h => ?_) fun h => ?_
    · rw [decide_eq_true_eq] at h
      clear (id c2)
      unfold bodyT
      rw [if_pos h]
    · rw [decide_eq_false_iff_not] at h
      clear d_0
      unfold bodyT
      rw [if_neg h]
  rintro ρ rfl
  have hbl : (bodyT t).length ≤ 400 := by
    unfold bodyT
    split
    · rw [List.length_drop]; omega
    · exact hl
  have hnum : numB t = (decide (1 ≤ (bodyT t).length ∧ (bodyT t).length ≤ 30) && ((bodyT t).all isFig && (decide ((bodyT t).take 1 ≠ [48]) || decide (t = [48])))) := rfl
  generalize bodyT t = b at hnum hbl
  cases b with
  | nil =>
    have n0 : numB t = false := by rw [hnum]; rfl
    have z1 : decide ((1 : Int) ≤ (([] : List Nat).length : Int)) = false := rfl
    clear (id z1)
    exact ⟨by rw [n0], rfl⟩
  | cons c r =>
    have z1 : decide ((1 : Int) ≤ ((c :: r).length : Int)) = true := decide_eq_true (by simp; omega)
    have i0 : orG gIx gIxD (.str (c :: r)) (.int 0) = some (.sc (.str [c])) := i_s0 c r
    have cm : ∀ x : Nat, orG gIn gInD (.str [x]) (.str (sg "0123456789")) = some (.sc (.bl (isFig x))) := fun x => by
      rw [o_inS, fig_dec]
    generalize hb : c :: r = b at z1 i0 hbl hnum
    clear (id z1)
    by_cases h30 : b.length ≤ 30
    · have z2 : decide ((b.length : Int) ≤ 30) = true := decide_eq_true (by omega)
      clear (id z2)
      refine w_compE ?_
      refine comp_s (fun rest acc ρ => ∃ pre post, b = pre ++ post ∧ rest = post.map (fun n => .str [n]) ∧ acc = pre.map (fun c => .bl (isFig c)) ∧ ρ = [.fz (.str t), .fz (.str b), .un]) ?_ ?_ _ _ _ ?_
      · rintro d rest acc ρ ⟨pre, post, e, er, rfl, rfl⟩
        cases post with
        | nil => cases er
        | cons x post =>
          cases er
          refine ⟨_, by clear d_0; rfl, ?_⟩
          have : pre.length ≤ b.length := by rw [e]; simp
          clear (id cm)
          exact ⟨decide_eq_true (by simp; omega), pre ++ [x], post, by rw [e]; simp, rfl, by simp, by first | rfl | trivial⟩
      · rintro acc ρ ⟨pre, post, e, er, rfl, rfl⟩
        obtain rfl : post = [] := by cases post <;> first | rfl | cases er
        rw [List.append_nil] at e
        subst e
        have h1 : 1 ≤ b.length := by rw [← hb]; simp
        clear (o_all isFig b)
        refine w_if (fun h => ?_) fun h => ?_
        · have h : b.all isFig = false := by simpa using h
          have n0 : numB t = false := by rw [hnum, h]; simp
          clear d_0
          exact ⟨by rw [n0], rfl⟩
        · have h : b.all isFig = true := by simpa using h
          have n1 : numB t = (decide (b.take 1 ≠ [48]) || decide (t = [48])) := by rw [hnum, h, decide_eq_true ⟨h1, h30⟩]; simp
          have tk : b.take 1 = [c] := by rw [← hb]; rfl
          clear (id i0) zero_sg
          refine w_eor (fun h => ?_) fun h => ?_
          · have h : ¬ [c] = [48] := by simpa using h
            exact ⟨by rw [n1, tk, decide_eq_true h]; rfl, rfl⟩
          · have h : [c] = [48] := by simpa using h
            clear d_0
            exact ⟨by rw [n1, tk, h]; simp, rfl⟩
      · exact ⟨[], b, rfl, rfl, rfl, rfl⟩
    · have z2 : decide ((b.length : Int) ≤ 30) = false := decide_eq_false (by omega)
      have n0 : numB t = false := by rw [hnum, decide_eq_false (by omega)]; rfl
      clear (id z2)
      exact ⟨by rw [n0], rfl⟩
theorem read_s {t : List Nat} {Q : R → List Sl → Prop} {X : Ex → List Sl → Prop} (hl : t.length ≤ 400) (q : ∀ d, rd t = some d → Q (.fro d) [.un]) (x : rd t = none → X ⟨"NoNode", []⟩ [.un]) : wF (F_read_node [.fz (.str t)]) Q X := by
  unfold F_read_node
  with_reducible refine w_fn _ _ _ _ _ ?_
  unfold B_read_node
  have is : gIsi "str" (.str t) = some (.sc (.bl true)) := rfl
  have c1 : cutL t none (some 1) = t.take 1 := cut_to _ (by omega)
  have c2 : cutL t (some 1) none = t.drop 1 := cut_from _ (by omega)
  have ap : sg "'" = [39] := by decide +kernel
  clear (id is) (id c1) (id c2) (id ap) w_raise
  refine cut_e (fun b ρ => b = (decide (t.take 1 = [39]) && letB (t.drop 1)) ∧ ρ = [.fz (.str t)]) ?_ ?_
  · refine w_an (fun h => ?_) fun h => ?_
    · clear (id c2) (are_letters_e (t.drop 1))
      exact ⟨by rw [h, Bool.true_and], by first | rfl | trivial⟩
    · exact ⟨by rw [h, Bool.false_and], rfl⟩
  rintro b ρ ⟨rfl, rfl⟩
  refine w_if (fun h => ?_) fun h => ?_
  · clear (id c2)
    exact q _ (if_pos h)
  have r1 : rd t = if nameD (.str t) then some (.str t) else if numB t then some (.int (valT t)) else none := if_neg (by rw [h]; decide)
  clear (is_name_e (.str t))
  refine w_if (fun h => ?_) fun h => ?_
  · clear d_0
    exact q _ (r1.trans (if_pos h))
  have r2 : rd t = if numB t then some (.int (valT t)) else none := r1.trans (if_neg (by rw [h]; decide))
  clear (isnum_e t hl)
  refine w_if (fun h => ?_) fun h => ?_
  · have h : numB t = false := by simpa using h
    clear w_raise
    exact x (r2.trans (if_neg (by rw [h]; decide)))
  · have h : numB t = true := by simpa using h
    clear (int_e h)
    exact q _ (r2.trans (if_pos h))
end K05
namespace K05
open PySem L2 WS
local macro_rules | `(tactic| clear $ts*) => do { let ls ← ts.mapM fun t => `(Lean.Parser.Tactic.simpLemma| $t:term); `(tactic| simp -implicitDefEqProofs (disch := omega) only [id_eq, beq_self_eq_true, Int.reduceBEq, Int.reduceLT, Int.reduceLE, Int.reduceNeg, Int.reduceAdd, Int.reduceSub, Int.reduceMul, decide_true, decide_false, List.length_cons, List.length_nil, List.cons_append, List.nil_append, List.replicate, List.map_cons, List.map_nil, Nat.reduceAdd, Nat.reduceSub, Nat.reduceBEq, Bool.and_self, Bool.not_true, Bool.not_false, Bool.true_and, Bool.false_and, Int.cast_ofNat_Int, bind_ok, bindN_ok, sbind_ok, then_nx, then_rt, then_bk, then_ct, loop_nx, loop_ct, loop_bk, loop_rt, x_var, evV_fz, evV_lf, evV_ow, evV_le, evV_lk, x_con, v_fro, v_tmp, v_at, g_fz, g_ow, g_le, g_lf, g_lk, d_0, d_s, s_0, s_s, p_sc, p_nl, p_nd, p_nt, x_op, x_op1, x_op2, x_un, x_un1, x_nil, x_cons, x_cons1, x_cons2, x_fn, x_fn1, x_tup, x_tup1, x_tup2, x_lst, x_lst1, x_lst2, x_dct0, f_nil, f_cons, f_k, f_k2, z_fro, z_tmp, z_at, z_ow, z_le, z_fz, z_lf, x_bl, x_bl1, b_bl, x_tru, x_tru1, b_tru, b_some, x_nt, x_nt1, x_an, x_an_t, x_an_f, x_or, x_or_t, x_or_f, x_ean, x_ean_t, x_ean_f, x_eor, x_eor_t, x_eor_f, x_ent, x_ent1, x_eif, x_eif_t, x_eif_f, x_ch, x_cha, x_chb, x_chk_t, x_chk_f, x_ch1, x_ch2, x_part0, x_part, x_part1, x_outI, x_sl, x_sl0, x_sl1, x_sl2, x_call, x_callE, x_callT, x_callO, a_nil, a_fro, a_tmp, a_at, a_t, a_f, w_ow, w_le, w_lk, w_fz, w_lf, n_nil, n_one, n_two, m_nil, m_cons, t_fro, t_tmp, t_at, t_ow, t_le, t_fz, t_lf, q_wbs, q_nil, q_cons, u_nil, u_fro, u_tmp, u_at, u_t, u_f, h_none, h_owle, h_owlf, h_lele, h_lelf, h_fz, h_un, h_lf, h_lk, x_l1, x_l11, x_comp, x_comp_f, x_comp_t, x_comp1, x_compE, c_nil, c_cons, c_un, c_fz, o_itS, o_itL, o_itT, x_seq, x_set, x_put, x_putB, x_put_f, x_put_t, x_put_a, x_putF, l_fz, l_ow, l_un, x_if, x_if_t, x_if_f, x_nilS, x_ret, x_ret1, x_exp, x_exp1, x_sput, x_sput0, x_sput1, x_sput2, x_sput3, x_outT, x_setZ_ow, x_setZ_le, x_mut, x_mut0, x_mut1, x_mut2, x_mut3, x_outS, x_outZ_ow, x_outZ_le, o_add, o_sub, o_eqI, o_neI, o_eqS, o_neS, o_lt, o_le, o_gt, o_ge, o_lenN, o_lenS, o_lenL, o_lenT, o_abs, o_slS, o_slL, o_slT, x_wh_t, x_wh_f, o_neg, o_isi, ky_non, ky_bl, ky_int, ky_str, ky_tup, ky_lst, ky_dct, ky_scr, ky_err, y_str_err, y_int_err, y_bool_err, y_tuple_err, y_list_err, y_dict_err, y_str_NoneType, y_str_bool, y_str_int, y_str_str, y_str_tuple, y_str_list, y_str_dict, y_int_NoneType, y_int_bool, y_int_int, y_int_str, y_int_tuple, y_int_list, y_int_dict, y_bool_NoneType, y_bool_bool, y_bool_int, y_bool_str, y_bool_tuple, y_bool_list, y_bool_dict, y_tuple_NoneType, y_tuple_bool, y_tuple_int, y_tuple_str, y_tuple_tuple, y_tuple_list, y_tuple_dict, y_list_NoneType, y_list_bool, y_list_int, y_list_str, y_list_tuple, y_list_list, y_list_dict, y_dict_NoneType, y_dict_bool, y_dict_int, y_dict_str, y_dict_tuple, y_dict_list, y_dict_dict, fo_for, fo_for_f, fo_some, fo_nil, fo_t, fo_nx, w_ok, w_exn, w_K, w_bind, w_KS, w_sbind, w_nx, w_rt, w_bk, w_ct, w_sx, w_KT, w_then, w_turn, w_C, w_CX, w_call, w_fok, w_fx, w_Co, fo_ownS, fo_for_a, fo_for_t, fo_for_ff, x_sortK, x_sortK1, x_met, x_met0, x_met1, x_met2, x_asg, x_asg0, o_clear, o_reverse, x_asg1, x_optS, oo_lt, oo_ltS, o_rev, t_str, t_lst, t_dct, fo_forL, n_three, k_lock, k_nil, k_cons, k_any, k_t, k_f, k_ow, k_le, k_lk, k_un, k_u0, k_ulk, k_ufz, k_uun, k_uow, k_ule, k_ulf, fo_A, g_tgN, g_tgA, g_tgT, g_tg0, g_tgL, g_some, g_w0, g_w1, g_b0, g_b1, x_ownO, x_comp_a, x_compA, x_comp_ff, k_uself, k_any2, fo_for_aa, fo_B, o_itZ, o_itZt, o_eqB, o_neB, i_is, i_isn, i_n0, i_n1, i_n2, i_n3, i_n4, i_n5, i_n6, i_tlk, i_t0, i_t1, i_t2, i_t3, i_t4, i_t5, i_l0, i_l1, i_l2, i_l3, i_l4, i_l5, i_leI, i_leS, o_listD, o_listL, o_listT, if_true, ite_true, ite_false, Bool.and_true, Bool.not_not, o_mul2, o_mod, o_div, ev_addS1, ev_addL1, ev_addS, ev_addL, p_2, p_3, p_4, p_5, p_6, p_7, p_8, p_9, p_10, p_12, p_15, p_18, p_20, p_25, p_29, p_30, p_31, p_60, $ls,*]) }
section
variable {Q : R → List Sl → Prop} {X : Ex → List Sl → Prop}
theorem x1 : gIsX [("NoNode", false), ("NoFact", true)] (.err "NoFact" []) = some (.sc (.bl true)) := rfl
theorem x2 : gIsX [("NoNode", true), ("NoFact", true)] (.err "NoFact" []) = some (.sc (.bl true)) := rfl
theorem x3 : gIsX [("NoNode", true), ("NoFact", false)] (.err "NoFact" []) = some (.sc (.bl false)) := rfl
theorem blank : sg " " = [32] := by decide +kernel
/-- the fact that three words write -/
def rdW : List (List Nat) → Option D
  | [a, b, e] => if nameD (.str a) && nameD (.str b) then (rd e).map fun d => .tup [.str a, .str b, d] else none
  | _ => none
/-- the fact that a text writes -/
def rdF (t : List Nat) : Option D := rdW (cutAt 32 [] t)
theorem rdW_len {ws : List (List Nat)} (h : ws.length ≠ 3) : rdW ws = none := by
  match ws, h with
  | [], _ => rfl
  | [_], _ => rfl
  | [_, _], _ => rfl
  | [_, _, _], h => exact absurd rfl h
  | _ :: _ :: _ :: _ :: _, _ => rfl
theorem cut_len (t : List Nat) : (cutAt 32 [] t).length ≤ t.length + 1 := by
  have : ∀ (t acc : List Nat), (cutAt 32 acc t).length ≤ t.length + 1 := fun t => by
    induction t with
    | nil => intro acc; simp [cutAt]
    | cons x r ih =>
      intro acc
      unfold cutAt
      split
      · have := ih []; simp; omega
      · have := ih (acc ++ [x]); simp; omega
  exact this t []
theorem cut_all {t : List Nat} {n : Nat} (h : t.length ≤ n) : ∀ p ∈ cutAt 32 [] t, p.length ≤ n := fun p hp => by
  have := (cut_sub 32 t [] p hp).1
  simp at this
  omega
theorem readF_s {t : List Nat} (hl : t.length ≤ 400) (q : ∀ d, rdF t = some d → Q (.fro d) [.un]) (x : rdF t = none → X ⟨"NoFact", []⟩ [.un]) : wF (F_read_fact [.fz (.str t)]) Q X := by
  unfold F_read_fact
  with_reducible refine w_fn _ _ _ _ _ ?_
  unfold B_read_fact
  have is : gIsi "str" (.str t) = some (.sc (.bl true)) := rfl
  have hall := cut_all hl
  have os := o_split t 32 (by omega) (by omega)
  have hcl := cut_len t
  have hd : rdF t = rdW (cutAt 32 [] t) := rfl
  rw [hd] at q x
  generalize cutAt 32 [] t = ws at hall os hcl q x
  clear (id is) (id blank) (id os)
  by_cases h3 : ws.length = 3
  · match ws, h3 with
    | [a, b, e], _ =>
      have he : e.length ≤ 400 := hall e (by simp)
      have g0 : orG gIx gIxD (.lst [.str a, .str b, .str e]) (.int 0) = some (.sc (.str a)) := i_l0 _ _
      have g1 : orG gIx gIxD (.lst [.str a, .str b, .str e]) (.int 1) = some (.sc (.str b)) := i_l1 _ _ _
      have g2 : orG gIx gIxD (.lst [.str a, .str b, .str e]) (.int 2) = some (.sc (.str e)) := i_l2 _ _ _ _
      clear (id g0) (is_name_e (.str a))
      cases ha : nameD (.str a) with
      | false =>
        clear w_raise
        exact x (by simp [rdW, ha])
      | true =>
        clear (id g1) (is_name_e (.str b))
        cases hb : nameD (.str b) with
        | false =>
          clear w_raise
          exact x (by simp [rdW, ha, hb])
        | true =>
          clear d_0
          refine w_tryR _ _ _ _ _ _ _ _ _ ?_
          clear (id g2)
          refine read_s he (fun d hd => ?_) fun hd => ?_
          · clear (id g0) (id g1)
            exact q _ (by simp [rdW, ha, hb, hd])
          · clear d_0
            refine w_caughtR rfl ?_
            exact x (by simp [rdW, ha, hb, hd])
  · have n3 : decide (((ws.length : Nat) : Int) = 3) = false := decide_eq_false (by omega)
    have b3 : (((ws.length : Nat) : Int) == 3) = false := by simpa using n3
    clear List.length_map (id b3) w_raise
    exact x (rdW_len h3)
/-- what is told of a text -/
def tl (o : Option D) : List D := match o with
  | some d => [.str (sg "fact"), d]
  | none => [.str (sg "refused"), .bl true]
theorem told_s {t : List Nat} (hl : t.length ≤ 400) (q : Q (.tmp (.lst (tl (rdF t)))) [.un]) : wF (F__law_told [.fz (.str t)]) Q X := by
  unfold F__law_told
  with_reducible refine w_fn _ _ _ _ _ ?_
  unfold B__law_told
  clear w_try
  refine readF_s hl (fun d hd => ?_) fun hd => ?_
  · rw [hd] at q
    clear w_UN
    exact q
  · rw [hd] at q
    clear d_0
    refine w_caught rfl rfl ?_
    clear w_UN (id x1) (id x2) (id x3)
    exact q
theorem read_no {x : D} (h : isNm "str" (tyN x) = false) (q : X ⟨"NoFact", []⟩ [.un]) : wF (F_read_fact [.fz x]) Q X := by
  unfold F_read_fact
  with_reducible refine w_fn _ _ _ _ _ ?_
  unfold B_read_fact
  clear (id h) w_raise
  exact q
theorem told_no {x : D} (h : isNm "str" (tyN x) = false) (q : Q (.tmp (.lst (tl none))) [.un]) : wF (F__law_told [.fz x]) Q X := by
  unfold F__law_told
  with_reducible refine w_fn _ _ _ _ _ ?_
  unfold B__law_told
  clear w_try
  refine read_no h ?_
  clear d_0
  refine w_caught rfl rfl ?_
  clear w_UN (id x1) (id x2) (id x3)
  exact q
theorem rd_is {t : List Nat} {d : D} (h : rd t = some d) : (∃ s, d = .tup [.str s]) ∨ (∃ s, d = .str s) ∨ ∃ i, d = .int i := by
  unfold rd at h
  by_cases h1 : (decide (t.take 1 = [39]) && letB (t.drop 1)) = true
  · rw [if_pos h1] at h; cases h; exact .inl ⟨_, rfl⟩
  · rw [if_neg h1] at h
    by_cases h2 : nameD (.str t) = true
    · rw [if_pos h2] at h; cases h; exact .inr (.inl ⟨_, rfl⟩)
    · rw [if_neg h2] at h
      by_cases h3 : numB t = true
      · rw [if_pos h3] at h; cases h; exact .inr (.inr ⟨_, rfl⟩)
      · rw [if_neg h3] at h; cases h
theorem rdF_is {t : List Nat} {d : D} (h : rdF t = some d) : ∃ a b e, d = .tup [.str a, .str b, e] ∧ ((∃ s, e = .tup [.str s]) ∨ (∃ s, e = .str s) ∨ ∃ i, e = .int i) := by
  unfold rdF at h
  generalize cutAt 32 [] t = ws at h
  by_cases h3 : ws.length = 3
  · match ws, h3 with
    | [a, b, e], _ =>
      have h : (if nameD (.str a) && nameD (.str b) then (rd e).map fun d => D.tup [.str a, .str b, d] else none) = some d := h
      by_cases hn : (nameD (.str a) && nameD (.str b)) = true
      · rw [if_pos hn] at h
        cases hr : rd e with
        | none => rw [hr] at h; cases h
        | some x =>
          rw [hr] at h
          cases h
          exact ⟨a, b, x, rfl, rd_is hr⟩
      · rw [if_neg hn] at h; cases h
  · rw [rdW_len h3] at h; cases h
theorem nn : decide (sg "fact" = sg "fact") = true := by decide +kernel
theorem rf_dp : ok64 (.lst [.str (sg "refused"), .bl true]) = true := by decide +kernel
theorem rf_eq : eqD (.lst [.str (sg "refused"), .bl true]) (.lst [.str (sg "refused"), .bl true]) = true := by decide +kernel
theorem e00 : ok64 (.lst []) = true := by decide +kernel
theorem right_s {t : List Nat} (hl : t.length ≤ 400) (q : Q (.fro (.bl true)) [.un, .un]) : wF (F__law_right [.fz (.str t), .ow (.lst (rdF t).toList)]) Q X := by
  unfold F__law_right
  with_reducible refine w_fn _ _ _ _ _ ?_
  unfold B__law_right
  clear d_0
  refine told_s hl ?_
  cases hd : rdF t with
  | none =>
    have e1 : eqD (.lst []) (.lst []) = true := rfl
    unfold tl
    clear Option.toList_none
    refine w_eqD e00 e00 ?_
    clear (id e1)
    refine w_eqD rf_dp rf_dp ?_
    clear rf_eq
    exact q
  | some d =>
    obtain ⟨a, b, e, rfl, he⟩ := rdF_is hd
    have hde : dp e ≤ 1 := by rcases he with ⟨s, rfl⟩ | ⟨s, rfl⟩ | ⟨i, rfl⟩ <;> simp [dp, dps]
    have k1 : ok64 (.lst [.tup [.str a, .str b, e]]) = true := decide_eq_true (by simp only [dp, dps]; omega)
    have e1 : eqD (.lst [.tup [.str a, .str b, e]]) (.lst []) = false := rfl
    have kd : ok64 (.tup [.str a, .str b, e]) = true := decide_eq_true (by simp only [dp, dps]; omega)
    have e2 : eqD (.tup [.str a, .str b, e]) (.tup [.str a, .str b, e]) = true := eqD_refl _ (by simp only [dp, dps]; omega)
    have nb : isNm "bool" (tyN e) = false := by rcases he with ⟨s, rfl⟩ | ⟨s, rfl⟩ | ⟨i, rfl⟩ <;> rfl
    have g2 : orG gIx gIxD (.tup [.str a, .str b, e]) (.int 2) = some (.sc e) := i_t2 _ _ _ _
    unfold tl
    clear Option.toList_some
    refine w_eqD k1 e00 ?_
    clear (id e1) (id nn) (id g2) (id nb)
    refine w_eqD kd kd ?_
    clear (id e2)
    exact q
theorem right_no {x : D} (h : isNm "str" (tyN x) = false) (q : Q (.fro (.bl true)) [.un, .un]) : wF (F__law_right [.fz x, .ow (.lst [])]) Q X := by
  unfold F__law_right
  with_reducible refine w_fn _ _ _ _ _ ?_
  unfold B__law_right
  clear d_0
  refine told_no h ?_
  have e1 : eqD (.lst []) (.lst []) = true := rfl
  unfold tl
  clear d_0
  refine w_eqD e00 e00 ?_
  clear (id e1)
  refine w_eqD rf_dp rf_dp ?_
  clear rf_eq
  exact q
end
end K05
namespace K05
open PySem L2 WS
local macro_rules | `(tactic| clear $ts*) => do { let ls ← ts.mapM fun t => `(Lean.Parser.Tactic.simpLemma| $t:term); `(tactic| simp -implicitDefEqProofs (disch := omega) only [id_eq, beq_self_eq_true, Int.reduceBEq, Int.reduceLT, Int.reduceLE, Int.reduceNeg, Int.reduceAdd, Int.reduceSub, Int.reduceMul, decide_true, decide_false, List.length_cons, List.length_nil, List.cons_append, List.nil_append, List.replicate, List.map_cons, List.map_nil, Nat.reduceAdd, Nat.reduceSub, Nat.reduceBEq, Bool.and_self, Bool.not_true, Bool.not_false, Bool.true_and, Bool.false_and, Int.cast_ofNat_Int, bind_ok, bindN_ok, sbind_ok, then_nx, then_rt, then_bk, then_ct, loop_nx, loop_ct, loop_bk, loop_rt, x_var, evV_fz, evV_lf, evV_ow, evV_le, evV_lk, x_con, v_fro, v_tmp, v_at, g_fz, g_ow, g_le, g_lf, g_lk, d_0, d_s, s_0, s_s, p_sc, p_nl, p_nd, p_nt, x_op, x_op1, x_op2, x_un, x_un1, x_nil, x_cons, x_cons1, x_cons2, x_fn, x_fn1, x_tup, x_tup1, x_tup2, x_lst, x_lst1, x_lst2, x_dct0, f_nil, f_cons, f_k, f_k2, z_fro, z_tmp, z_at, z_ow, z_le, z_fz, z_lf, x_bl, x_bl1, b_bl, x_tru, x_tru1, b_tru, b_some, x_nt, x_nt1, x_an, x_an_t, x_an_f, x_or, x_or_t, x_or_f, x_ean, x_ean_t, x_ean_f, x_eor, x_eor_t, x_eor_f, x_ent, x_ent1, x_eif, x_eif_t, x_eif_f, x_ch, x_cha, x_chb, x_chk_t, x_chk_f, x_ch1, x_ch2, x_part0, x_part, x_part1, x_outI, x_sl, x_sl0, x_sl1, x_sl2, x_call, x_callE, x_callT, x_callO, a_nil, a_fro, a_tmp, a_at, a_t, a_f, w_ow, w_le, w_lk, w_fz, w_lf, n_nil, n_one, n_two, m_nil, m_cons, t_fro, t_tmp, t_at, t_ow, t_le, t_fz, t_lf, q_wbs, q_nil, q_cons, u_nil, u_fro, u_tmp, u_at, u_t, u_f, h_none, h_owle, h_owlf, h_lele, h_lelf, h_fz, h_un, h_lf, h_lk, x_l1, x_l11, x_comp, x_comp_f, x_comp_t, x_comp1, x_compE, c_nil, c_cons, c_un, c_fz, o_itS, o_itL, o_itT, x_seq, x_set, x_put, x_putB, x_put_f, x_put_t, x_put_a, x_putF, l_fz, l_ow, l_un, x_if, x_if_t, x_if_f, x_nilS, x_ret, x_ret1, x_exp, x_exp1, x_sput, x_sput0, x_sput1, x_sput2, x_sput3, x_outT, x_setZ_ow, x_setZ_le, x_mut, x_mut0, x_mut1, x_mut2, x_mut3, x_outS, x_outZ_ow, x_outZ_le, o_add, o_sub, o_eqI, o_neI, o_eqS, o_neS, o_lt, o_le, o_gt, o_ge, o_lenN, o_lenS, o_lenL, o_lenT, o_abs, o_slS, o_slL, o_slT, x_wh_t, x_wh_f, o_neg, o_isi, ky_non, ky_bl, ky_int, ky_str, ky_tup, ky_lst, ky_dct, ky_scr, ky_err, y_str_err, y_int_err, y_bool_err, y_tuple_err, y_list_err, y_dict_err, y_str_NoneType, y_str_bool, y_str_int, y_str_str, y_str_tuple, y_str_list, y_str_dict, y_int_NoneType, y_int_bool, y_int_int, y_int_str, y_int_tuple, y_int_list, y_int_dict, y_bool_NoneType, y_bool_bool, y_bool_int, y_bool_str, y_bool_tuple, y_bool_list, y_bool_dict, y_tuple_NoneType, y_tuple_bool, y_tuple_int, y_tuple_str, y_tuple_tuple, y_tuple_list, y_tuple_dict, y_list_NoneType, y_list_bool, y_list_int, y_list_str, y_list_tuple, y_list_list, y_list_dict, y_dict_NoneType, y_dict_bool, y_dict_int, y_dict_str, y_dict_tuple, y_dict_list, y_dict_dict, fo_for, fo_for_f, fo_some, fo_nil, fo_t, fo_nx, w_ok, w_exn, w_K, w_bind, w_KS, w_sbind, w_nx, w_rt, w_bk, w_ct, w_sx, w_KT, w_then, w_turn, w_C, w_CX, w_call, w_fok, w_fx, w_Co, fo_ownS, fo_for_a, fo_for_t, fo_for_ff, x_sortK, x_sortK1, x_met, x_met0, x_met1, x_met2, x_asg, x_asg0, o_clear, o_reverse, x_asg1, x_optS, oo_lt, oo_ltS, o_rev, t_str, t_lst, t_dct, fo_forL, n_three, k_lock, k_nil, k_cons, k_any, k_t, k_f, k_ow, k_le, k_lk, k_un, k_u0, k_ulk, k_ufz, k_uun, k_uow, k_ule, k_ulf, fo_A, g_tgN, g_tgA, g_tgT, g_tg0, g_tgL, g_some, g_w0, g_w1, g_b0, g_b1, x_ownO, x_comp_a, x_compA, x_comp_ff, k_uself, k_any2, fo_for_aa, fo_B, o_itZ, o_itZt, o_eqB, o_neB, i_is, i_isn, i_n0, i_n1, i_n2, i_n3, i_n4, i_n5, i_n6, i_tlk, i_t0, i_t1, i_t2, i_t3, i_t4, i_t5, i_l0, i_l1, i_l2, i_l3, i_l4, i_l5, i_leI, i_leS, o_listD, o_listL, o_listT, if_true, ite_true, ite_false, Bool.and_true, Bool.not_not, o_mul2, o_mod, o_div, ev_addS1, ev_addL1, ev_addS, ev_addL, p_2, p_3, p_4, p_5, p_6, p_7, p_8, p_9, p_10, p_12, p_15, p_18, p_20, p_25, p_29, p_30, p_31, p_60, $ls,*]) }
theorem figs_snoc (pre : List Nat) (x : Nat) : figs (pre ++ [x]) = figs pre * 10 + (x - 48) := by
  unfold figs
  rw [List.foldl_append]; rfl
theorem idx_fig {x : Nat} (h : 48 ≤ x ∧ x ≤ 57) : (sg "0123456789").idxOf x = x - 48 := by
  have all : ∀ k, k < 10 → (sg "0123456789").idxOf (48 + k) = k := by decide +kernel
  have := all (x - 48) (by omega)
  rwa [show 48 + (x - 48) = x by omega] at this
theorem only_e (s w : List Nat) (hs : s.length ≤ 400) : F__law_has_only [.fz (.str s), .fz (.str w)] = .ok (.fro (.bl (s.all fun c => decide (c ∈ w)))) [.un, .un] := by
  refine wF_eq ?_
  unfold F__law_has_only
  with_reducible refine w_fn _ _ _ _ _ ?_
  unfold B__law_has_only
  clear d_0
  refine w_compE ?_
  refine comp_s (fun rest acc ρ => ∃ pre post, s = pre ++ post ∧ rest = post.map (fun n => .str [n]) ∧ acc = (pre.filter fun c => !decide (c ∈ w)).map (fun c => .str [c]) ∧ ρ = [.fz (.str s), .fz (.str w), .un]) ?_ ?_ _ _ _ ?_
  · rintro d rest acc ρ ⟨pre, post, e, er, rfl, rfl⟩
    cases post with
    | nil => cases er
    | cons c post =>
      cases er
      refine ⟨_, by clear d_0; rfl, ?_⟩
      have hp : pre.length ≤ s.length := by rw [e]; simp
      have hf : (pre.filter fun c => !decide (c ∈ w)).length ≤ pre.length := List.length_filter_le _ _
      cases hc : decide (c ∈ w) with
      | true =>
        clear o_ninS (id hc)
        exact ⟨pre ++ [c], post, by rw [e]; simp, rfl, by rw [List.filter_append, List.filter_cons, hc]; simp, by first | rfl | trivial⟩
      | false =>
        clear o_ninS (id hc)
        exact ⟨decide_eq_true (by rw [List.length_map]; omega), pre ++ [c], post, by rw [e]; simp, rfl, by rw [List.filter_append, List.filter_cons, hc]; simp, by first | rfl | trivial⟩
  · rintro acc ρ ⟨pre, post, e, er, rfl, rfl⟩
    obtain rfl : post = [] := by cases post <;> first | rfl | cases er
    rw [List.append_nil] at e
    subst e
    have dl : dp (.lst ((s.filter fun c => !decide (c ∈ w)).map (fun c => D.str [c]))) ≤ 1 := by
      have := dps_le (n := 0) (xs := (s.filter fun c => !decide (c ∈ w)).map (fun c => D.str [c])) fun x hx => by
        obtain ⟨c, _, rfl⟩ := List.mem_map.mp hx
        simp [dp]
      simp only [dp]; omega
    have k1 : ok64 (.lst ((s.filter fun c => !decide (c ∈ w)).map (fun c => D.str [c]))) = true := decide_eq_true (by omega)
    have ev : eqD (.lst ((s.filter fun c => !decide (c ∈ w)).map (fun c => D.str [c]))) (.lst []) = s.all fun c => decide (c ∈ w) := by
      cases ha : (s.filter fun c => !decide (c ∈ w)) with
      | nil =>
        have : s.all (fun c => decide (c ∈ w)) = true := by
          rw [List.all_eq_true]
          intro c hc
          have := List.filter_eq_nil_iff.mp ha c hc
          simpa using this
        rw [this]; rfl
      | cons x l =>
        have hx : x ∈ s.filter fun c => !decide (c ∈ w) := by rw [ha]; simp
        obtain ⟨h1, h2⟩ := List.mem_filter.mp hx
        have : s.all (fun c => decide (c ∈ w)) = false := by
          rw [Bool.eq_false_iff]
          intro h
          have := List.all_eq_true.mp h x h1
          rw [this] at h2
          cases h2
        rw [this]; rfl
    clear d_0
    refine w_eqD k1 e00 ?_
    clear (id ev)
    exact ⟨rfl, rfl⟩
  · exact ⟨[], s, rfl, rfl, rfl, rfl⟩
theorem let_dec2 (c : Nat) : decide (c ∈ sg "abcdefghijklmnopqrstuvwxyz") = (decide (97 ≤ c) && decide (c ≤ 122)) := by
  rw [Bool.eq_iff_iff, decide_eq_true_iff, let_mem, Bool.and_eq_true, decide_eq_true_iff, decide_eq_true_iff]
theorem name_no {c : Nat} {r : List Nat} (h : ¬ (97 ≤ c ∧ c ≤ 122)) : nameD (.str (c :: r)) = false := by
  rw [Bool.eq_false_iff]
  intro hn
  obtain ⟨s, e, _, _, hl⟩ := nameD_iff.mp hn
  cases e
  exact h (hl c (by simp))
theorem name_of {c : Nat} {r : List Nat} : nameD (.str (c :: r)) = letB (c :: r) := by
  show (!decide (c :: r = []) && letB (c :: r)) = _
  simp
theorem num_no {c : Nat} {r : List Nat} (h : ¬ (48 ≤ c ∧ c ≤ 57)) (h2 : c ≠ 45) : numB (c :: r) = false := by
  have ne : ¬ (c :: r).take 1 = [45] := fun e => h2 (by injection e)
  have eb : bodyT (c :: r) = c :: r := if_neg ne
  have hf : isFig c = false := by
    unfold isFig
    rw [Bool.eq_false_iff]
    intro e
    rw [Bool.and_eq_true, decide_eq_true_iff, decide_eq_true_iff] at e
    exact h e
  unfold numB
  rw [eb, List.all_cons, hf]
  simp
theorem rep1 (x : D) : repN (1 : Int).toNat [x] = [x] := rfl
theorem rep0 (x : D) : repN (0 : Int).toNat [x] = [] := rfl
theorem ii_t : (orF (g1 gInt) (g1 gIntT)) [.bl true] = some (.sc (.int 1)) := rfl
theorem ii_f : (orF (g1 gInt) (g1 gIntT)) [.bl false] = some (.sc (.int 0)) := rfl
section
variable {Q : R → List Sl → Prop} {X : Ex → List Sl → Prop}
theorem lname_e (s : List Nat) (hs : s.length ≤ 400) : F__law_name [.fz (.str s)] = .ok (.fro (.bl (nameD (.str s)))) [.un] := by
  refine wF_eq ?_
  unfold F__law_name
  with_reducible refine w_fn _ _ _ _ _ ?_
  unfold B__law_name
  have hn : nameD (.str s) = (!decide (s = []) && (decide (s.length ≤ 8) && s.all fun c => decide (c ∈ sg "abcdefghijklmnopqrstuvwxyz"))) := rfl
  by_cases h1 : 1 ≤ s.length
  · have ne : s ≠ [] := fun e => by rw [e] at h1; exact absurd h1 (by decide)
    have c1 : decide ((1 : Int) ≤ s.length) = true := decide_eq_true (by omega)
    by_cases h8 : s.length ≤ 8
    · have c2 : decide ((s.length : Int) ≤ 8) = true := decide_eq_true (by omega)
      clear (id c1) (id c2) (only_e s (sg "abcdefghijklmnopqrstuvwxyz") hs)
      rw [hn, decide_eq_true h8, decide_eq_false ne]
      exact ⟨by simp, rfl⟩
    · have c2 : decide ((s.length : Int) ≤ 8) = false := decide_eq_false (by omega)
      clear (id c1) (id c2)
      rw [hn, decide_eq_false h8]
      exact ⟨by simp, rfl⟩
  · have c1 : decide ((1 : Int) ≤ s.length) = false := decide_eq_false (by omega)
    have e : s = [] := by cases s with | nil => rfl | cons => simp at h1
    clear (id c1)
    rw [hn, decide_eq_true e]
    exact ⟨by simp, rfl⟩
theorem rd_name {s : List Nat} (h : nameD (.str s) = true) : rd s = some (.str s) := by
  obtain ⟨s', e, _, _, hl⟩ := nameD_iff.mp h
  cases e
  unfold rd
  rw [if_neg, if_pos h]
  intro z
  rw [Bool.and_eq_true, decide_eq_true_eq] at z
  cases s with
  | nil => cases z.1
  | cons c r =>
    have hc := hl c (by simp)
    have : c = 39 := by injection z.1
    omega
theorem lend_s {t : List Nat} (hl : t.length ≤ 400) (q : Q (.tmp (.lst (rd t).toList)) [.un]) : wF (F__law_end_read [.fz (.str t)]) Q X := by
  unfold F__law_end_read
  with_reducible refine w_fn _ _ _ _ _ ?_
  unfold B__law_end_read
  have em : sg "" = [] := by decide +kernel
  have ap : sg "'" = [39] := by decide +kernel
  have c1 : cutL t none (some 1) = t.take 1 := cut_to _ (by omega)
  have c2 : cutL t (some 1) none = t.drop 1 := cut_from _ (by omega)
  clear (lname_e t hl)
  refine w_if (fun h => ?_) fun h => ?_
  · rw [rd_name h] at q
    clear d_0
    exact q
  have hname : nameD (.str t) = false := h
  clear (id c1) (id ap)
  refine w_if (fun h => ?_) fun h => ?_
  · rw [decide_eq_true_iff] at h
    have hr : rd t = if letB (t.drop 1) then some (.tup [.str (t.drop 1)]) else none := by
      unfold rd
      rw [decide_eq_true h, hname]
      have hn : numB t = false := by
        cases t with
        | nil => cases h
        | cons c r =>
          have : c = 39 := by injection h
          subst this
          exact num_no (by omega) (by omega)
      rw [hn]
      simp
    obtain ⟨r, rfl⟩ : ∃ r, t = 39 :: r := by
      cases t with
      | nil => cases h
      | cons c r =>
        refine ⟨r, ?_⟩
        have : c = 39 := by injection h
        rw [this]
    have d1 : (39 :: r).drop 1 = r := rfl
    rw [d1] at hr c2
    clear (id c2)
    cases hx : decide (39 :: r = [39]) with
    | true =>
      rw [decide_eq_true_iff] at hx
      obtain rfl : r = [] := by injection hx
      rw [hr, if_pos (by rfl)] at q
      clear ii_t
      refine w_mulL (by omega) (by omega) (by simp) ?_
      clear (id rep1)
      exact q
    | false =>
      rw [decide_eq_false_iff_not] at hx
      have hrn : r ≠ [] := fun e => hx (by rw [e])
      clear (id c2) (lname_e r (by simp at hl; omega))
      have el : nameD (.str r) = letB r := by
        cases r with
        | nil => exact absurd rfl hrn
        | cons => exact name_of
      rw [el]
      cases hb : letB r with
      | true =>
        rw [hr, if_pos hb] at q
        clear ii_t
        refine w_mulL (by omega) (by omega) (by simp) ?_
        clear (id rep1)
        exact q
      | false =>
        rw [hr, if_neg (by rw [hb]; decide)] at q
        clear ii_f
        refine w_mulL (by omega) (by omega) (by simp) ?_
        clear (id rep0)
        exact q
  rw [decide_eq_false_iff_not] at h
  have hr : rd t = if numB t then some (.int (valT t)) else none := by
    unfold rd
    rw [decide_eq_false h, hname]
    rfl
  obtain ⟨k, hk, ek, ck⟩ : ∃ k : Int, (k = 1 ∧ t.take 1 = [45] ∨ k = 0 ∧ t.take 1 ≠ [45]) ∧ (orF (g1 gInt) (g1 gIntT)) [.bl (decide (t.take 1 = sg "-"))] = some (.sc (.int k)) ∧ cutL t (some k) none = bodyT t := by
    by_cases hc : t.take 1 = [45]
    · refine ⟨1, .inl ⟨rfl, hc⟩, ?_, ?_⟩
      · rw [minus_sg, decide_eq_true hc]; rfl
      · rw [c2]; exact (if_pos hc).symm
    · refine ⟨0, .inr ⟨rfl, hc⟩, ?_, ?_⟩
      · rw [minus_sg, decide_eq_false hc]; rfl
      · rw [cut_from _ (by omega)]; exact (if_neg hc).symm
  have hbl : (bodyT t).length ≤ 400 := by
    unfold bodyT
    split
    · rw [List.length_drop]; omega
    · exact hl
  have hnum : numB t = (decide (1 ≤ (bodyT t).length ∧ (bodyT t).length ≤ 30) && ((bodyT t).all isFig && (decide ((bodyT t).take 1 ≠ [48]) || decide (t = [48])))) := rfl
  have hval : valT t = if t.take 1 = [45] then -(figs (bodyT t) : Int) else (figs (bodyT t) : Int) := rfl
  clear (id c1) (id ek) (id ck)
  generalize bodyT t = b at hbl hnum hval
  have eall : (b.all fun c => decide (c ∈ sg "0123456789")) = b.all isFig := by
    congr 1
    funext c
    exact fig_dec c
  refine cut_e (fun v ρ => v = !(decide (1 ≤ b.length ∧ b.length ≤ 30) && b.all isFig) ∧ ρ = [.fz (.str t), .fz (.str b), .un, .un]) ?_ ?_
  · refine w_or (fun h => ?_) fun h => ?_
    · rw [decide_eq_true_iff, em] at h
      refine ⟨?_, rfl⟩
      rw [h]
      rfl
    · rw [decide_eq_false_iff_not, em] at h
      have h1 : 1 ≤ b.length := by
        cases b with
        | nil => exact absurd rfl h
        | cons x l => simp
      clear d_0
      refine w_or (fun h => ?_) fun h => ?_
      · rw [decide_eq_true_iff] at h
        refine ⟨?_, rfl⟩
        rw [decide_eq_false (show ¬ (1 ≤ b.length ∧ b.length ≤ 30) by omega)]
        rfl
      · rw [decide_eq_false_iff_not] at h
        clear (only_e b (sg "0123456789") hbl)
        refine ⟨?_, by first | rfl | trivial⟩
        rw [eall, decide_eq_true (show (1 ≤ b.length ∧ b.length ≤ 30) by omega), Bool.true_and]
  rintro v ρ ⟨rfl, rfl⟩
  refine w_if (fun h => ?_) fun h => ?_
  · have h : (decide (1 ≤ b.length ∧ b.length ≤ 30) && b.all isFig) = false := by rw [Bool.not_eq_true'] at h; exact h
    have n0 : numB t = false := by
      rw [hnum]
      cases hx : decide (1 ≤ b.length ∧ b.length ≤ 30) with
      | false => rfl
      | true =>
        rw [hx, Bool.true_and] at h
        rw [h]; rfl
    rw [hr, n0] at q
    clear d_0
    exact q
  have h : (decide (1 ≤ b.length ∧ b.length ≤ 30) && b.all isFig) = true := by rw [Bool.not_eq_false'] at h; exact h
  rw [Bool.and_eq_true, decide_eq_true_iff] at h
  obtain ⟨⟨hb1, hb30⟩, hfig⟩ := h
  cases b with
  | nil => exact absurd hb1 (by decide)
  | cons c' r' =>
    have i0' := i_s0 c' r'
    have hnum' : numB t = (decide (c' ≠ 48) || decide (t = [48])) := by
      rw [hnum, hfig, decide_eq_true ⟨hb1, hb30⟩, Bool.true_and, Bool.true_and]
      congr 1
      rw [Bool.eq_iff_iff, decide_eq_true_iff, decide_eq_true_iff]
      show ¬ [c'] = [48] ↔ _
      simp
    clear (id i0') zero_sg
    refine cut_e (fun v ρ => v = (!numB t) ∧ ρ = [.fz (.str t), .fz (.str (c' :: r')), .un, .un]) ?_ ?_
    · refine w_an (fun h => ?_) fun h => ?_
      · rw [decide_eq_true_iff] at h
        have hc : c' = 48 := by injection h
        clear zero_sg
        refine ⟨?_, by first | rfl | trivial⟩
        rw [hnum', hc]
        simp
      · rw [decide_eq_false_iff_not] at h
        have hc : c' ≠ 48 := fun e => h (by rw [e])
        refine ⟨?_, rfl⟩
        rw [hnum', decide_eq_true hc]
        rfl
    rintro v ρ ⟨rfl, rfl⟩
    refine w_if (fun h => ?_) fun h => ?_
    · have h : numB t = false := by simpa using h
      rw [hr, h] at q
      clear d_0
      exact q
    have h : numB t = true := by simpa using h
    rw [hr, if_pos h, hval] at q
    clear d_0
    refine for_s (fun items ρ => ∃ (pre post : List Nat) (s4 : Sl), c' :: r' = pre ++ post ∧ items = post.map (fun n => .str [n]) ∧ ρ = [.fz (.str t), .fz (.str (c' :: r')), .fz (.int (figs pre : Nat)), s4] ∧ s4.lent = false ∧ figs pre < 10 ^ pre.length) ?_ ?_ _ _ ?_
    · rintro d items ρ ⟨pre, post, s4, e, ei, rfl, h4, hlt⟩
      cases post with
      | nil => cases ei
      | cons x post =>
        cases ei
        have hx : 48 ≤ x ∧ x ≤ 57 := figs_all hfig x (by rw [e]; simp)
        have hxm : x ∈ sg "0123456789" := fig_mem.mpr hx
        have hpl : pre.length ≤ 30 := by
          have e' := congrArg List.length e
          have hb := hb30
          simp only [List.length_append, List.length_cons] at e' hb
          omega
        have hv : figs pre < 10 ^ 30 := Nat.lt_of_lt_of_le hlt (Nat.pow_le_pow_right (by omega) hpl)
        refine ⟨_, by clear (id h4); rfl, ?_⟩
        clear d_0
        refine w_idx hxm ?_
        rw [idx_fig hx]
        clear d_0
        refine ⟨pre ++ [x], post, .fz (.str [x]), by rw [e]; simp, rfl, ?_, rfl, ?_⟩
        · rw [figs_snoc, show ((figs pre * 10 + (x - 48) : Nat) : Int) = 10 * (figs pre : Int) + ((x - 48 : Nat) : Int) by omega]
        · rw [figs_snoc, List.length_append, List.length_singleton, Nat.pow_succ]
          omega
    · rintro ρ ⟨pre, post, s4, e, ei, rfl, h4, hlt⟩
      cases post with
      | cons x post => cases ei
      | nil =>
        rw [List.append_nil] at e
        rw [e] at q
        clear (id c1) (id ek)
        rcases hk with ⟨rfl, hc⟩ | ⟨rfl, hc⟩
        · rw [if_pos hc] at q
          clear d_0
          rw [Int.zero_sub]
          exact q
        · rw [if_neg hc] at q
          clear d_0
          exact q
    · exact ⟨[], c' :: r', _, rfl, rfl, rfl, rfl, by decide⟩
theorem lread_s {t : List Nat} (hl : t.length ≤ 400) (q : Q (.tmp (.lst (rdF t).toList)) [.un]) : wF (F__law_read [.fz (.str t)]) Q X := by
  unfold F__law_read
  with_reducible refine w_fn _ _ _ _ _ ?_
  unfold B__law_read
  have hall := cut_all hl
  have os := o_split t 32 (by omega) (by omega)
  have hcl := cut_len t
  have hd : rdF t = rdW (cutAt 32 [] t) := rfl
  rw [hd] at q
  generalize cutAt 32 [] t = ws at hall os hcl q
  clear (id blank) (id os)
  by_cases h3 : ws.length = 3
  · match ws, h3 with
    | [a, b, e], _ =>
      have he : e.length ≤ 400 := hall e (by simp)
      have g0 : orG gIx gIxD (.lst [.str a, .str b, .str e]) (.int 0) = some (.sc (.str a)) := i_l0 _ _
      have g1 : orG gIx gIxD (.lst [.str a, .str b, .str e]) (.int 1) = some (.sc (.str b)) := i_l1 _ _ _
      have g2 : orG gIx gIxD (.lst [.str a, .str b, .str e]) (.int 2) = some (.sc (.str e)) := i_l2 _ _ _ _
      clear (id g0) (lname_e a (hall a (by simp)))
      cases ha : nameD (.str a) with
      | false =>
        have e0 : rdW [a, b, e] = none := by simp [rdW, ha]
        rw [e0] at q
        clear d_0
        exact q
      | true =>
        clear (id g1) (lname_e b (hall b (by simp)))
        cases hb : nameD (.str b) with
        | false =>
          have e0 : rdW [a, b, e] = none := by simp [rdW, ha, hb]
          rw [e0] at q
          clear d_0
          exact q
        | true =>
          clear (id g2)
          refine lend_s he ?_
          have e0 : rdW [a, b, e] = (rd e).map fun d => .tup [.str a, .str b, d] := by simp [rdW, ha, hb]
          rw [e0] at q
          clear d_0
          refine w_compE ?_
          cases hr : rd e with
          | none =>
            rw [hr] at q
            exact q
          | some d =>
            rw [hr] at q
            clear Option.toList_some (id g0) (id g1)
            exact q
  · have b3 : (((ws.length : Nat) : Int) == 3) = false := by
      rw [beq_eq_false_iff_ne]; omega
    rw [rdW_len h3] at q
    clear List.length_map (id b3)
    exact q
end
end K05
namespace K05
open PySem L2 WS
local macro_rules | `(tactic| clear $ts*) => do { let ls ← ts.mapM fun t => `(Lean.Parser.Tactic.simpLemma| $t:term); `(tactic| simp -implicitDefEqProofs (disch := omega) only [id_eq, beq_self_eq_true, Int.reduceBEq, Int.reduceLT, Int.reduceLE, Int.reduceNeg, Int.reduceAdd, Int.reduceSub, Int.reduceMul, decide_true, decide_false, List.length_cons, List.length_nil, List.cons_append, List.nil_append, List.replicate, List.map_cons, List.map_nil, Nat.reduceAdd, Nat.reduceSub, Nat.reduceBEq, Bool.and_self, Bool.not_true, Bool.not_false, Bool.true_and, Bool.false_and, Int.cast_ofNat_Int, bind_ok, bindN_ok, sbind_ok, then_nx, then_rt, then_bk, then_ct, loop_nx, loop_ct, loop_bk, loop_rt, x_var, evV_fz, evV_lf, evV_ow, evV_le, evV_lk, x_con, v_fro, v_tmp, v_at, g_fz, g_ow, g_le, g_lf, g_lk, d_0, d_s, s_0, s_s, p_sc, p_nl, p_nd, p_nt, x_op, x_op1, x_op2, x_un, x_un1, x_nil, x_cons, x_cons1, x_cons2, x_fn, x_fn1, x_tup, x_tup1, x_tup2, x_lst, x_lst1, x_lst2, x_dct0, f_nil, f_cons, f_k, f_k2, z_fro, z_tmp, z_at, z_ow, z_le, z_fz, z_lf, x_bl, x_bl1, b_bl, x_tru, x_tru1, b_tru, b_some, x_nt, x_nt1, x_an, x_an_t, x_an_f, x_or, x_or_t, x_or_f, x_ean, x_ean_t, x_ean_f, x_eor, x_eor_t, x_eor_f, x_ent, x_ent1, x_eif, x_eif_t, x_eif_f, x_ch, x_cha, x_chb, x_chk_t, x_chk_f, x_ch1, x_ch2, x_part0, x_part, x_part1, x_outI, x_sl, x_sl0, x_sl1, x_sl2, x_call, x_callE, x_callT, x_callO, a_nil, a_fro, a_tmp, a_at, a_t, a_f, w_ow, w_le, w_lk, w_fz, w_lf, n_nil, n_one, n_two, m_nil, m_cons, t_fro, t_tmp, t_at, t_ow, t_le, t_fz, t_lf, q_wbs, q_nil, q_cons, u_nil, u_fro, u_tmp, u_at, u_t, u_f, h_none, h_owle, h_owlf, h_lele, h_lelf, h_fz, h_un, h_lf, h_lk, x_l1, x_l11, x_comp, x_comp_f, x_comp_t, x_comp1, x_compE, c_nil, c_cons, c_un, c_fz, o_itS, o_itL, o_itT, x_seq, x_set, x_put, x_putB, x_put_f, x_put_t, x_put_a, x_putF, l_fz, l_ow, l_un, x_if, x_if_t, x_if_f, x_nilS, x_ret, x_ret1, x_exp, x_exp1, x_sput, x_sput0, x_sput1, x_sput2, x_sput3, x_outT, x_setZ_ow, x_setZ_le, x_mut, x_mut0, x_mut1, x_mut2, x_mut3, x_outS, x_outZ_ow, x_outZ_le, o_add, o_sub, o_eqI, o_neI, o_eqS, o_neS, o_lt, o_le, o_gt, o_ge, o_lenN, o_lenS, o_lenL, o_lenT, o_abs, o_slS, o_slL, o_slT, x_wh_t, x_wh_f, o_neg, o_isi, ky_non, ky_bl, ky_int, ky_str, ky_tup, ky_lst, ky_dct, ky_scr, ky_err, y_str_err, y_int_err, y_bool_err, y_tuple_err, y_list_err, y_dict_err, y_str_NoneType, y_str_bool, y_str_int, y_str_str, y_str_tuple, y_str_list, y_str_dict, y_int_NoneType, y_int_bool, y_int_int, y_int_str, y_int_tuple, y_int_list, y_int_dict, y_bool_NoneType, y_bool_bool, y_bool_int, y_bool_str, y_bool_tuple, y_bool_list, y_bool_dict, y_tuple_NoneType, y_tuple_bool, y_tuple_int, y_tuple_str, y_tuple_tuple, y_tuple_list, y_tuple_dict, y_list_NoneType, y_list_bool, y_list_int, y_list_str, y_list_tuple, y_list_list, y_list_dict, y_dict_NoneType, y_dict_bool, y_dict_int, y_dict_str, y_dict_tuple, y_dict_list, y_dict_dict, fo_for, fo_for_f, fo_some, fo_nil, fo_t, fo_nx, w_ok, w_exn, w_K, w_bind, w_KS, w_sbind, w_nx, w_rt, w_bk, w_ct, w_sx, w_KT, w_then, w_turn, w_C, w_CX, w_call, w_fok, w_fx, w_Co, fo_ownS, fo_for_a, fo_for_t, fo_for_ff, x_sortK, x_sortK1, x_met, x_met0, x_met1, x_met2, x_asg, x_asg0, o_clear, o_reverse, x_asg1, x_optS, oo_lt, oo_ltS, o_rev, t_str, t_lst, t_dct, fo_forL, n_three, k_lock, k_nil, k_cons, k_any, k_t, k_f, k_ow, k_le, k_lk, k_un, k_u0, k_ulk, k_ufz, k_uun, k_uow, k_ule, k_ulf, fo_A, g_tgN, g_tgA, g_tgT, g_tg0, g_tgL, g_some, g_w0, g_w1, g_b0, g_b1, x_ownO, x_comp_a, x_compA, x_comp_ff, k_uself, k_any2, fo_for_aa, fo_B, o_itZ, o_itZt, o_eqB, o_neB, i_is, i_isn, i_n0, i_n1, i_n2, i_n3, i_n4, i_n5, i_n6, i_tlk, i_t0, i_t1, i_t2, i_t3, i_t4, i_t5, i_l0, i_l1, i_l2, i_l3, i_l4, i_l5, i_leI, i_leS, o_listD, o_listL, o_listT, if_true, ite_true, ite_false, Bool.and_true, Bool.not_not, o_mul2, o_mod, o_div, ev_addS1, ev_addL1, ev_addS, ev_addL, p_2, p_3, p_4, p_5, p_6, p_7, p_8, p_9, p_10, p_12, p_15, p_18, p_20, p_25, p_29, p_30, p_31, p_60, $ls,*]) }
theorem figs_cons (c : Nat) : ∀ cs : List Nat, figs (c :: cs) = (c - 48) * 10 ^ cs.length + figs cs := fun cs => by
  have go : ∀ (cs : List Nat) (a : Nat), cs.foldl (fun n c => n * 10 + (c - 48)) a = a * 10 ^ cs.length + figs cs := by
    intro cs
    induction cs with
    | nil => intro a; simp [figs]
    | cons x cs ih =>
      intro a
      unfold figs
      rw [List.foldl_cons, List.foldl_cons, ih, ih, List.length_cons, Nat.pow_succ, Nat.zero_mul, Nat.zero_add, Nat.add_mul, Nat.mul_assoc, Nat.mul_comm 10, Nat.add_assoc]
  unfold figs
  rw [List.foldl_cons, go, Nat.zero_mul, Nat.zero_add]
  rfl
/-- the figures of a number, as they are written -/
def Wr (cs : List Nat) : Prop := cs.all isFig = true ∧ 1 ≤ cs.length ∧ cs.length ≤ 30 ∧ (cs.length = 1 ∨ ∃ c r, cs = c :: r ∧ 49 ≤ c)
theorem wr_str {cs : List Nat} (h : Wr cs) : sg (toString (figs cs)) = cs := by
  obtain ⟨h1, h2, h3, h4⟩ := h
  have e := PySem.NumText.toDigits_digitsVal (cs.length - 1) cs (by omega) (figs_all h1) (h4.imp (fun e => by omega) id)
  have et : (toString (figs cs)).toList = Nat.toDigits 10 (figs cs) := by simp [toString, Nat.repr]
  unfold sg
  rw [et, show Nat.toDigits 10 (figs cs) = cs.map Char.ofNat from e, List.map_map]
  have all : ∀ k, k < 10 → (Char.ofNat (48 + k)).toNat = 48 + k := by decide
  have id' : ∀ c ∈ cs, (Char.toNat ∘ Char.ofNat) c = c := fun c hc => by
    have h := figs_all h1 c hc
    have := all (c - 48) (by omega)
    rwa [show 48 + (c - 48) = c by omega] at this
  rw [List.map_congr_left id', List.map_id']
theorem fig_at {c : Nat} {i : Int} (h0 : 0 ≤ i) (h1 : i < 10) (h : (sg "0123456789")[i.toNat]? = some c) : c = 48 + i.toNat := by
  have all : ∀ k, k < 10 → (sg "0123456789")[k]? = some (48 + k) := by decide +kernel
  have := all i.toNat (by omega)
  rw [this] at h
  cases h; rfl
theorem fig_len : (sg "0123456789").length = 10 := by decide +kernel
section
variable {Q : R → List Sl → Prop} {X : Ex → List Sl → Prop}
theorem shown_int {i : Int} (hi : i.natAbs < 10 ^ 30) (q : ∀ cs, Wr cs → figs cs = i.natAbs → Q (.fro (.str (if i < 0 then 45 :: cs else cs))) [.un]) : wF (F__law_end [.fz (.int i)]) Q X := by
  unfold F__law_end
  with_reducible refine w_fn _ _ _ _ _ ?_
  unfold B__law_end
  clear d_0
  have ea : (if i < 0 then -i else i) = (i.natAbs : Int) := by split <;> omega
  rw [ea]
  generalize ha : i.natAbs = a at hi q
  refine w_ixS (Int.emod_nonneg _ (by omega)) (by rw [fig_len]; exact Int.emod_lt_of_pos _ (by omega)) fun c _ hg => ?_
  obtain rfl := fig_at (Int.emod_nonneg _ (by omega)) (Int.emod_lt_of_pos _ (by omega)) hg
  clear d_0
  refine while_s (fun m ρ => ∃ (r : Nat) (cs : List Nat), ρ = [.fz (.int i), .fz (.int (r : Int)), .fz (.str cs)] ∧ m + cs.length = 31 ∧ a = (r / 10) * 10 ^ cs.length + figs cs ∧ cs.all isFig = true ∧ 1 ≤ cs.length ∧ (∃ r', cs = (48 + r % 10) :: r') ∧ (cs.length = 1 ∨ 1 ≤ r) ∧ r * 10 ^ (cs.length - 1) ≤ a ∧ cs.length ≤ 30) ?_ 1000 30 _ (by omega) ?_
  · rintro m ρ ⟨r, cs, rfl, hm, hv, hf, h1, hh, h4, h5, h6⟩
    clear d_0
    by_cases hc : (9 : Int) < (r : Int)
    · clear (id hc)
      have hlt : cs.length ≤ 29 := by
        rcases Nat.lt_or_ge cs.length 30 with h | h
        · omega
        · have e1 : 10 ^ 29 ≤ 10 ^ (cs.length - 1) := Nat.pow_le_pow_right (by omega) (by omega)
          have e2 : 10 * 10 ^ 29 ≤ r * 10 ^ (cs.length - 1) := Nat.mul_le_mul (by omega) e1
          omega
      refine ⟨m - 1, by omega, ?_⟩
      refine w_ixS (Int.emod_nonneg _ (by omega)) (by rw [fig_len]; exact Int.emod_lt_of_pos _ (by omega)) fun c _ hg => ?_
      obtain rfl := fig_at (Int.emod_nonneg _ (by omega)) (Int.emod_lt_of_pos _ (by omega)) hg
      have ed : ((r : Int) / 10) = ((r / 10 : Nat) : Int) := by omega
      have em : ((r : Int) / 10 % 10).toNat = r / 10 % 10 := by omega
      clear (id em)
      refine w_addS (by simp; omega) ?_
      clear d_0
      have ex : r / 10 = 10 * (r / 10 / 10) + r / 10 % 10 := by omega
      refine ⟨r / 10, (48 + r / 10 % 10) :: cs, by rw [ed], by rw [List.length_cons]; omega, ?_, ?_, by simp, ⟨cs, rfl⟩, .inr (by omega), ?_, by rw [List.length_cons]; omega⟩
      · rw [figs_cons, List.length_cons, Nat.pow_succ, show 48 + r / 10 % 10 - 48 = r / 10 % 10 by omega]
        have e3 : (r / 10) * 10 ^ cs.length = (10 * (r / 10 / 10) + r / 10 % 10) * 10 ^ cs.length := congrArg (· * 10 ^ cs.length) ex
        rw [hv, e3, Nat.add_mul, Nat.mul_comm (10 ^ cs.length) 10, ← Nat.mul_assoc, Nat.mul_comm 10 (r / 10 / 10), Nat.add_assoc]
      · rw [List.all_cons, hf, Bool.and_true]
        unfold isFig
        rw [Bool.and_eq_true, decide_eq_true_iff, decide_eq_true_iff]
        omega
      · rw [List.length_cons, Nat.add_sub_cancel]
        omega
    · clear (id hc)
      have hr : r / 10 = 0 := by omega
      have hrm : r % 10 = r := by omega
      have hw : Wr cs := ⟨hf, h1, h6, by
        rcases h4 with h | h
        · exact .inl h
        · obtain ⟨r', e⟩ := hh
          exact .inr ⟨_, r', e, by omega⟩⟩
      have hfig : figs cs = a := by rw [hv, hr, Nat.zero_mul, Nat.zero_add]
      have q := q cs hw hfig
      have em : sg "" = [] := by decide +kernel
      by_cases h : i < 0
      · have hi0 : decide (i < 0) = true := decide_eq_true h
        rw [if_pos h] at q
        clear (id hi0) ii_t minus_sg i_l1
        refine w_addS (by simp; omega) ?_
        clear d_0
        exact q
      · have hi0 : decide (i < 0) = false := decide_eq_false h
        rw [if_neg h] at q
        clear (id hi0) ii_f (id em) i_l0
        refine w_addS (by simp; omega) ?_
        clear d_0
        exact q
  · have e1 : ((a : Int) % 10).toNat = a % 10 := by omega
    refine ⟨a, [48 + a % 10], by rw [e1], rfl, ?_, ?_, by simp, ⟨[], rfl⟩, .inl rfl, by simp, by simp⟩
    · rw [figs_cons]
      simp [figs]
      omega
    · rw [List.all_cons, List.all_nil, Bool.and_true]
      unfold isFig
      rw [Bool.and_eq_true, decide_eq_true_iff, decide_eq_true_iff]
      omega
end
end K05
namespace K05
open PySem L2 WS
local macro_rules | `(tactic| clear $ts*) => do { let ls ← ts.mapM fun t => `(Lean.Parser.Tactic.simpLemma| $t:term); `(tactic| simp -implicitDefEqProofs (disch := omega) only [id_eq, beq_self_eq_true, Int.reduceBEq, Int.reduceLT, Int.reduceLE, Int.reduceNeg, Int.reduceAdd, Int.reduceSub, Int.reduceMul, decide_true, decide_false, List.length_cons, List.length_nil, List.cons_append, List.nil_append, List.replicate, List.map_cons, List.map_nil, Nat.reduceAdd, Nat.reduceSub, Nat.reduceBEq, Bool.and_self, Bool.not_true, Bool.not_false, Bool.true_and, Bool.false_and, Int.cast_ofNat_Int, bind_ok, bindN_ok, sbind_ok, then_nx, then_rt, then_bk, then_ct, loop_nx, loop_ct, loop_bk, loop_rt, x_var, evV_fz, evV_lf, evV_ow, evV_le, evV_lk, x_con, v_fro, v_tmp, v_at, g_fz, g_ow, g_le, g_lf, g_lk, d_0, d_s, s_0, s_s, p_sc, p_nl, p_nd, p_nt, x_op, x_op1, x_op2, x_un, x_un1, x_nil, x_cons, x_cons1, x_cons2, x_fn, x_fn1, x_tup, x_tup1, x_tup2, x_lst, x_lst1, x_lst2, x_dct0, f_nil, f_cons, f_k, f_k2, z_fro, z_tmp, z_at, z_ow, z_le, z_fz, z_lf, x_bl, x_bl1, b_bl, x_tru, x_tru1, b_tru, b_some, x_nt, x_nt1, x_an, x_an_t, x_an_f, x_or, x_or_t, x_or_f, x_ean, x_ean_t, x_ean_f, x_eor, x_eor_t, x_eor_f, x_ent, x_ent1, x_eif, x_eif_t, x_eif_f, x_ch, x_cha, x_chb, x_chk_t, x_chk_f, x_ch1, x_ch2, x_part0, x_part, x_part1, x_outI, x_sl, x_sl0, x_sl1, x_sl2, x_call, x_callE, x_callT, x_callO, a_nil, a_fro, a_tmp, a_at, a_t, a_f, w_ow, w_le, w_lk, w_fz, w_lf, n_nil, n_one, n_two, m_nil, m_cons, t_fro, t_tmp, t_at, t_ow, t_le, t_fz, t_lf, q_wbs, q_nil, q_cons, u_nil, u_fro, u_tmp, u_at, u_t, u_f, h_none, h_owle, h_owlf, h_lele, h_lelf, h_fz, h_un, h_lf, h_lk, x_l1, x_l11, x_comp, x_comp_f, x_comp_t, x_comp1, x_compE, c_nil, c_cons, c_un, c_fz, o_itS, o_itL, o_itT, x_seq, x_set, x_put, x_putB, x_put_f, x_put_t, x_put_a, x_putF, l_fz, l_ow, l_un, x_if, x_if_t, x_if_f, x_nilS, x_ret, x_ret1, x_exp, x_exp1, x_sput, x_sput0, x_sput1, x_sput2, x_sput3, x_outT, x_setZ_ow, x_setZ_le, x_mut, x_mut0, x_mut1, x_mut2, x_mut3, x_outS, x_outZ_ow, x_outZ_le, o_add, o_sub, o_eqI, o_neI, o_eqS, o_neS, o_lt, o_le, o_gt, o_ge, o_lenN, o_lenS, o_lenL, o_lenT, o_abs, o_slS, o_slL, o_slT, x_wh_t, x_wh_f, o_neg, o_isi, ky_non, ky_bl, ky_int, ky_str, ky_tup, ky_lst, ky_dct, ky_scr, ky_err, y_str_err, y_int_err, y_bool_err, y_tuple_err, y_list_err, y_dict_err, y_str_NoneType, y_str_bool, y_str_int, y_str_str, y_str_tuple, y_str_list, y_str_dict, y_int_NoneType, y_int_bool, y_int_int, y_int_str, y_int_tuple, y_int_list, y_int_dict, y_bool_NoneType, y_bool_bool, y_bool_int, y_bool_str, y_bool_tuple, y_bool_list, y_bool_dict, y_tuple_NoneType, y_tuple_bool, y_tuple_int, y_tuple_str, y_tuple_tuple, y_tuple_list, y_tuple_dict, y_list_NoneType, y_list_bool, y_list_int, y_list_str, y_list_tuple, y_list_list, y_list_dict, y_dict_NoneType, y_dict_bool, y_dict_int, y_dict_str, y_dict_tuple, y_dict_list, y_dict_dict, fo_for, fo_for_f, fo_some, fo_nil, fo_t, fo_nx, w_ok, w_exn, w_K, w_bind, w_KS, w_sbind, w_nx, w_rt, w_bk, w_ct, w_sx, w_KT, w_then, w_turn, w_C, w_CX, w_call, w_fok, w_fx, w_Co, fo_ownS, fo_for_a, fo_for_t, fo_for_ff, x_sortK, x_sortK1, x_met, x_met0, x_met1, x_met2, x_asg, x_asg0, o_clear, o_reverse, x_asg1, x_optS, oo_lt, oo_ltS, o_rev, t_str, t_lst, t_dct, fo_forL, n_three, k_lock, k_nil, k_cons, k_any, k_t, k_f, k_ow, k_le, k_lk, k_un, k_u0, k_ulk, k_ufz, k_uun, k_uow, k_ule, k_ulf, fo_A, g_tgN, g_tgA, g_tgT, g_tg0, g_tgL, g_some, g_w0, g_w1, g_b0, g_b1, x_ownO, x_comp_a, x_compA, x_comp_ff, k_uself, k_any2, fo_for_aa, fo_B, o_itZ, o_itZt, o_eqB, o_neB, i_is, i_isn, i_n0, i_n1, i_n2, i_n3, i_n4, i_n5, i_n6, i_tlk, i_t0, i_t1, i_t2, i_t3, i_t4, i_t5, i_l0, i_l1, i_l2, i_l3, i_l4, i_l5, i_leI, i_leS, o_listD, o_listL, o_listT, if_true, ite_true, ite_false, Bool.and_true, Bool.not_not, o_mul2, o_mod, o_div, ev_addS1, ev_addL1, ev_addS, ev_addL, p_2, p_3, p_4, p_5, p_6, p_7, p_8, p_9, p_10, p_12, p_15, p_18, p_20, p_25, p_29, p_30, p_31, p_60, $ls,*]) }
theorem rd_said {s : List Nat} (h : letB s = true) : rd (39 :: s) = some (.tup [.str s]) := by
  unfold rd
  have : decide ((39 :: s).take 1 = [39]) = true := decide_eq_true rfl
  rw [this, Bool.true_and]
  exact if_pos h
theorem rd_num {cs : List Nat} {neg : Bool} (h : Wr cs) (hn : neg = true → figs cs ≠ 0) : rd (if neg = true then 45 :: cs else cs) = some (.int (if neg = true then -(figs cs : Int) else (figs cs : Int))) := by
  obtain ⟨h1, h2, h3, h4⟩ := h
  cases cs with
  | nil => exact absurd h2 (by decide)
  | cons c r =>
    have hc := figs_all h1 c (by simp)
    have key : ∀ t : List Nat, bodyT t = c :: r → (c ≠ 48 ∨ t = [48]) → numB t = true := fun t hb ho => by
      unfold numB
      rw [hb, h1, decide_eq_true ⟨h2, h3⟩, Bool.true_and, Bool.true_and, Bool.or_eq_true, decide_eq_true_iff, decide_eq_true_iff]
      exact ho.imp (fun h e => h (by injection e)) id
    cases neg with
    | true =>
      have hn0 := hn rfl
      have hb : bodyT (45 :: c :: r) = c :: r := if_pos rfl
      have hc48 : c ≠ 48 := fun e => by
        rcases h4 with h | ⟨c', r', e', h'⟩
        · cases r with
          | nil => rw [e] at hn0; exact hn0 rfl
          | cons y l => simp at h
        · injection e' with e1 e2
          omega
      have hv : valT (45 :: c :: r) = -(figs (c :: r) : Int) := by
        unfold valT
        rw [hb]
        exact if_pos rfl
      show rd (45 :: c :: r) = some (.int (-(figs (c :: r) : Int)))
      unfold rd
      rw [name_no (by omega), key _ hb (.inl hc48), hv]
      rfl
    | false =>
      have ne : ¬ (c :: r).take 1 = [45] := fun e => by injection e; omega
      have hb : bodyT (c :: r) = c :: r := if_neg ne
      have ho : c ≠ 48 ∨ c :: r = [48] := by
        rcases h4 with h | ⟨c', r', e', h'⟩
        · cases r with
          | nil =>
            rcases Decidable.em (c = 48) with h | h
            · exact .inr (by rw [h])
            · exact .inl h
          | cons y l => simp at h
        · injection e' with e1 e2
          exact .inl (by omega)
      have hv : valT (c :: r) = (figs (c :: r) : Int) := by
        unfold valT
        rw [hb]
        exact if_neg ne
      have n39 : decide ((c :: r).take 1 = [39]) = false := decide_eq_false fun e => by injection e; omega
      show rd (c :: r) = some (.int (figs (c :: r) : Int))
      unfold rd
      rw [n39, name_no (by omega), key _ hb ho, hv]
      rfl
theorem str_int {i : Int} {cs : List Nat} (h : Wr cs) (e : figs cs = i.natAbs) : sg (toString i) = if i < 0 then 45 :: cs else cs := by
  cases i with
  | ofNat n =>
    have e2 : toString (Int.ofNat n) = toString n := rfl
    have e3 : figs cs = n := e
    rw [e2, ← e3, wr_str h]
    exact (if_neg (show ¬ ((figs cs : Nat) : Int) < 0 by omega)).symm
  | negSucc n =>
    have e2 : toString (Int.negSucc n) = "-" ++ toString (n + 1) := rfl
    have e3 : figs cs = n + 1 := e
    have e4 := wr_str h
    rw [e2, ← e3, if_pos (Int.negSucc_lt_zero n)]
    unfold sg at *
    rw [String.toList_append, List.map_append, e4]
    rfl
/-- what both tell of a node, and what it is read as -/
theorem node_both {x : D} (h : NodeX x) : ∃ t, t.length ≤ 40 ∧ 32 ∉ t ∧ rd t = some x ∧ (∀ (Q : R → List Sl → Prop) (X : Ex → List Sl → Prop), Q (.fro (.str t)) [.un] → wF (F__law_end [.fz x]) Q X) ∧ ∀ (Q : R → List Sl → Prop) (X : Ex → List Sl → Prop), Q (.fro (.str t)) [.un] → wF (F_show_node [.fz x]) Q X := by
  rcases h with ⟨i, rfl, hi⟩ | ⟨s, rfl, hs, hl⟩ | ⟨s, rfl, hs, hl0, hl⟩
  · have g : g1 gStr [.int i] = some (.sc (.str (sg (toString i)))) := str_num (Nat.lt_of_lt_of_le hi (by decide))
    obtain ⟨cs, hw, hf⟩ : ∃ cs, Wr cs ∧ figs cs = i.natAbs := by
      have w : wF (F__law_end [.fz (.int i)]) (fun _ _ => ∃ cs, Wr cs ∧ figs cs = i.natAbs) noF := shown_int hi fun cs hw hf => ⟨cs, hw, hf⟩
      obtain ⟨_, _, _, h⟩ := wF_ok w
      exact h
    have es := str_int hw hf
    refine ⟨sg (toString i), ?_, ?_, ?_, fun Q X q => ?_, fun Q X q => ?_⟩
    · have := int_len (k := 30) (by decide) hi
      omega
    · rw [es]
      have hc : ∀ c ∈ cs, 48 ≤ c := fun c hc => (figs_all hw.1 c hc).1
      intro z
      by_cases hn : i < 0
      · rw [if_pos hn] at z
        rcases List.mem_cons.mp z with z | z
        · cases z
        · have := hc _ z; omega
      · rw [if_neg hn] at z
        have := hc _ z; omega
    · rw [es]
      by_cases hn : i < 0
      · rw [if_pos hn]
        have := rd_num (neg := true) hw (fun _ => by omega)
        rw [if_pos rfl, if_pos rfl] at this
        rw [this, hf]
        congr 2
        omega
      · rw [if_neg hn]
        have := rd_num (neg := false) hw (fun h => by cases h)
        rw [if_neg (by decide), if_neg (by decide)] at this
        rw [this, hf]
        congr 2
        omega
    · refine shown_int hi fun cs' hw' hf' => ?_
      rw [← str_int hw' hf']
      exact q
    · unfold F_show_node
      with_reducible refine w_fn _ _ _ _ _ ?_
      unfold B_show_node
      clear (id g)
      exact q
  · have hb : letB s = true := letB_iff.mpr ⟨hl, hs⟩
    have ap : sg "'" ++ s = 39 :: s := by rw [show sg "'" = [39] by decide +kernel]; rfl
    have hs32 : 32 ∉ 39 :: s := fun z => by
      rcases List.mem_cons.mp z with z | z
      · cases z
      · have := (hs _ z).1; omega
    refine ⟨39 :: s, by rw [List.length_cons]; omega, hs32, rd_said hb, fun Q X q => ?_, fun Q X q => ?_⟩
    · unfold F__law_end
      with_reducible refine w_fn _ _ _ _ _ ?_
      unfold B__law_end
      clear d_0
      refine w_addS (by simp [sg]; omega) ?_
      rw [ap]
      clear d_0
      exact q
    · unfold F_show_node
      with_reducible refine w_fn _ _ _ _ _ ?_
      unfold B_show_node
      clear d_0
      refine w_addS (by simp [sg]; omega) ?_
      rw [ap]
      clear d_0
      exact q
  · have hn : nameD (.str s) = true := nameD_iff.mpr ⟨s, rfl, fun e => by rw [e] at hl0; exact absurd hl0 (by decide), hl, hs⟩
    have g : g1 gStr [.str s] = some (.sc (.str s)) := rfl
    refine ⟨s, by omega, fun z => by have := (hs _ z).1; omega, rd_name hn, fun Q X q => ?_, fun Q X q => ?_⟩
    · unfold F__law_end
      with_reducible refine w_fn _ _ _ _ _ ?_
      unfold B__law_end
      clear d_0
      exact q
    · unfold F_show_node
      with_reducible refine w_fn _ _ _ _ _ ?_
      unfold B_show_node
      clear (id g)
      exact q
theorem rep_len {α : Type} (k : Nat) (l : List α) : (repN k l).length = k * l.length := by
  unfold repN
  simp
section
variable {Q : R → List Sl → Prop} {X : Ex → List Sl → Prop}
theorem txts_map : ∀ ss : List (List Nat), txts (ss.map D.str) = some ss
  | [] => rfl
  | s :: ss => by
    show ((txts (ss.map D.str)).map (s :: ·)) = _
    rw [txts_map ss]; rfl
theorem join_b {ss : List (List Nat)} (h : ss.length ≤ 3) (hs : ∀ s ∈ ss, s.length ≤ 40) : ∃ u, gJoin (.str [32]) [.lst (ss.map D.str)] = some (.sc (.str u)) ∧ u.length ≤ 130 := by
  have hsum : (ss.map (·.length)).sum + ss.length * [32].length ≤ 123 := by
    match ss, h with
    | [], _ => simp
    | [a], _ => have := hs a (by simp); simp; omega
    | [a, b], _ => have := hs a (by simp); have := hs b (by simp); simp; omega
    | [a, b, c], _ => have := hs a (by simp); have := hs b (by simp); have := hs c (by simp); simp; omega
  refine ⟨joinN [32] ss, ?_, ?_⟩
  · show joinP [32] (ss.map D.str) = _
    unfold joinP
    rw [txts_map]
    exact if_pos (decide_eq_true (by omega))
  · have := join_len [32] ss
    omega
/-- a fact's text -/
def Tx (t : List Nat) : Prop := ∃ a b e, t = a ++ 32 :: (b ++ 32 :: e) ∧ a.length ≤ 8 ∧ b.length ≤ 8 ∧ e.length ≤ 40 ∧ 32 ∉ a ∧ 32 ∉ b ∧ 32 ∉ e
theorem tx_cut {a b e : List Nat} (ha : 32 ∉ a) (hb : 32 ∉ b) (he : 32 ∉ e) : cutAt 32 [] (a ++ 32 :: (b ++ 32 :: e)) = [a, b, e] := by
  rw [cut_part ha, cut_part hb, cut_none he]
  simp
theorem changed_s {ns : List Int} {n : Nat} {p : D} {t : List Nat} (hp : Pn ns n p) (hn : n ≤ 2 ^ 58) (ht : Tx t) (q : ∀ p' u, Pn ns (n + 6) p' → u.length ≤ 200 → Q (.fro (.str u)) [.le p', .un]) : wF (F__law_changed [.le p, .fz (.str t)]) Q X := by
  unfold F__law_changed
  with_reducible refine w_fn _ _ _ _ _ ?_
  unfold B__law_changed
  obtain ⟨wa, wb, we, et, hla, hlb, hle, h32a, h32b, h32e⟩ := ht
  have hl : t.length ≤ 58 := by rw [et]; simp; omega
  have os := o_split t 32 (by omega) (by omega)
  rw [et, tx_cut h32a h32b h32e, ← et] at os
  have jb : ∀ ss : List (List Nat), ss.length ≤ 3 → (∀ s ∈ ss, s.length ≤ 40) → ∃ u, gJoin (.str [32]) [.lst (ss.map D.str)] = some (.sc (.str u)) ∧ u.length ≤ 130 := fun ss h hs => join_b h hs
  clear (id blank) (id os)
  try clear d_0
  refine take_s (by assumption) (by first | omega | (simp; omega)) (by first | omega | (simp; omega)) (by first | omega | (simp; omega)) fun p w hp hw0 hw1 => ?_
  try clear d_0
  refine take_s (by assumption) (by first | omega | (simp; omega)) (by first | omega | (simp; omega)) (by first | omega | (simp; omega)) fun p s hp hs0 hs1 => ?_
  clear d_0
  refine w_ixS (by omega) (by rw [show (sg " 0-'A a9\n1z^_").length = 13 by decide +kernel]; omega) fun c _ _ => ?_
  try clear d_0
  refine take_s (by assumption) (by first | omega | (simp; omega)) (by first | omega | (simp; omega)) (by first | omega | (simp; omega)) fun p a hp ha0 ha1 => ?_
  have c1 := ev_cut_len t none (some a)
  have c2 := ev_cut_len t (some a) none
  have c3 := ev_cut_len t (some (a + 1)) none
  clear d_0
  have l1 : ∀ x : Nat, [x].length = 1 := fun _ => rfl
  refine w_if (fun h => ?_) fun h => ?_
  · clear d_0
    refine w_addS (by simp; omega) ?_
    clear d_0
    exact q _ _ (hp.mono (by omega)) (by simp; omega)
  clear d_0
  refine w_if (fun h => ?_) fun h => ?_
  · clear d_0
    refine w_addS (by simp; omega) ?_
    clear d_0
    exact q _ _ (hp.mono (by omega)) (by simp; omega)
  clear d_0
  refine w_if (fun h => ?_) fun h => ?_
  · clear d_0
    exact q _ _ (hp.mono (by omega)) (by simp; omega)
  clear d_0
  refine w_if (fun h => ?_) fun h => ?_
  · try clear d_0
    refine take_s (by assumption) (by first | omega | (simp; omega)) (by first | omega | (simp; omega)) (by first | omega | (simp; omega)) fun p r hp hr0 hr1 => ?_
    obtain ⟨u, eu, hu⟩ : ∃ u, gJoin (.str [32]) [.lst (cutL [.str wa, .str wb, .str we] none (some r))] = some (.sc (.str u)) ∧ u.length ≤ 130 := by
      rw [cut_to _ (by omega)]
      rw [show ([.str wa, .str wb, .str we] : List D).take r.toNat = ([wa, wb, we].take r.toNat).map D.str by rw [List.map_take]; rfl]
      refine jb _ (by simp; omega) fun s hs => ?_
      have := List.mem_of_mem_take hs
      simp only [List.mem_cons, List.not_mem_nil, or_false] at this
      rcases this with rfl | rfl | rfl <;> omega
    clear (id eu)
    exact q _ _ (hp.mono (by omega)) (by omega)
  clear d_0
  refine w_if (fun h => ?_) fun h => ?_
  · try clear d_0
    refine take_s (by assumption) (by first | omega | (simp; omega)) (by first | omega | (simp; omega)) (by first | omega | (simp; omega)) fun p b hp hb0 hb1 => ?_
    clear d_0
    refine w_ixL (by omega) (by simpa using hb1) fun x hx _ => ?_
    obtain ⟨u, rfl, hu⟩ : ∃ u, x = .str u ∧ u.length ≤ 2 := by
      simp only [List.mem_cons, List.not_mem_nil, or_false] at hx
      rcases hx with rfl | rfl | rfl | rfl <;> exact ⟨_, rfl, by decide +kernel⟩
    clear d_0
    exact q _ _ (hp.mono (by omega)) (by simp; omega)
  clear d_0
  refine w_if (fun h => ?_) fun h => ?_
  · obtain ⟨u, eu, hu⟩ : ∃ u, gJoin (.str [32]) [.lst [.str we, .str wb, .str wa]] = some (.sc (.str u)) ∧ u.length ≤ 130 := jb [we, wb, wa] (by simp) fun s hs => by
      simp only [List.mem_cons, List.not_mem_nil, or_false] at hs
      rcases hs with rfl | rfl | rfl <;> omega
    have rv : gRev (.lst [.str wa, .str wb, .str we]) = some (.nl [.str we, .str wb, .str wa]) := rfl
    clear (id rv) (id eu)
    exact q _ _ (hp.mono (by omega)) (by omega)
  clear d_0
  have g0 : orG gIx gIxD (.lst [.str wa, .str wb, .str we]) (.int 0) = some (.sc (.str wa)) := i_l0 _ _
  have g1 : orG gIx gIxD (.lst [.str wa, .str wb, .str we]) (.int 1) = some (.sc (.str wb)) := i_l1 _ _ _
  refine w_if (fun h => ?_) fun h => ?_
  · have z0 : (sg "0").length = 1 := by decide +kernel
    have z1 : (sg "1").length = 1 := by decide +kernel
    clear d_0
    refine w_mulS (by omega) (by omega) (by omega) ?_
    clear d_0
    refine w_addS (by simp only [rep_len, z0, z1]; omega) ?_
    try clear d_0
    refine take_s (by assumption) (by first | omega | (simp; omega)) (by first | omega | (simp; omega)) (by first | omega | (simp; omega)) fun p b hp hb0 hb1 => ?_
    clear d_0
    refine w_ixL (by omega) (by simp; omega) fun x hx _ => ?_
    obtain ⟨u, rfl, hu⟩ : ∃ u, x = .str u ∧ u.length ≤ 40 := by
      simp only [List.mem_cons, List.not_mem_nil, or_false] at hx
      rcases hx with rfl | rfl | rfl | rfl | rfl | rfl | rfl | rfl | rfl | rfl
      case inr.inr.inr.inr.inr.inr.inr.inr.inl => exact ⟨_, rfl, by simp only [List.length_append, rep_len, z0, z1]; omega⟩
      all_goals exact ⟨_, rfl, by decide +kernel⟩
    clear (id g0)
    refine w_addS (by simp; omega) ?_
    clear (id g1)
    refine w_addS (by simp; omega) ?_
    clear d_0
    refine w_addS (by simp; omega) ?_
    clear d_0
    exact q _ _ (hp.mono (by omega)) (by simp; omega)
  try clear d_0
  refine take_s (by assumption) (by first | omega | (simp; omega)) (by first | omega | (simp; omega)) (by first | omega | (simp; omega)) fun p b hp hb0 hb1 => ?_
  try clear d_0
  refine take_s (by assumption) (by first | omega | (simp; omega)) (by first | omega | (simp; omega)) (by first | omega | (simp; omega)) fun p r hp hr0 hr1 => ?_
  clear d_0
  refine w_ixL (by omega) (by simpa using hr1) fun x hx _ => ?_
  obtain ⟨v, rfl, hv⟩ : ∃ v, x = .str v ∧ v.length ≤ 40 := by
    simp only [List.mem_cons, List.not_mem_nil, or_false] at hx
    rcases hx with rfl | rfl | rfl | rfl | rfl | rfl <;> exact ⟨_, rfl, by decide +kernel⟩
  clear d_0
  refine w_putL (by omega) (by simp; omega) ?_
  obtain ⟨u, eu, hu⟩ : ∃ u, gJoin (.str [32]) [.lst (([.str wa, .str wb, .str we] : List D).set b.toNat (.str v))] = some (.sc (.str u)) ∧ u.length ≤ 130 := by
    rw [show ([.str wa, .str wb, .str we] : List D).set b.toNat (.str v) = ([wa, wb, we].set b.toNat v).map D.str by rw [List.map_set]; rfl]
    refine jb _ (by simp) fun s hs => ?_
    rcases List.mem_or_eq_of_mem_set hs with hs | rfl
    · simp only [List.mem_cons, List.not_mem_nil, or_false] at hs
      rcases hs with rfl | rfl | rfl <;> omega
    · omega
  clear (id blank) (id eu)
  exact q _ _ (hp.mono (by omega)) (by omega)
end
end K05
namespace K05
open PySem L2 WS
local macro_rules | `(tactic| clear $ts*) => do { let ls ← ts.mapM fun t => `(Lean.Parser.Tactic.simpLemma| $t:term); `(tactic| simp -implicitDefEqProofs (disch := omega) only [id_eq, beq_self_eq_true, Int.reduceBEq, Int.reduceLT, Int.reduceLE, Int.reduceNeg, Int.reduceAdd, Int.reduceSub, Int.reduceMul, decide_true, decide_false, List.length_cons, List.length_nil, List.cons_append, List.nil_append, List.replicate, List.map_cons, List.map_nil, Nat.reduceAdd, Nat.reduceSub, Nat.reduceBEq, Bool.and_self, Bool.not_true, Bool.not_false, Bool.true_and, Bool.false_and, Int.cast_ofNat_Int, bind_ok, bindN_ok, sbind_ok, then_nx, then_rt, then_bk, then_ct, loop_nx, loop_ct, loop_bk, loop_rt, x_var, evV_fz, evV_lf, evV_ow, evV_le, evV_lk, x_con, v_fro, v_tmp, v_at, g_fz, g_ow, g_le, g_lf, g_lk, d_0, d_s, s_0, s_s, p_sc, p_nl, p_nd, p_nt, x_op, x_op1, x_op2, x_un, x_un1, x_nil, x_cons, x_cons1, x_cons2, x_fn, x_fn1, x_tup, x_tup1, x_tup2, x_lst, x_lst1, x_lst2, x_dct0, f_nil, f_cons, f_k, f_k2, z_fro, z_tmp, z_at, z_ow, z_le, z_fz, z_lf, x_bl, x_bl1, b_bl, x_tru, x_tru1, b_tru, b_some, x_nt, x_nt1, x_an, x_an_t, x_an_f, x_or, x_or_t, x_or_f, x_ean, x_ean_t, x_ean_f, x_eor, x_eor_t, x_eor_f, x_ent, x_ent1, x_eif, x_eif_t, x_eif_f, x_ch, x_cha, x_chb, x_chk_t, x_chk_f, x_ch1, x_ch2, x_part0, x_part, x_part1, x_outI, x_sl, x_sl0, x_sl1, x_sl2, x_call, x_callE, x_callT, x_callO, a_nil, a_fro, a_tmp, a_at, a_t, a_f, w_ow, w_le, w_lk, w_fz, w_lf, n_nil, n_one, n_two, m_nil, m_cons, t_fro, t_tmp, t_at, t_ow, t_le, t_fz, t_lf, q_wbs, q_nil, q_cons, u_nil, u_fro, u_tmp, u_at, u_t, u_f, h_none, h_owle, h_owlf, h_lele, h_lelf, h_fz, h_un, h_lf, h_lk, x_l1, x_l11, x_comp, x_comp_f, x_comp_t, x_comp1, x_compE, c_nil, c_cons, c_un, c_fz, o_itS, o_itL, o_itT, x_seq, x_set, x_put, x_putB, x_put_f, x_put_t, x_put_a, x_putF, l_fz, l_ow, l_un, x_if, x_if_t, x_if_f, x_nilS, x_ret, x_ret1, x_exp, x_exp1, x_sput, x_sput0, x_sput1, x_sput2, x_sput3, x_outT, x_setZ_ow, x_setZ_le, x_mut, x_mut0, x_mut1, x_mut2, x_mut3, x_outS, x_outZ_ow, x_outZ_le, o_add, o_sub, o_eqI, o_neI, o_eqS, o_neS, o_lt, o_le, o_gt, o_ge, o_lenN, o_lenS, o_lenL, o_lenT, o_abs, o_slS, o_slL, o_slT, x_wh_t, x_wh_f, o_neg, o_isi, ky_non, ky_bl, ky_int, ky_str, ky_tup, ky_lst, ky_dct, ky_scr, ky_err, y_str_err, y_int_err, y_bool_err, y_tuple_err, y_list_err, y_dict_err, y_str_NoneType, y_str_bool, y_str_int, y_str_str, y_str_tuple, y_str_list, y_str_dict, y_int_NoneType, y_int_bool, y_int_int, y_int_str, y_int_tuple, y_int_list, y_int_dict, y_bool_NoneType, y_bool_bool, y_bool_int, y_bool_str, y_bool_tuple, y_bool_list, y_bool_dict, y_tuple_NoneType, y_tuple_bool, y_tuple_int, y_tuple_str, y_tuple_tuple, y_tuple_list, y_tuple_dict, y_list_NoneType, y_list_bool, y_list_int, y_list_str, y_list_tuple, y_list_list, y_list_dict, y_dict_NoneType, y_dict_bool, y_dict_int, y_dict_str, y_dict_tuple, y_dict_list, y_dict_dict, fo_for, fo_for_f, fo_some, fo_nil, fo_t, fo_nx, w_ok, w_exn, w_K, w_bind, w_KS, w_sbind, w_nx, w_rt, w_bk, w_ct, w_sx, w_KT, w_then, w_turn, w_C, w_CX, w_call, w_fok, w_fx, w_Co, fo_ownS, fo_for_a, fo_for_t, fo_for_ff, x_sortK, x_sortK1, x_met, x_met0, x_met1, x_met2, x_asg, x_asg0, o_clear, o_reverse, x_asg1, x_optS, oo_lt, oo_ltS, o_rev, t_str, t_lst, t_dct, fo_forL, n_three, k_lock, k_nil, k_cons, k_any, k_t, k_f, k_ow, k_le, k_lk, k_un, k_u0, k_ulk, k_ufz, k_uun, k_uow, k_ule, k_ulf, fo_A, g_tgN, g_tgA, g_tgT, g_tg0, g_tgL, g_some, g_w0, g_w1, g_b0, g_b1, x_ownO, x_comp_a, x_compA, x_comp_ff, k_uself, k_any2, fo_for_aa, fo_B, o_itZ, o_itZt, o_eqB, o_neB, i_is, i_isn, i_n0, i_n1, i_n2, i_n3, i_n4, i_n5, i_n6, i_tlk, i_t0, i_t1, i_t2, i_t3, i_t4, i_t5, i_l0, i_l1, i_l2, i_l3, i_l4, i_l5, i_leI, i_leS, o_listD, o_listL, o_listT, if_true, ite_true, ite_false, Bool.and_true, Bool.not_not, o_mul2, o_mod, o_div, ev_addS1, ev_addL1, ev_addS, ev_addL, p_2, p_3, p_4, p_5, p_6, p_7, p_8, p_9, p_10, p_12, p_15, p_18, p_20, p_25, p_29, p_30, p_31, p_60, $ls,*]) }
/-- the words of a fact, its text, what is told of both -/
theorem fact_both {a b : List Nat} {x : D} {G : Prop} (ha : isLet a) (hb : isLet b) (a1 : 1 ≤ a.length) (a8 : a.length ≤ 8) (b1 : 1 ≤ b.length) (b8 : b.length ≤ 8) (h : NodeX x)
    (q : ∀ e : List Nat, e.length ≤ 40 → Tx (a ++ [32] ++ b ++ [32] ++ e) → rdF (a ++ [32] ++ b ++ [32] ++ e) = some (.tup [.str a, .str b, x]) → (∀ (Q : R → List Sl → Prop) (X : Ex → List Sl → Prop), Q (.fro (.str e)) [.un] → wF (F__law_end [.fz x]) Q X) →
      (∀ (Q : R → List Sl → Prop) (X : Ex → List Sl → Prop), Q (.fro (.str (a ++ [32] ++ b ++ [32] ++ e))) [.un] → wF (F_show_fact [.fz (.tup [.str a, .str b, x])]) Q X) → G) : G := by
  obtain ⟨e, e40, e32, hr, h1, h2⟩ := node_both h
  have a32 : 32 ∉ a := fun z => by have := (ha _ z).1; omega
  have b32 : 32 ∉ b := fun z => by have := (hb _ z).1; omega
  have na : nameD (.str a) = true := nameD_iff.mpr ⟨a, rfl, fun z => by rw [z] at a1; exact absurd a1 (by decide), a8, ha⟩
  have nb : nameD (.str b) = true := nameD_iff.mpr ⟨b, rfl, fun z => by rw [z] at b1; exact absurd b1 (by decide), b8, hb⟩
  have et : a ++ [32] ++ b ++ [32] ++ e = a ++ 32 :: (b ++ 32 :: e) := by simp
  refine q e e40 ⟨a, b, e, et, a8, b8, e40, a32, b32, e32⟩ ?_ h1 fun Q X q => ?_
  · unfold rdF
    rw [et, tx_cut a32 b32 e32]
    simp [rdW, na, nb, hr]
  · unfold F_show_fact
    with_reducible refine w_fn _ _ _ _ _ ?_
    unfold B_show_fact
    have t0 : orG gIx gIxD (.tup [.str a, .str b, x]) (.int 0) = some (.sc (.str a)) := i_t0 _ _
    have t1 : orG gIx gIxD (.tup [.str a, .str b, x]) (.int 1) = some (.sc (.str b)) := i_t1 _ _ _
    have t2 : orG gIx gIxD (.tup [.str a, .str b, x]) (.int 2) = some (.sc x) := i_t2 _ _ _ _
    have A1 : gAdd (.str a) (.str [32]) = some (.sc (.str (a ++ [32]))) := ev_addS (by simp; omega)
    have A2 : gAdd (.str (a ++ [32])) (.str b) = some (.sc (.str (a ++ [32] ++ b))) := ev_addS (by simp; omega)
    have A3 : gAdd (.str (a ++ [32] ++ b)) (.str [32]) = some (.sc (.str (a ++ [32] ++ b ++ [32]))) := ev_addS (by simp; omega)
    clear (id blank) (id t0) (id t1) (id t2) (id A1) (id A2) (id A3)
    refine h2 _ _ ?_
    have A4 : gAdd (.str (a ++ [32] ++ b ++ [32])) (.str e) = some (.sc (.str (a ++ [32] ++ b ++ [32] ++ e))) := ev_addS (by simp; omega)
    clear (id A4)
    exact q
theorem textX {x : D} {G : Prop} (h : ∃ t, x = .str t ∧ Tx t) (q : ∀ t, x = .str t → Tx t → G) : G := by
  obtain ⟨t, h1, h2⟩ := h
  exact q t h1 h2
theorem end1 {ns : List Int} {k : Int} {ρ : WS.Env} {G : Prop} (h : ∃ (m : Nat) (lo : Int) (p : D) (ts : List D) (s3 s4 s5 s6 : Sl), ([] : List D) = upTo lo m ∧ ρ = [.fz (.scr ns), .ow p, .ow (.lst ts), s3, s4, s5, s6, .un] ∧ s3.lent = false ∧ s4.lent = false ∧ s5.lent = false ∧ s6.lent = false ∧ (∀ x ∈ ts, ∃ t, x = .str t ∧ Tx t) ∧ (ts.length : Int) + m = 1 + k ∧ Pn ns (2 + 600 * ts.length) p)
    (q : ∀ (p : D) (ts : List D) (s3 s4 s5 s6 : Sl), s3.lent = false → s4.lent = false → s5.lent = false → s6.lent = false → (∀ x ∈ ts, ∃ t, x = .str t ∧ Tx t) → (ts.length : Int) = 1 + k → Pn ns (2 + 600 * ts.length) p → ρ = [.fz (.scr ns), .ow p, .ow (.lst ts), s3, s4, s5, s6, .un] → G) : G := by
  obtain ⟨m, lo, p, ts, s3, s4, s5, s6, e1, e2, h3, h4, h5, h6, hts, hm, hp⟩ := h
  obtain rfl := upTo_nil e1
  exact q p ts s3 s4 s5 s6 h3 h4 h5 h6 hts (by omega) hp e2
theorem end2 {ns : List Int} {ts : List D} {s4 s6 : Sl} {ρ : WS.Env} {G : Prop} (h : ∃ (m : Nat) (lo : Int) (p : D) (s3 s5 : Sl), ([] : List D) = upTo lo m ∧ ρ = [.fz (.scr ns), .ow p, .ow (.lst ts), s3, s4, s5, s6, .un] ∧ s3.lent = false ∧ s5.lent = false ∧ m ≤ 30 ∧ Pn ns (10000 - 10 * m) p)
    (q : ∀ (p : D) (s3 s5 : Sl), ρ = [.fz (.scr ns), .ow p, .ow (.lst ts), s3, s4, s5, s6, .un] → G) : G := by
  obtain ⟨m, lo, p, s3, s5, e1, e2, _⟩ := h
  exact q p s3 s5 e2
theorem law_F (F : Fn) (hF : F = F_law) : LawOk F := by
  intro ns hl hb
  suffices h : wF (F [.fz (.scr ns)]) (fun r os => r = .fro (.bl true)) noF by
    obtain ⟨r, os, e, rfl⟩ := wF_ok h
    exact ⟨os, e⟩
  rw [hF]
  unfold F_law
  with_reducible refine w_fn _ _ _ _ _ ?_
  unfold B_law
  have p0 : Pn ns 0 (pen ns 0 0) := ⟨0, 0, rfl, by omega, by omega, by omega⟩
  clear (pen_e ns)
  generalize pen ns 0 0 = p at p0
  try clear d_0
  with_reducible refine take_s (by assumption) (by omega) (by omega) (by omega) fun p k hp hk0 hk1 => ?_
  clear d_0
  with_reducible refine w_range1 ?_ ?_ ?_
  · omega
  · omega
  with_reducible refine for_s (fun items ρ => ∃ (m : Nat) (lo : Int) (p : D) (ts : List D) (s3 s4 s5 s6 : Sl), items = upTo lo m ∧ ρ = [.fz (.scr ns), .ow p, .ow (.lst ts), s3, s4, s5, s6, .un] ∧ s3.lent = false ∧ s4.lent = false ∧ s5.lent = false ∧ s6.lent = false ∧ (∀ x ∈ ts, ∃ t, x = .str t ∧ Tx t) ∧ (ts.length : Int) + m = 1 + k ∧ Pn ns (2 + 600 * ts.length) p) ?_ ?_ _ _ ?_
  · rintro d items ρ ⟨m, lo, p, ts, s3, s4, s5, s6, e1, rfl, h3, h4, h5, h6, hts, hm, hp⟩
    obtain ⟨m, rfl, rfl, rfl⟩ := upTo_inv e1
    refine ⟨_, by clear (id h3); rfl, ?_⟩
    clear d_0
    try clear d_0
    with_reducible refine take_s (by assumption) (by omega) (by omega) (by omega) fun p ka hp hka0 hka1 => ?_
    clear d_0
    with_reducible refine word_s hp (by omega) (by omega) (by omega) fun p wa hp hwa hwal => ?_
    try clear d_0
    with_reducible refine take_s (by assumption) (by omega) (by omega) (by omega) fun p kb hp hkb0 hkb1 => ?_
    clear d_0
    with_reducible refine word_s hp (by omega) (by omega) (by omega) fun p wb hp hwb hwbl => ?_
    clear d_0
    with_reducible refine node_s hp (by omega) fun p x hp hx => ?_
    have a1 : 1 ≤ wa.length := by omega
    have a8 : wa.length ≤ 8 := by omega
    have b1 : 1 ≤ wb.length := by omega
    have b8 : wb.length ≤ 8 := by omega
    with_reducible refine fact_both hwa hwb a1 a8 b1 b8 hx fun e he htx hrd hs hsn => ?_
    have t0 : orG gIx gIxD (.tup [.str wa, .str wb, x]) (.int 0) = some (.sc (.str wa)) := i_t0 _ _
    have t1 : orG gIx gIxD (.tup [.str wa, .str wb, x]) (.int 1) = some (.sc (.str wb)) := i_t1 _ _ _
    have t2 : orG gIx gIxD (.tup [.str wa, .str wb, x]) (.int 2) = some (.sc x) := i_t2 _ _ _ _
    have A1 : gAdd (.str wa) (.str [32]) = some (.sc (.str (wa ++ [32]))) := ev_addS (by simp; omega)
    have A2 : gAdd (.str (wa ++ [32])) (.str wb) = some (.sc (.str (wa ++ [32] ++ wb))) := ev_addS (by simp; omega)
    have A3 : gAdd (.str (wa ++ [32] ++ wb)) (.str [32]) = some (.sc (.str (wa ++ [32] ++ wb ++ [32]))) := ev_addS (by simp; omega)
    have A4 : gAdd (.str (wa ++ [32] ++ wb ++ [32])) (.str e) = some (.sc (.str (wa ++ [32] ++ wb ++ [32] ++ e))) := ev_addS (by simp; omega)
    have htl : (wa ++ [32] ++ wb ++ [32] ++ e).length ≤ 58 := by simp; omega
    clear (id h4) (id blank) (id t0) (id t1) (id t2) (id A1) (id A2) (id A3)
    with_reducible refine hs _ _ ?_
    clear (id A4)
    generalize wa ++ [32] ++ wb ++ [32] ++ e = t at htx hrd hsn htl
    clear (id h5)
    with_reducible refine hsn _ _ ?_
    have e0 : decide (t = t) = true := decide_eq_true rfl
    have ist : isNm "str" (tyN (.str t)) = true := rfl
    clear (id h6) (id ist) (id e0)
    have er : [.tup [.str wa, .str wb, x]] = (rdF t).toList := by rw [hrd]; rfl
    rw [er]
    with_reducible refine right_s (by omega) ?_
    clear d_0
    with_reducible refine w_append (by omega) ?_
    clear d_0
    refine ⟨m, lo + 1, p, ts ++ [.str t], _, _, _, _, rfl, rfl, rfl, rfl, rfl, rfl, fun y hy => ?_, by simp; omega, hp.mono (by simp; omega)⟩
    rcases List.mem_append.mp hy with hy | hy
    · exact hts y hy
    · rw [List.mem_singleton.mp hy]; exact ⟨t, rfl, htx⟩
  rotate_left
  · exact ⟨_, _, _, [], _, _, _, _, rfl, rfl, rfl, rfl, rfl, rfl, (fun y hy => by cases hy), by (first | (simp; done) | (simp; omega) | omega), (by assumption : Pn ns _ _).mono (by simp)⟩
  intro ρ hP
  with_reducible refine end1 hP fun p ts s3 s4 s5 s6 h3 h4 h5 h6 hts hm hp eρ => ?_
  subst eρ
  have ht1 : 1 ≤ ts.length := by omega
  have ht13 : ts.length ≤ 13 := by omega
  have hp : Pn ns 9000 p := hp.mono (by omega)
  clear d_0
  try clear d_0
  with_reducible refine take_s (by assumption) (by omega) (by omega) (by omega) fun p j hp hj0 hj1 => ?_
  clear d_0
  with_reducible refine w_range1 ?_ ?_ ?_
  · omega
  · omega
  with_reducible refine for_s (fun items ρ => ∃ (m : Nat) (lo : Int) (p : D) (s3 s5 : Sl), items = upTo lo m ∧ ρ = [.fz (.scr ns), .ow p, .ow (.lst ts), s3, s4, s5, s6, .un] ∧ s3.lent = false ∧ s5.lent = false ∧ m ≤ 30 ∧ Pn ns (10000 - 10 * m) p) ?_ ?_ _ _ ?_
  · rintro d items ρ ⟨m, lo, p, s3, s5, e1, rfl, h3, h5, hm, hp⟩
    obtain ⟨m, rfl, rfl, rfl⟩ := upTo_inv e1
    refine ⟨_, by clear (id h3); rfl, ?_⟩
    try clear d_0
    with_reducible refine take_s (by assumption) (by omega) (by omega) (by omega) fun p a hp ha0 ha1 => ?_
    clear d_0
    with_reducible refine w_ixL (by omega) (by omega) fun x hx _ => ?_
    with_reducible refine textX (hts x hx) fun t et htx => ?_
    subst et
    clear d_0
    with_reducible refine changed_s hp (by omega) htx fun p u hp hu => ?_
    clear (id h5)
    with_reducible refine lread_s (by omega) ?_
    clear d_0
    with_reducible refine right_s (by omega) ?_
    clear d_0
    exact ⟨m, lo + 1, p, _, _, rfl, rfl, rfl, rfl, by omega, hp.mono (by omega)⟩
  rotate_left
  · exact ⟨_, _, _, _, _, rfl, rfl, by assumption, by assumption, by omega, (by assumption : Pn ns _ _).mono (by omega)⟩
  intro ρ hP
  with_reducible refine end2 hP fun p s3 s5 eρ => ?_
  subst eρ
  clear d_0
  with_reducible refine for_s (fun items ρ => (∀ x ∈ items, isNm "str" (tyN x) = false) ∧ ∃ s7, ρ = [.fz (.scr ns), .ow p, .ow (.lst ts), s3, s4, s5, s6, s7] ∧ s7.lent = false) ?_ ?_ _ _ ?_
  · rintro d items ρ ⟨hx, s7, rfl, h7⟩
    refine ⟨_, by clear (id h7); rfl, ?_⟩
    clear d_0
    with_reducible refine right_no (hx d (List.mem_cons_self ..)) ?_
    clear d_0
    exact ⟨fun x h => hx x (List.mem_cons_of_mem _ h), _, rfl, rfl⟩
  · rintro ρ ⟨_, s7, rfl, h7⟩
    clear d_0
    rfl
  · refine ⟨fun x hx => ?_, _, rfl, rfl⟩
    simp only [List.mem_cons, List.not_mem_nil, or_false] at hx
    rcases hx with rfl | rfl | rfl | rfl | rfl | rfl <;> rfl
theorem law_ok : LawOk F_law := law_F F_law rfl
end K05
namespace K05
open PySem L2 WS
theorem all_mk {l : PySem.W.OpenLaw} {w : World} {K : PySem.W.Frag} {h : Heap} {mg : Str → Option Value} {fa : Addr} (X : K.In h) (G : h.Ns mainGlobals mg) (hfa : mg "law" = some (.ref fa)) (okL : LawOk F_law)
    {f0 f1 f2 f3 f4 f5 f6 f7 f8 f9 f10 f11 f12 f13 f14 f15 f16 f17 f18 f19 : Addr} {od0 an0 od1 an1 od2 an2 od3 an3 od4 an4 od5 an5 od6 an6 od7 an7 od8 an8 od9 an9 od10 an10 od11 an11 od12 an12 od13 an13 od14 an14 od15 an15 od16 an16 od17 an17 od18 an18 od19 an19 : Option Addr} {sl0 sl1 sl2 sl3 sl4 sl5 sl6 sl7 sl8 sl9 sl10 sl11 sl12 sl13 sl14 sl15 sl16 sl17 sl18 sl19 : Array (Option Value)} {oc0 kV0 dc0 pm0 cd0 ct0 oc1 kV1 dc1 pm1 cd1 ct1 oc2 kV2 dc2 pm2 cd2 ct2 oc3 kV3 dc3 pm3 cd3 ct3 oc4 kV4 dc4 pm4 cd4 ct4 oc5 kV5 dc5 pm5 cd5 ct5 oc6 kV6 dc6 pm6 cd6 ct6 oc7 kV7 dc7 pm7 cd7 ct7 oc8 kV8 dc8 pm8 cd8 ct8 oc9 kV9 dc9 pm9 cd9 ct9 oc10 kV10 dc10 pm10 cd10 ct10 oc11 kV11 dc11 pm11 cd11 ct11 oc12 kV12 dc12 pm12 cd12 ct12 oc13 kV13 dc13 pm13 cd13 ct13 oc14 kV14 dc14 pm14 cd14 ct14 oc15 kV15 dc15 pm15 cd15 ct15 oc16 kV16 dc16 pm16 cd16 ct16 oc17 kV17 dc17 pm17 cd17 ct17 oc18 kV18 dc18 pm18 cd18 ct18 oc19 kV19 dc19 pm19 cd19 ct19 : Value}
    (a0 : PySem.W.nsIn K mainGlobals "_law_pen" = some (some (.ref f0))) (l0 : K.lookup f0 = some ⟨oc0, od0, .func (PySem.W.fnOf "_law_pen" "_law_pen" (defArgs s__law_pen) (defBody s__law_pen) (defScope s__law_pen) .none kV0 dc0 pm0 an0 cd0 ct0), sl0⟩) (c0 : PySem.W.codeIn K cd0 "_law_pen" = true) (k0 : PySem.W.keepIn K (.ref f0) = true)
    (a1 : PySem.W.nsIn K mainGlobals "show_node" = some (some (.ref f1))) (l1 : K.lookup f1 = some ⟨oc1, od1, .func (PySem.W.fnOf "show_node" "show_node" (defArgs s_show_node) (defBody s_show_node) (defScope s_show_node) .none kV1 dc1 pm1 an1 cd1 ct1), sl1⟩) (c1 : PySem.W.codeIn K cd1 "show_node" = true) (k1 : PySem.W.keepIn K (.ref f1) = true)
    (a2 : PySem.W.nsIn K mainGlobals "show_fact" = some (some (.ref f2))) (l2 : K.lookup f2 = some ⟨oc2, od2, .func (PySem.W.fnOf "show_fact" "show_fact" (defArgs s_show_fact) (defBody s_show_fact) (defScope s_show_fact) .none kV2 dc2 pm2 an2 cd2 ct2), sl2⟩) (c2 : PySem.W.codeIn K cd2 "show_fact" = true) (k2 : PySem.W.keepIn K (.ref f2) = true)
    (a3 : PySem.W.nsIn K mainGlobals "_law_take" = some (some (.ref f3))) (l3 : K.lookup f3 = some ⟨oc3, od3, .func (PySem.W.fnOf "_law_take" "_law_take" (defArgs s__law_take) (defBody s__law_take) (defScope s__law_take) .none kV3 dc3 pm3 an3 cd3 ct3), sl3⟩) (c3 : PySem.W.codeIn K cd3 "_law_take" = true) (k3 : PySem.W.keepIn K (.ref f3) = true)
    (a4 : PySem.W.nsIn K mainGlobals "_law_changed" = some (some (.ref f4))) (l4 : K.lookup f4 = some ⟨oc4, od4, .func (PySem.W.fnOf "_law_changed" "_law_changed" (defArgs s__law_changed) (defBody s__law_changed) (defScope s__law_changed) .none kV4 dc4 pm4 an4 cd4 ct4), sl4⟩) (c4 : PySem.W.codeIn K cd4 "_law_changed" = true) (k4 : PySem.W.keepIn K (.ref f4) = true)
    (a5 : PySem.W.nsIn K mainGlobals "_law_word" = some (some (.ref f5))) (l5 : K.lookup f5 = some ⟨oc5, od5, .func (PySem.W.fnOf "_law_word" "_law_word" (defArgs s__law_word) (defBody s__law_word) (defScope s__law_word) .none kV5 dc5 pm5 an5 cd5 ct5), sl5⟩) (c5 : PySem.W.codeIn K cd5 "_law_word" = true) (k5 : PySem.W.keepIn K (.ref f5) = true)
    (a6 : PySem.W.nsIn K mainGlobals "_law_node" = some (some (.ref f6))) (l6 : K.lookup f6 = some ⟨oc6, od6, .func (PySem.W.fnOf "_law_node" "_law_node" (defArgs s__law_node) (defBody s__law_node) (defScope s__law_node) .none kV6 dc6 pm6 an6 cd6 ct6), sl6⟩) (c6 : PySem.W.codeIn K cd6 "_law_node" = true) (k6 : PySem.W.keepIn K (.ref f6) = true)
    (a7 : PySem.W.nsIn K mainGlobals "_law_end" = some (some (.ref f7))) (l7 : K.lookup f7 = some ⟨oc7, od7, .func (PySem.W.fnOf "_law_end" "_law_end" (defArgs s__law_end) (defBody s__law_end) (defScope s__law_end) .none kV7 dc7 pm7 an7 cd7 ct7), sl7⟩) (c7 : PySem.W.codeIn K cd7 "_law_end" = true) (k7 : PySem.W.keepIn K (.ref f7) = true)
    (a8 : PySem.W.nsIn K mainGlobals "are_letters" = some (some (.ref f8))) (l8 : K.lookup f8 = some ⟨oc8, od8, .func (PySem.W.fnOf "are_letters" "are_letters" (defArgs s_are_letters) (defBody s_are_letters) (defScope s_are_letters) .none kV8 dc8 pm8 an8 cd8 ct8), sl8⟩) (c8 : PySem.W.codeIn K cd8 "are_letters" = true) (k8 : PySem.W.keepIn K (.ref f8) = true)
    (a9 : PySem.W.nsIn K mainGlobals "is_name" = some (some (.ref f9))) (l9 : K.lookup f9 = some ⟨oc9, od9, .func (PySem.W.fnOf "is_name" "is_name" (defArgs s_is_name) (defBody s_is_name) (defScope s_is_name) .none kV9 dc9 pm9 an9 cd9 ct9), sl9⟩) (c9 : PySem.W.codeIn K cd9 "is_name" = true) (k9 : PySem.W.keepIn K (.ref f9) = true)
    (a10 : PySem.W.nsIn K mainGlobals "is_number_text" = some (some (.ref f10))) (l10 : K.lookup f10 = some ⟨oc10, od10, .func (PySem.W.fnOf "is_number_text" "is_number_text" (defArgs s_is_number_text) (defBody s_is_number_text) (defScope s_is_number_text) .none kV10 dc10 pm10 an10 cd10 ct10), sl10⟩) (c10 : PySem.W.codeIn K cd10 "is_number_text" = true) (k10 : PySem.W.keepIn K (.ref f10) = true)
    (a11 : PySem.W.nsIn K mainGlobals "read_node" = some (some (.ref f11))) (l11 : K.lookup f11 = some ⟨oc11, od11, .func (PySem.W.fnOf "read_node" "read_node" (defArgs s_read_node) (defBody s_read_node) (defScope s_read_node) .none kV11 dc11 pm11 an11 cd11 ct11), sl11⟩) (c11 : PySem.W.codeIn K cd11 "read_node" = true) (k11 : PySem.W.keepIn K (.ref f11) = true)
    (a12 : PySem.W.nsIn K mainGlobals "read_fact" = some (some (.ref f12))) (l12 : K.lookup f12 = some ⟨oc12, od12, .func (PySem.W.fnOf "read_fact" "read_fact" (defArgs s_read_fact) (defBody s_read_fact) (defScope s_read_fact) .none kV12 dc12 pm12 an12 cd12 ct12), sl12⟩) (c12 : PySem.W.codeIn K cd12 "read_fact" = true) (k12 : PySem.W.keepIn K (.ref f12) = true)
    (a13 : PySem.W.nsIn K mainGlobals "_law_told" = some (some (.ref f13))) (l13 : K.lookup f13 = some ⟨oc13, od13, .func (PySem.W.fnOf "_law_told" "_law_told" (defArgs s__law_told) (defBody s__law_told) (defScope s__law_told) .none kV13 dc13 pm13 an13 cd13 ct13), sl13⟩) (c13 : PySem.W.codeIn K cd13 "_law_told" = true) (k13 : PySem.W.keepIn K (.ref f13) = true)
    (a14 : PySem.W.nsIn K mainGlobals "_law_right" = some (some (.ref f14))) (l14 : K.lookup f14 = some ⟨oc14, od14, .func (PySem.W.fnOf "_law_right" "_law_right" (defArgs s__law_right) (defBody s__law_right) (defScope s__law_right) .none kV14 dc14 pm14 an14 cd14 ct14), sl14⟩) (c14 : PySem.W.codeIn K cd14 "_law_right" = true) (k14 : PySem.W.keepIn K (.ref f14) = true)
    (a15 : PySem.W.nsIn K mainGlobals "_law_has_only" = some (some (.ref f15))) (l15 : K.lookup f15 = some ⟨oc15, od15, .func (PySem.W.fnOf "_law_has_only" "_law_has_only" (defArgs s__law_has_only) (defBody s__law_has_only) (defScope s__law_has_only) .none kV15 dc15 pm15 an15 cd15 ct15), sl15⟩) (c15 : PySem.W.codeIn K cd15 "_law_has_only" = true) (k15 : PySem.W.keepIn K (.ref f15) = true)
    (a16 : PySem.W.nsIn K mainGlobals "_law_name" = some (some (.ref f16))) (l16 : K.lookup f16 = some ⟨oc16, od16, .func (PySem.W.fnOf "_law_name" "_law_name" (defArgs s__law_name) (defBody s__law_name) (defScope s__law_name) .none kV16 dc16 pm16 an16 cd16 ct16), sl16⟩) (c16 : PySem.W.codeIn K cd16 "_law_name" = true) (k16 : PySem.W.keepIn K (.ref f16) = true)
    (a17 : PySem.W.nsIn K mainGlobals "_law_end_read" = some (some (.ref f17))) (l17 : K.lookup f17 = some ⟨oc17, od17, .func (PySem.W.fnOf "_law_end_read" "_law_end_read" (defArgs s__law_end_read) (defBody s__law_end_read) (defScope s__law_end_read) .none kV17 dc17 pm17 an17 cd17 ct17), sl17⟩) (c17 : PySem.W.codeIn K cd17 "_law_end_read" = true) (k17 : PySem.W.keepIn K (.ref f17) = true)
    (a18 : PySem.W.nsIn K mainGlobals "_law_read" = some (some (.ref f18))) (l18 : K.lookup f18 = some ⟨oc18, od18, .func (PySem.W.fnOf "_law_read" "_law_read" (defArgs s__law_read) (defBody s__law_read) (defScope s__law_read) .none kV18 dc18 pm18 an18 cd18 ct18), sl18⟩) (c18 : PySem.W.codeIn K cd18 "_law_read" = true) (k18 : PySem.W.keepIn K (.ref f18) = true)
    (a19 : PySem.W.nsIn K mainGlobals "law" = some (some (.ref f19))) (l19 : K.lookup f19 = some ⟨oc19, od19, .func (PySem.W.fnOf "law" "law" (defArgs s_law) (defBody s_law) (defScope s_law) .none kV19 dc19 pm19 an19 cd19 ct19), sl19⟩) (c19 : PySem.W.codeIn K cd19 "law" = true) (k19 : PySem.W.keepIn K (.ref f19) = true)
    (z_ValueError : PySem.W.nsIn K mainGlobals "ValueError" = some none)
    (z_abs : PySem.W.nsIn K mainGlobals "abs" = some none)
    (z_all : PySem.W.nsIn K mainGlobals "all" = some none)
    (z_bool : PySem.W.nsIn K mainGlobals "bool" = some none)
    (z_int : PySem.W.nsIn K mainGlobals "int" = some none)
    (z_isinstance : PySem.W.nsIn K mainGlobals "isinstance" = some none)
    (z_len : PySem.W.nsIn K mainGlobals "len" = some none)
    (z_range : PySem.W.nsIn K mainGlobals "range" = some none)
    (z_str : PySem.W.nsIn K mainGlobals "str" = some none)
    (z_tuple : PySem.W.nsIn K mainGlobals "tuple" = some none)
    {t_FIGURES : Tok} (v_FIGURES : PySem.W.nsIn K mainGlobals "FIGURES" = some (some (.str (Str.ofString "0123456789") t_FIGURES)))
    {t_LETTERS : Tok} (v_LETTERS : PySem.W.nsIn K mainGlobals "LETTERS" = some (some (.str (Str.ofString "abcdefghijklmnopqrstuvwxyz") t_LETTERS)))
    {t_MOST_FIGURES : Tok} (v_MOST_FIGURES : PySem.W.nsIn K mainGlobals "MOST_FIGURES" = some (some (.int 30 t_MOST_FIGURES)))
    {t_MOST_LETTERS : Tok} (v_MOST_LETTERS : PySem.W.nsIn K mainGlobals "MOST_LETTERS" = some (some (.int 8 t_MOST_LETTERS)))
    {t_TICK : Tok} (v_TICK : PySem.W.nsIn K mainGlobals "TICK" = some (some (.str (Str.ofString "'") t_TICK)))
    {A_NoNode : Addr}(v_NoNode : PySem.W.nsIn K mainGlobals "NoNode" = some (some (.ref A_NoNode)))
    {A_NoFact : Addr}(v_NoFact : PySem.W.nsIn K mainGlobals "NoFact" = some (some (.ref A_NoFact)))
    {A_ShapeError : Addr}(v_ShapeError : PySem.W.nsIn K mainGlobals "ShapeError" = some (some (.ref A_ShapeError)))
    (xc_NoNode : ExCls K A_NoNode)
    (q_NoNode : PySem.W.excIn K A_NoNode [.type "ValueError", .type "Exception", .type "BaseException", .type "object"] "ValueError.__new__" = true)
    (k_NoNode : PySem.W.keepIn K (.ref A_NoNode) = true)
    (xc_NoFact : ExCls K A_NoFact)
    (q_NoFact : PySem.W.excIn K A_NoFact [.type "ValueError", .type "Exception", .type "BaseException", .type "object"] "ValueError.__new__" = true)
    (k_NoFact : PySem.W.keepIn K (.ref A_NoFact) = true)
    (hb_NoNode : PySem.W.subIn K (.ref A_NoNode) (.type "BaseException") = some true)
    (hc_NoNode : (PySem.W.clsIn K A_NoNode).isSome = true)
    (ht_NoNode : PySem.W.typeIn K (.ref A_NoNode) = some (.type "type"))
    (e_NoNode_NoNode : PySem.W.subIn K (.ref A_NoNode) (.ref A_NoNode) = some true)
    (e_NoNode_NoFact : PySem.W.subIn K (.ref A_NoFact) (.ref A_NoNode) = some false)
    (hb_ShapeError : PySem.W.subIn K (.ref A_ShapeError) (.type "BaseException") = some true)
    (hc_ShapeError : (PySem.W.clsIn K A_ShapeError).isSome = true)
    (ht_ShapeError : PySem.W.typeIn K (.ref A_ShapeError) = some (.type "type"))
    (e_ShapeError_NoNode : PySem.W.subIn K (.ref A_NoNode) (.ref A_ShapeError) = some true)
    (e_ShapeError_NoFact : PySem.W.subIn K (.ref A_NoFact) (.ref A_ShapeError) = some true)
    (o_NoFact : ∀ T ∈ names7, PySem.W.kitOne K (.type T) (.ref A_NoFact) = some false)
    (i_NoFact_NoNode : PySem.W.kitOne K (.ref A_NoNode) (.ref A_NoFact) = some false)
    (i_NoFact_NoFact : PySem.W.kitOne K (.ref A_NoFact) (.ref A_NoFact) = some true)
    (o_ValueError : ∀ T ∈ names7, PySem.W.kitOne K (.type T) (.type "ValueError") = some false)
    (i_ValueError_NoNode : PySem.W.kitOne K (.ref A_NoNode) (.type "ValueError") = some true)
    (i_ValueError_NoFact : PySem.W.kitOne K (.ref A_NoFact) (.type "ValueError") = some true)
    (o_NoNode : ∀ T ∈ names7, PySem.W.kitOne K (.type T) (.ref A_NoNode) = some false)
    (i_NoNode_NoNode : PySem.W.kitOne K (.ref A_NoNode) (.ref A_NoNode) = some true)
    (i_NoNode_NoFact : PySem.W.kitOne K (.ref A_NoFact) (.ref A_NoNode) = some false)
    : ∃ fd : FuncData, (∀ (s : Shared) (u : Value), BindsTo s fd ⟨[u], []⟩ [("_law_script", u)]) ∧ ∀ (base : Heap) (s : Shared) (H : Hp) (a : Addr) (ns : List Int), ns.length ≤ 63 → (∀ k ∈ ns, Builtin.Int.intBits k ≤ 1048576) → Env0 l.prog w K mg base callerA [] s H → SqL K H a (ns.map V.int) →
        codeAny (model l.prog w) callerA (.call (.ref fa) ⟨[.ref a], []⟩) (CR (L2.CX l.prog w) [] l.prog w H s (fun v _ => v = .bl true) fun _ _ _ => False) s := by
  have e := hfa.symm.trans (PySem.W.mg_of X G a19)
  cases e
  have T : Txt w K mg := .mk (PySem.W.mg_none_of X G z_ValueError) (PySem.W.mg_none_of X G z_abs) (PySem.W.mg_none_of X G z_all) (PySem.W.mg_none_of X G z_bool) (PySem.W.mg_none_of X G z_int) (PySem.W.mg_none_of X G z_isinstance) (PySem.W.mg_none_of X G z_len) (PySem.W.mg_none_of X G z_range) (PySem.W.mg_none_of X G z_str) (PySem.W.mg_none_of X G z_tuple) ⟨_, PySem.W.mg_of X G v_FIGURES⟩ ⟨_, PySem.W.mg_of X G v_LETTERS⟩ ⟨_, PySem.W.mg_of X G v_MOST_FIGURES⟩ ⟨_, PySem.W.mg_of X G v_MOST_LETTERS⟩ ⟨_, PySem.W.mg_of X G v_TICK⟩ (by rw [cAddr_of v_NoNode]; exact PySem.W.mg_of X G v_NoNode) (by rw [cAddr_of v_NoFact]; exact PySem.W.mg_of X G v_NoFact) (by rw [cAddr_of v_ShapeError]; exact PySem.W.mg_of X G v_ShapeError) (by rw [cAddr_of v_NoNode]; exact ⟨v_NoNode, xc_NoNode⟩) (by rw [cAddr_of v_NoNode]; exact q_NoNode) (by rw [cAddr_of v_NoNode]; exact k_NoNode) (by rw [cAddr_of v_NoFact]; exact ⟨v_NoFact, xc_NoFact⟩) (by rw [cAddr_of v_NoFact]; exact q_NoFact) (by rw [cAddr_of v_NoFact]; exact k_NoFact) (exmT_cons (by rw [cAddr_of v_NoNode]; exact exm_own hb_NoNode hc_NoNode ht_NoNode e_NoNode_NoNode) (exmT_cons (by rw [cAddr_of v_NoFact, cAddr_of v_NoNode]; exact exm_own hb_NoNode hc_NoNode ht_NoNode e_NoNode_NoFact) exmT_nil)) (exmT_cons (by rw [cAddr_of v_NoNode, cAddr_of v_ShapeError]; exact exm_own hb_ShapeError hc_ShapeError ht_ShapeError e_ShapeError_NoNode) (exmT_cons (by rw [cAddr_of v_NoFact, cAddr_of v_ShapeError]; exact exm_own hb_ShapeError hc_ShapeError ht_ShapeError e_ShapeError_NoFact) exmT_nil)) (kits_cons (by rw [cAddr_of v_NoNode, cAddr_of v_NoFact]; exact i_NoFact_NoNode) (kits_cons (by rw [cAddr_of v_NoFact]; exact i_NoFact_NoFact) (kits_nil (by rw [cAddr_of v_NoFact]; exact o_NoFact)))) (kits_cons (by rw [cAddr_of v_NoNode]; exact i_ValueError_NoNode) (kits_cons (by rw [cAddr_of v_NoFact]; exact i_ValueError_NoFact) (kits_nil (by exact o_ValueError)))) (kits_cons (by rw [cAddr_of v_NoNode]; exact i_NoNode_NoNode) (kits_cons (by rw [cAddr_of v_NoFact, cAddr_of v_NoNode]; exact i_NoNode_NoFact) (kits_nil (by rw [cAddr_of v_NoNode]; exact o_NoNode))))
  have D0 := fun_mk (st := s__law_pen) l0 c0 k0
  have b0 := D0.binds (ps := ["_law_script"]) fun _ _ _ _ _ _ us hl => match us, hl with | [_], _ => rfl
  have D1 := fun_mk (st := s_show_node) l1 c1 k1
  have b1 := D1.binds (ps := ["node"]) fun _ _ _ _ _ _ us hl => match us, hl with | [_], _ => rfl
  have D2 := fun_mk (st := s_show_fact) l2 c2 k2
  have b2 := D2.binds (ps := ["fact"]) fun _ _ _ _ _ _ us hl => match us, hl with | [_], _ => rfl
  have D3 := fun_mk (st := s__law_take) l3 c3 k3
  have b3 := D3.binds (ps := ["_law_pen_here", "_law_most"]) fun _ _ _ _ _ _ us hl => match us, hl with | [_, _], _ => rfl
  have D4 := fun_mk (st := s__law_changed) l4 c4 k4
  have b4 := D4.binds (ps := ["_law_pen_here", "_law_text"]) fun _ _ _ _ _ _ us hl => match us, hl with | [_, _], _ => rfl
  have D5 := fun_mk (st := s__law_word) l5 c5 k5
  have b5 := D5.binds (ps := ["_law_pen_here", "_law_many"]) fun _ _ _ _ _ _ us hl => match us, hl with | [_, _], _ => rfl
  have D6 := fun_mk (st := s__law_node) l6 c6 k6
  have b6 := D6.binds (ps := ["_law_pen_here"]) fun _ _ _ _ _ _ us hl => match us, hl with | [_], _ => rfl
  have D7 := fun_mk (st := s__law_end) l7 c7 k7
  have b7 := D7.binds (ps := ["_law_node_here"]) fun _ _ _ _ _ _ us hl => match us, hl with | [_], _ => rfl
  have D8 := fun_mk (st := s_are_letters) l8 c8 k8
  have b8 := D8.binds (ps := ["text"]) fun _ _ _ _ _ _ us hl => match us, hl with | [_], _ => rfl
  have D9 := fun_mk (st := s_is_name) l9 c9 k9
  have b9 := D9.binds (ps := ["thing"]) fun _ _ _ _ _ _ us hl => match us, hl with | [_], _ => rfl
  have D10 := fun_mk (st := s_is_number_text) l10 c10 k10
  have b10 := D10.binds (ps := ["text"]) fun _ _ _ _ _ _ us hl => match us, hl with | [_], _ => rfl
  have D11 := fun_mk (st := s_read_node) l11 c11 k11
  have b11 := D11.binds (ps := ["text"]) fun _ _ _ _ _ _ us hl => match us, hl with | [_], _ => rfl
  have D12 := fun_mk (st := s_read_fact) l12 c12 k12
  have b12 := D12.binds (ps := ["text"]) fun _ _ _ _ _ _ us hl => match us, hl with | [_], _ => rfl
  have D13 := fun_mk (st := s__law_told) l13 c13 k13
  have b13 := D13.binds (ps := ["_law_text"]) fun _ _ _ _ _ _ us hl => match us, hl with | [_], _ => rfl
  have D14 := fun_mk (st := s__law_right) l14 c14 k14
  have b14 := D14.binds (ps := ["_law_text", "_law_due"]) fun _ _ _ _ _ _ us hl => match us, hl with | [_, _], _ => rfl
  have D15 := fun_mk (st := s__law_has_only) l15 c15 k15
  have b15 := D15.binds (ps := ["_law_text", "_law_signs"]) fun _ _ _ _ _ _ us hl => match us, hl with | [_, _], _ => rfl
  have D16 := fun_mk (st := s__law_name) l16 c16 k16
  have b16 := D16.binds (ps := ["_law_text"]) fun _ _ _ _ _ _ us hl => match us, hl with | [_], _ => rfl
  have D17 := fun_mk (st := s__law_end_read) l17 c17 k17
  have b17 := D17.binds (ps := ["_law_text"]) fun _ _ _ _ _ _ us hl => match us, hl with | [_], _ => rfl
  have D18 := fun_mk (st := s__law_read) l18 c18 k18
  have b18 := D18.binds (ps := ["_law_text"]) fun _ _ _ _ _ _ us hl => match us, hl with | [_], _ => rfl
  have D19 := fun_mk (st := s_law) l19 c19 k19
  have b19 := D19.binds (ps := ["_law_script"]) fun _ _ _ _ _ _ us hl => match us, hl with | [_], _ => rfl
  refine ⟨PySem.W.fnOf "law" "law" (defArgs s_law) (defBody s_law) (defScope s_law) .none kV19 dc19 pm19 an19 cd19 ct19, fun s u => .of_eq rfl, fun base s H a ns hl hb e0 hS => ?_⟩
  have G__law_pen := ok__law_pen (m := .o) (P := l.prog) (w := w) (base := base) (c := ⟨fun _ => 0, fun _ => Str.empty⟩)  T D0 (PySem.W.mg_of X G a0) b0
  have G_show_node := ok_show_node (m := .o) (P := l.prog) (w := w) (base := base) (c := ⟨fun _ => 0, fun _ => Str.empty⟩)  T D1 (PySem.W.mg_of X G a1) b1
  have G_show_fact := ok_show_fact (m := .o) (P := l.prog) (w := w) (base := base) (c := ⟨fun _ => 0, fun _ => Str.empty⟩) G_show_node T D2 (PySem.W.mg_of X G a2) b2
  have G__law_take := ok__law_take (m := .o) (P := l.prog) (w := w) (base := base) (c := ⟨fun _ => 0, fun _ => Str.empty⟩)  T D3 (PySem.W.mg_of X G a3) b3
  have G__law_changed := ok__law_changed (m := .o) (P := l.prog) (w := w) (base := base) (c := ⟨fun _ => 0, fun _ => Str.empty⟩) G__law_take T D4 (PySem.W.mg_of X G a4) b4
  have G__law_word := ok__law_word (m := .o) (P := l.prog) (w := w) (base := base) (c := ⟨fun _ => 0, fun _ => Str.empty⟩) G__law_take T D5 (PySem.W.mg_of X G a5) b5
  have G__law_node := ok__law_node (m := .o) (P := l.prog) (w := w) (base := base) (c := ⟨fun _ => 0, fun _ => Str.empty⟩) G__law_take G__law_word T D6 (PySem.W.mg_of X G a6) b6
  have G__law_end := ok__law_end (m := .o) (P := l.prog) (w := w) (base := base) (c := ⟨fun _ => 0, fun _ => Str.empty⟩)  T D7 (PySem.W.mg_of X G a7) b7
  have G_are_letters := ok_are_letters (m := .o) (P := l.prog) (w := w) (base := base) (c := ⟨fun _ => 0, fun _ => Str.empty⟩)  T D8 (PySem.W.mg_of X G a8) b8
  have Gn_are_letters := ok_are_letters (m := .n) (P := l.prog) (w := w) (base := base) (c := ⟨fun _ => 0, fun _ => Str.empty⟩)  T D8 (PySem.W.mg_of X G a8) b8
  have G_is_name := ok_is_name (m := .o) (P := l.prog) (w := w) (base := base) (c := ⟨fun _ => 0, fun _ => Str.empty⟩) G_are_letters T D9 (PySem.W.mg_of X G a9) b9
  have Gn_is_name := ok_is_name (m := .n) (P := l.prog) (w := w) (base := base) (c := ⟨fun _ => 0, fun _ => Str.empty⟩) Gn_are_letters T D9 (PySem.W.mg_of X G a9) b9
  have G_is_number_text := ok_is_number_text (m := .o) (P := l.prog) (w := w) (base := base) (c := ⟨fun _ => 0, fun _ => Str.empty⟩)  T D10 (PySem.W.mg_of X G a10) b10
  have Gn_is_number_text := ok_is_number_text (m := .n) (P := l.prog) (w := w) (base := base) (c := ⟨fun _ => 0, fun _ => Str.empty⟩)  T D10 (PySem.W.mg_of X G a10) b10
  have G_read_node := ok_read_node (m := .o) (P := l.prog) (w := w) (base := base) (c := ⟨fun _ => 0, fun _ => Str.empty⟩) G_is_name G_are_letters G_is_number_text T D11 (PySem.W.mg_of X G a11) b11
  have Gn_read_node := ok_read_node (m := .n) (P := l.prog) (w := w) (base := base) (c := ⟨fun _ => 0, fun _ => Str.empty⟩) Gn_is_name Gn_are_letters Gn_is_number_text T D11 (PySem.W.mg_of X G a11) b11
  have G_read_fact := ok_read_fact (P := l.prog) (w := w) (base := base) (c := ⟨fun _ => 0, fun _ => Str.empty⟩) G_read_node G_is_name Gn_read_node T D12 (PySem.W.mg_of X G a12) b12
  have G__law_told := ok__law_told (P := l.prog) (w := w) (base := base) (c := ⟨fun _ => 0, fun _ => Str.empty⟩) G_read_fact T D13 (PySem.W.mg_of X G a13) b13
  have G__law_right := ok__law_right (P := l.prog) (w := w) (base := base) (c := ⟨fun _ => 0, fun _ => Str.empty⟩) G__law_told T D14 (PySem.W.mg_of X G a14) b14
  have G__law_has_only := ok__law_has_only (m := .o) (P := l.prog) (w := w) (base := base) (c := ⟨fun _ => 0, fun _ => Str.empty⟩)  T D15 (PySem.W.mg_of X G a15) b15
  have G__law_name := ok__law_name (m := .o) (P := l.prog) (w := w) (base := base) (c := ⟨fun _ => 0, fun _ => Str.empty⟩) G__law_has_only T D16 (PySem.W.mg_of X G a16) b16
  have G__law_end_read := ok__law_end_read (m := .o) (P := l.prog) (w := w) (base := base) (c := ⟨fun _ => 0, fun _ => Str.empty⟩) G__law_name G__law_has_only T D17 (PySem.W.mg_of X G a17) b17
  have G__law_read := ok__law_read (m := .o) (P := l.prog) (w := w) (base := base) (c := ⟨fun _ => 0, fun _ => Str.empty⟩) G__law_name G__law_end_read T D18 (PySem.W.mg_of X G a18) b18
  exact law_body D19 sc_law rfl ⟨rfl, by decide, by decide⟩ e0 (fun s u => .of_eq rfl) hS (fun cdv E hr => dv_law G__law_pen G_show_fact G__law_changed G__law_take G__law_word G__law_node G__law_end G__law_right G__law_read T cdv callerA [] s H E hr) okL hl hb
end K05
open PySem PySem.W PyProof.Rows
set_option maxRecDepth 100000 in
set_option maxHeartbeats 0 in
theorem PySem.Challenge.cw_webshapes_k05_facts_as_texts_holds : PySem.Challenge.rw_webshapes_k05_facts_as_texts.Holds := by
  w_on; o_law; k_head; (case hw => w_witness2)
  k_fill
  refine WS.walk_law (l := PySem.Challenge.rw_webshapes_k05_facts_as_texts) (y := "_law_script") rfl rfl (fun w h Y => PySem.W.kIn_of Y) ?F
  case F =>
    intro w mg fa h KX G hmg
    refine' K05.all_mk KX G hmg K05.law_ok ?a0 ?l0 ?c0 ?k0 ?a1 ?l1 ?c1 ?k1 ?a2 ?l2 ?c2 ?k2 ?a3 ?l3 ?c3 ?k3 ?a4 ?l4 ?c4 ?k4 ?a5 ?l5 ?c5 ?k5 ?a6 ?l6 ?c6 ?k6 ?a7 ?l7 ?c7 ?k7 ?a8 ?l8 ?c8 ?k8 ?a9 ?l9 ?c9 ?k9 ?a10 ?l10 ?c10 ?k10 ?a11 ?l11 ?c11 ?k11 ?a12 ?l12 ?c12 ?k12 ?a13 ?l13 ?c13 ?k13 ?a14 ?l14 ?c14 ?k14 ?a15 ?l15 ?c15 ?k15 ?a16 ?l16 ?c16 ?k16 ?a17 ?l17 ?c17 ?k17 ?a18 ?l18 ?c18 ?k18 ?a19 ?l19 ?c19 ?k19 ?z_ValueError ?z_abs ?z_all ?z_bool ?z_int ?z_isinstance ?z_len ?z_range ?z_str ?z_tuple ?v_FIGURES ?v_LETTERS ?v_MOST_FIGURES ?v_MOST_LETTERS ?v_TICK ?v_NoNode ?v_NoFact ?v_ShapeError ?xc_NoNode ?q_NoNode ?k_NoNode ?xc_NoFact ?q_NoFact ?k_NoFact ?hb_NoNode ?hc_NoNode ?ht_NoNode ?e_NoNode_NoNode ?e_NoNode_NoFact ?hb_ShapeError ?hc_ShapeError ?ht_ShapeError ?e_ShapeError_NoNode ?e_ShapeError_NoFact ?o_NoFact ?i_NoFact_NoNode ?i_NoFact_NoFact ?o_ValueError ?i_ValueError_NoNode ?i_ValueError_NoFact ?o_NoNode ?i_NoNode_NoNode ?i_NoNode_NoFact 
    (case a0 => k_is); (case l0 => k_is); (case c0 => k_is); (case k0 => k_is)
    (case a1 => k_is); (case l1 => k_is); (case c1 => k_is); (case k1 => k_is)
    (case a2 => k_is); (case l2 => k_is); (case c2 => k_is); (case k2 => k_is)
    (case a3 => k_is); (case l3 => k_is); (case c3 => k_is); (case k3 => k_is)
    (case a4 => k_is); (case l4 => k_is); (case c4 => k_is); (case k4 => k_is)
    (case a5 => k_is); (case l5 => k_is); (case c5 => k_is); (case k5 => k_is)
    (case a6 => k_is); (case l6 => k_is); (case c6 => k_is); (case k6 => k_is)
    (case a7 => k_is); (case l7 => k_is); (case c7 => k_is); (case k7 => k_is)
    (case a8 => k_is); (case l8 => k_is); (case c8 => k_is); (case k8 => k_is)
    (case a9 => k_is); (case l9 => k_is); (case c9 => k_is); (case k9 => k_is)
    (case a10 => k_is); (case l10 => k_is); (case c10 => k_is); (case k10 => k_is)
    (case a11 => k_is); (case l11 => k_is); (case c11 => k_is); (case k11 => k_is)
    (case a12 => k_is); (case l12 => k_is); (case c12 => k_is); (case k12 => k_is)
    (case a13 => k_is); (case l13 => k_is); (case c13 => k_is); (case k13 => k_is)
    (case a14 => k_is); (case l14 => k_is); (case c14 => k_is); (case k14 => k_is)
    (case a15 => k_is); (case l15 => k_is); (case c15 => k_is); (case k15 => k_is)
    (case a16 => k_is); (case l16 => k_is); (case c16 => k_is); (case k16 => k_is)
    (case a17 => k_is); (case l17 => k_is); (case c17 => k_is); (case k17 => k_is)
    (case a18 => k_is); (case l18 => k_is); (case c18 => k_is); (case k18 => k_is)
    (case a19 => k_is); (case l19 => k_is); (case c19 => k_is); (case k19 => k_is)
    (case z_ValueError => k_is)
    (case z_abs => k_is)
    (case z_all => k_is)
    (case z_bool => k_is)
    (case z_int => k_is)
    (case z_isinstance => k_is)
    (case z_len => k_is)
    (case z_range => k_is)
    (case z_str => k_is)
    (case z_tuple => k_is)
    (case v_FIGURES => k_is)
    (case v_LETTERS => k_is)
    (case v_MOST_FIGURES => k_is)
    (case v_MOST_LETTERS => k_is)
    (case v_TICK => k_is)
    (case v_NoNode => k_is)
    (case v_NoFact => k_is)
    (case v_ShapeError => k_is)
    (case xc_NoNode => exact ⟨WS.isSome_of (by k_is), by k_is, ⟨none, by k_is⟩, by k_is, by k_is, by k_is, by k_is, by k_is, by k_is, WS.all7 (by first | rfl | kit_is) (by first | rfl | kit_is) (by first | rfl | kit_is) (by first | rfl | kit_is) (by first | rfl | kit_is) (by first | rfl | kit_is) (by first | rfl | kit_is) ⟩)
    (case q_NoNode => k_exc)
    (case k_NoNode => k_is)
    (case xc_NoFact => exact ⟨WS.isSome_of (by k_is), by k_is, ⟨none, by k_is⟩, by k_is, by k_is, by k_is, by k_is, by k_is, by k_is, WS.all7 (by first | rfl | kit_is) (by first | rfl | kit_is) (by first | rfl | kit_is) (by first | rfl | kit_is) (by first | rfl | kit_is) (by first | rfl | kit_is) (by first | rfl | kit_is) ⟩)
    (case q_NoFact => k_exc)
    (case k_NoFact => k_is)
    (case hb_NoNode => k_is)
    (case hc_NoNode => exact WS.isSome_of (by k_is))
    (case ht_NoNode => k_is)
    (case e_NoNode_NoNode => k_is)
    (case e_NoNode_NoFact => k_is)
    (case hb_ShapeError => k_is)
    (case hc_ShapeError => exact WS.isSome_of (by k_is))
    (case ht_ShapeError => k_is)
    (case e_ShapeError_NoNode => k_is)
    (case e_ShapeError_NoFact => k_is)
    (case o_NoFact => exact WS.all7 (by first | rfl | kit_is) (by first | rfl | kit_is) (by first | rfl | kit_is) (by first | rfl | kit_is) (by first | rfl | kit_is) (by first | rfl | kit_is) (by first | rfl | kit_is) )
    (case i_NoFact_NoNode => first | kit_is | rfl)
    (case i_NoFact_NoFact => first | kit_is | rfl)
    (case o_ValueError => exact WS.all7 (by first | rfl | kit_is) (by first | rfl | kit_is) (by first | rfl | kit_is) (by first | rfl | kit_is) (by first | rfl | kit_is) (by first | rfl | kit_is) (by first | rfl | kit_is) )
    (case i_ValueError_NoNode => first | kit_is | rfl)
    (case i_ValueError_NoFact => first | kit_is | rfl)
    (case o_NoNode => exact WS.all7 (by first | rfl | kit_is) (by first | rfl | kit_is) (by first | rfl | kit_is) (by first | rfl | kit_is) (by first | rfl | kit_is) (by first | rfl | kit_is) (by first | rfl | kit_is) )
    (case i_NoNode_NoNode => first | kit_is | rfl)
    (case i_NoNode_NoFact => first | kit_is | rfl)
