import PyProof.Rows.All
import HandS.HeadHook1
import HandS.HeadHook4
import Wide.All
import OpenK.AllK
import Wide.FinOn
import HandS.ForMost
import HandS.ForExc
import HandS.Defaults
import HandS.HeadHook2
import HandS.Lambda
import HandS.Style
import KE.DataEq
import KE.DataMinMax
import KE.DataIsa
import KE.SortData
import KE.LtData
import HandS.Wide
import HandS.TupAny
import HandS.TupLe
import HandS.Flow
import HandS.IsInst
import HandS.Zip
import HandS.DictComp
import KE.GoesEnum
import HandS.Iter
import PyProof.SumAny
import PyProof.ListOps
import HandS.ExcValue
import HandS.ExcIs
import HandS.ExcOwn
import PyProof.ExcBaseAll.ValueError
import PyProof.ReprRoads
import PyProof.CallFns
import HandS.HeadHook3
import HandS.EndTab
import HandS.HeadWalk
import HandS.Head2
import PyProof.Rows.RegStrFacts
import PySem.Challenge.RW_runskept_k00_names_and_words
section
/-! what a law tells of its lambdas: the defs that make them, each lambda's text -/
namespace Dy
open PySem PySem.Spec
structure LamA where
  q : Str
  params : Arguments
  body : Expr
  scope : Scope
class LawI where
  lamDefs : List Str
  lamAst : Nat → Option LamA
variable [LawI]
/-- the tables of code objects of these defs, the names of what they make -/
def lamTT (K : PySem.W.Frag) : List (Addr × Str) := LawI.lamDefs.map fun x => ((He.cT K (x, none)).2, (x ++ ".<locals>.") ++ "<lambda>")
end Dy
end
section
set_option Elab.async false
set_option linter.all false
set_option maxRecDepth 100000
set_option maxHeartbeats 4000000
/-! The data layer: programs over data, with the hand layer's judgements under it. -/
namespace Dy
open PySem PySem.Spec PyProof.Rows L2
variable [LawI]

abbrev D := PyData
abbrev tok : D := .dict [(.none, .none)]

/-- what is known to stay: objects; the draw's dict and its list -/
structure Fz where
  hp : Hp
  dr : Option (Addr × Addr)

structure Fz.le (F F' : Fz) : Prop where
  hp : ∀ a o, F.hp a = some o → F'.hp a = some o
  dr : ∀ x, F.dr = some x → F'.dr = some x
theorem Fz.le.refl (F : Fz) : F.le F := ⟨fun _ _ h => h, fun _ h => h⟩
theorem Fz.le.trans {F G J : Fz} (a : F.le G) (b : G.le J) : F.le J := ⟨fun x o h => b.hp x o (a.hp x o h), fun x h => b.dr x (a.dr x h)⟩

/-- what is known of all that is known to stay, in the run at hand -/
class Ph where
  Φ : Fz → Prop
  mono : ∀ F F', F.le F' → Φ F → Φ F'
variable [Ph]
def kD : Key → D
  | .inl i => .int i
  | .inr x => .str x

/-- where it stands, if it stands anywhere -/
def vCode : V → D
  | .ref a => .int (a : Nat)
  | _ => .none
def notTok : List (D × D) → Bool
  | (.none, _) :: _ => false
  | (.bool _, _) :: _ => false
  | _ => true
/-- an exception of the class cls stands at a -/
def ExD (cls : Value) (d : Option Addr) (a : Addr) : HO := .ext fun h => ∃ (oe : Obj) (vs : Array Value), h.get? a = some oe ∧ Zc cls d oe ∧ oe.data = .fields vs
/-- a lambda's datum: which, the cells of the frame that made it -/
def cellsD (cells : List (Str × Addr)) : D := .list (cells.map fun p => .tuple [.str p.1, .int (p.2 : Nat)])
abbrev lamTok (id : Nat) (cells : List (Str × Addr)) : D := .dict [(.none, .tuple [.int (id : Nat), cellsD cells])]
/-- the function object of a lambda -/
def LamO (f c : Addr) (a : LamA) (cells : List (Str × Addr)) : HO := .ext fun h => ∃ pm ctv, h.get? f = some (PySem.W.kla_obj "<lambda>" a.q a.params a.body a.scope (cloFrom cells a.scope.names []) pm c ctv)
mutual
inductive Rp (K : PySem.W.Frag) (F : Fz) : V → D → Prop
  | non : Rp K F .non .none
  | bl (b : Bool) : Rp K F (.bl b) (.bool b)
  | int (i : Int) : Rp K F (.int i) (.int i)
  | str (x : Str) : Rp K F (.str x) (.str x)
  | lst {a : Addr} {xs : List V} {ds : List D} : Rd F.hp a (.lst xs) → RpAll K F xs ds → Rp K F (.ref a) (.list ds)
  | tup {a : Addr} {xs : List V} {ds : List D} : SqT K F.hp a xs → RpAll K F xs ds → Rp K F (.ref a) (.tuple ds)
  | dic {a : Addr} {kvs : List (Key × V)} {ds : List (D × D)} : F.hp a = some (.dK kvs) → RpKV K F kvs ds → Rp K F (.ref a) (.dict ds)
  | tok {d w : Addr} : F.dr = some (d, w) → Rp K F (.ref d) (.dict [(.none, .none)])
  | exn {a : Addr} {c : Str} : F.hp a = some (ExD (.ref (He.ga K c)) none a) → Rp K F (.ref a) (.dict [(.none, .str c)])
  | lam {f c : Addr} {id : Nat} {a : LamA} {cells : List (Str × Addr)} : LawI.lamAst id = some a → F.hp f = some (LamO f c a cells) → F.hp c = some (LamX.CodeO c a.q) → Rp K F (.ref f) (lamTok id cells)
  | dit {a : Addr} {kvs : List (List Key × V)} {ds : List (D × D)} : F.hp a = some (.dT kvs) → RpKT K F kvs ds → Rp K F (.ref a) (.dict ((.bool true, .none) :: ds))
inductive RpAll (K : PySem.W.Frag) (F : Fz) : List V → List D → Prop
  | nil : RpAll K F [] []
  | cons {v : V} {vs : List V} {d : D} {ds : List D} : Rp K F v d → RpAll K F vs ds → RpAll K F (v :: vs) (d :: ds)
inductive RpKV (K : PySem.W.Frag) (F : Fz) : List (Key × V) → List (D × D) → Prop
  | nil : RpKV K F [] []
  | cons {k : Key} {v : V} {vs : List (Key × V)} {d : D} {ds : List (D × D)} : Rp K F v d → RpKV K F vs ds → RpKV K F ((k, v) :: vs) ((kD k, d) :: ds)
inductive RpKT (K : PySem.W.Frag) (F : Fz) : List (List Key × V) → List (D × D) → Prop
  | nil : RpKT K F [] []
  | cons {k : List Key} {v : V} {vs : List (List Key × V)} {d : D} {ds : List (D × D)} : Rp K F v d → RpKT K F vs ds → RpKT K F ((k, v) :: vs) ((.tuple (k.map kD), d) :: ds)
end

section
variable {K : PySem.W.Frag} {F F' : Fz}
theorem rd_le {H H' : Hp} {a : Addr} {u : HO} (l : ∀ a o, H a = some o → H' a = some o) (h : Rd H a u) : Rd H' a u := by
  rcases h with h | ⟨o, h⟩
  · exact .inl (l _ _ h)
  · exact .inr ⟨o, l _ _ h⟩
theorem sqL_le {H H' : Hp} {a : Addr} {xs : List V} (l : ∀ a o, H a = some o → H' a = some o) (h : SqL K H a xs) : SqL K H' a xs := by
  rcases h with (h | ⟨o, h⟩) | h
  · exact .inl (.inl (l _ _ h))
  · exact .inl (.inr ⟨o, l _ _ h⟩)
  · exact .inr h
theorem sqT_le {H H' : Hp} {a : Addr} {xs : List V} (l : ∀ a o, H a = some o → H' a = some o) (h : SqT K H a xs) : SqT K H' a xs := by
  rcases h with (h | ⟨o, h⟩) | h
  · exact .inl (.inl (l _ _ h))
  · exact .inl (.inr ⟨o, l _ _ h⟩)
  · exact .inr h
mutual
theorem Rp.le (l : F.le F') : ∀ {v : V} {d : D}, Rp K F v d → Rp K F' v d
  | _, _, .non => .non
  | _, _, .bl b => .bl b
  | _, _, .int i => .int i
  | _, _, .str x => .str x
  | _, _, .lst h r => .lst (rd_le l.hp h) (RpAll.le l r)
  | _, _, .tup h r => .tup (sqT_le l.hp h) (RpAll.le l r)
  | _, _, .dic h r => .dic (l.hp _ _ h) (RpKV.le l r)
  | _, _, .tok h => .tok (l.dr _ h)
  | _, _, .exn h => .exn (l.hp _ _ h)
  | _, _, .lam e h k => .lam e (l.hp _ _ h) (l.hp _ _ k)
  | _, _, .dit h r => .dit (l.hp _ _ h) (RpKT.le l r)
theorem RpAll.le (l : F.le F') : ∀ {v : List V} {d : List D}, RpAll K F v d → RpAll K F' v d
  | _, _, .nil => .nil
  | _, _, .cons h r => .cons (Rp.le l h) (RpAll.le l r)
theorem RpKV.le (l : F.le F') : ∀ {v : List (Key × V)} {d : List (D × D)}, RpKV K F v d → RpKV K F' v d
  | _, _, .nil => .nil
  | _, _, .cons h r => .cons (Rp.le l h) (RpKV.le l r)
theorem RpKT.le (l : F.le F') : ∀ {v : List (List Key × V)} {d : List (D × D)}, RpKT K F v d → RpKT K F' v d
  | _, _, .nil => .nil
  | _, _, .cons h r => .cons (Rp.le l h) (RpKT.le l r)
end
theorem RpKT.length : ∀ {vs : List (List Key × V)} {ds : List (D × D)}, RpKT K F vs ds → vs.length = ds.length
  | _, _, .nil => rfl
  | _, _, .cons _ r => congrArg (· + 1) (RpKT.length r)
theorem RpAll.length : ∀ {vs : List V} {ds : List D}, RpAll K F vs ds → vs.length = ds.length
  | _, _, .nil => rfl
  | _, _, .cons _ r => congrArg (· + 1) (RpAll.length r)
theorem RpKV.length : ∀ {vs : List (Key × V)} {ds : List (D × D)}, RpKV K F vs ds → vs.length = ds.length
  | _, _, .nil => rfl
  | _, _, .cons _ r => congrArg (· + 1) (RpKV.length r)
theorem RpAll.append : ∀ {vs ws : List V} {ds es : List D}, RpAll K F vs ds → RpAll K F ws es → RpAll K F (vs ++ ws) (ds ++ es)
  | _, _, _, _, .nil, s => s
  | _, _, _, _, .cons h r, s => .cons h (RpAll.append r s)
theorem RpAll.get : ∀ {vs : List V} {ds : List D} {i : Nat} {d : D}, RpAll K F vs ds → ds[i]? = some d → ∃ v, vs[i]? = some v ∧ Rp K F v d
  | _, _, 0, _, .cons h _, e => by
    have e := Option.some.inj (show some _ = some _ from e)
    subst e
    exact ⟨_, rfl, h⟩
  | _, _, i + 1, _, .cons _ r, e => RpAll.get (i := i) r e
  | _, _, _, _, .nil, e => by simp at e
theorem RpAll.take : ∀ {vs : List V} {ds : List D} (n : Nat), RpAll K F vs ds → RpAll K F (vs.take n) (ds.take n)
  | _, _, 0, _ => .nil
  | _, _, _ + 1, .nil => .nil
  | _, _, n + 1, .cons h r => .cons h (RpAll.take n r)
theorem RpAll.drop : ∀ {vs : List V} {ds : List D} (n : Nat), RpAll K F vs ds → RpAll K F (vs.drop n) (ds.drop n)
  | _, _, 0, r => r
  | _, _, _ + 1, .nil => .nil
  | _, _, n + 1, .cons _ r => RpAll.drop n r
theorem RpAll.eraseIdx : ∀ {vs : List V} {ds : List D} (n : Nat), RpAll K F vs ds → RpAll K F (vs.eraseIdx n) (ds.eraseIdx n)
  | _, _, _, .nil => .nil
  | _, _, 0, .cons _ r => r
  | _, _, n + 1, .cons h r => .cons h (RpAll.eraseIdx n r)
theorem RpAll.reverse {vs : List V} {ds : List D} (h : RpAll K F vs ds) : RpAll K F vs.reverse ds.reverse := by
  induction vs generalizing ds with
  | nil => cases h; exact .nil
  | cons v vs ih =>
    cases h with
    | cons h r =>
      rw [List.reverse_cons, List.reverse_cons]
      exact (ih r).append (.cons h .nil)
theorem Rp.int_inv {v : V} {i : Int} (h : Rp K F v (.int i)) : v = .int i := by cases h; rfl
theorem Rp.bl_inv {v : V} {i : Bool} (h : Rp K F v (.bool i)) : v = .bl i := by cases h; rfl
theorem Rp.str_inv {v : V} {i : Str} (h : Rp K F v (.str i)) : v = .str i := by cases h; rfl
theorem Rp.non_inv {v : V} (h : Rp K F v .none) : v = .non := by cases h; rfl
theorem RpAll.ints : ∀ {ns : List Int} {vs : List V}, RpAll K F vs (ns.map .int) → vs = ns.map V.int
  | [], _, h => by cases h; rfl
  | n :: ns, _, h => by
    cases h with
    | cons h r => rw [h.int_inv, RpAll.ints r]; rfl
theorem RpAll.of_ints : ∀ (ns : List Int), RpAll K F (ns.map V.int) (ns.map .int)
  | [] => .nil
  | n :: ns => .cons (.int n) (RpAll.of_ints ns)
theorem RpAll.strs : ∀ {ns : List Str} {vs : List V}, RpAll K F vs (ns.map .str) → vs = ns.map V.str
  | [], _, h => by cases h; rfl
  | n :: ns, _, h => by
    cases h with
    | cons h r => rw [h.str_inv, RpAll.strs r]; rfl
theorem RpAll.of_strs : ∀ (ns : List Str), RpAll K F (ns.map V.str) (ns.map .str)
  | [] => .nil
  | n :: ns => .cons (.str n) (RpAll.of_strs ns)
theorem RpAll.bools : ∀ {ns : List Bool} {vs : List V}, RpAll K F vs (ns.map .bool) → vs = ns.map V.bl
  | [], _, h => by cases h; rfl
  | n :: ns, _, h => by
    cases h with
    | cons h r => rw [h.bl_inv, RpAll.bools r]; rfl
end

/-! ### states -/
inductive Sl where
  | u
  | d (x : D)
  | o (x : D)
def Sl.val : Sl → D
  | .u => .none
  | .d x => x
  | .o x => x
structure Dr where
  key : Str
  wide : List Int
  cells : List Int
  rest : Int
  turn : Int
structure S where
  env : List Sl
  dr : Option Dr
inductive Out (α : Type) where
  | ok (a : α) (s : S)
  | exc (c : Str) (s : S)
  | bad
def Out.bind {α β : Type} (o : Out α) (k : α → S → Out β) : Out β := match o with
  | .ok a s => k a s
  | .exc c s => .exc c s
  | .bad => .bad
@[simp] theorem Out.bind_ok {α β : Type} (a : α) (s : S) (k : α → S → Out β) : (Out.ok a s).bind k = k a s := rfl
@[simp] theorem Out.bind_exc {α β : Type} (c : Str) (s : S) (k : α → S → Out β) : (Out.exc c s).bind k = .exc c s := rfl
@[simp] theorem Out.bind_bad {α β : Type} (k : α → S → Out β) : (Out.bad : Out α).bind k = .bad := rfl
abbrev M (α : Type) := S → Out α

/-- the draw's objects -/
def drKvs (st : Dr) (w c : Addr) : List (Key × V) := [(.inr st.key, .ref w), (.inr "cells", .ref c), (.inr "rest", .int st.rest), (.inr "turn", .int st.turn)]
def DrOk (P : Hp) (F : Fz) (H : Hp) : Option Dr → Prop
  | none => F.dr = none
  | some st => ∃ d w c, F.dr = some (d, w) ∧ d ≠ w ∧ H d = some (.dK (drKvs st w c)) ∧ H w = some (.lst (st.wide.map V.int)) ∧ Rd F.hp c (.lst (st.cells.map V.int)) ∧
      F.hp d = none ∧ F.hp w = none ∧ P d = none ∧ P w = none
/-- may be written -/
def NX : HO → Prop
  | .tbl _ => False
  | .ext _ => False
  | _ => True
/-- the frozen part stands in the heap (a dict may be locked) -/
def Sub (G H : Hp) : Prop := ∀ a o, G a = some o → H a = some o ∨ ((Mut (some o) ∧ NX o) ∧ ∃ od, H a = some (.frz od o))
/-- what is one's own: list or dict -/
inductive ObD (K : PySem.W.Frag) (F : Fz) : HO → D → Prop
  | lst {xs : List V} {ds : List D} : RpAll K F xs ds → ObD K F (.lst xs) (.list ds)
  | dic {kvs : List (Key × V)} {ds : List (D × D)} : RpKV K F kvs ds → ObD K F (.dK kvs) (.dict ds)
  | dit {kvs : List (List Key × V)} {ds : List (D × D)} : RpKT K F kvs ds → ObD K F (.dT kvs) (.dict ((.bool true, .none) :: ds))
theorem ObD.le {K : PySem.W.Frag} {F F' : Fz} (l : F.le F') {o : HO} {d : D} (h : ObD K F o d) : ObD K F' o d := by
  cases h with
  | lst r => exact .lst (r.le l)
  | dic r => exact .dic (r.le l)
  | dit r => exact .dit (r.le l)
structure Own (K : PySem.W.Frag) (P : Hp) (F : Fz) (H : Hp) (a : Addr) (x : D) : Prop where
  fr : F.hp a = none
  pr : P a = none
  dr : ∀ d w, F.dr = some (d, w) → a ≠ d ∧ a ≠ w
  ob : ∃ o, H a = some o ∧ ObD K F o x
def SlotOk (K : PySem.W.Frag) (P : Hp) (F : Fz) (H : Hp) (v : Option V) : Sl → Prop
  | .u => True
  | .d x => ∃ u, v = some u ∧ Rp K F u x
  | .o x => ∃ a, v = some (.ref a) ∧ Own K P F H a x
/-- the tables of code objects; they stand in no other part -/
structure TbOk (K : PySem.W.Frag) (P : Hp) (F : Fz) (H : Hp) : Prop where
  ok : LamX.Tabs (lamTT K) H
  nP : ∀ a ps, P a ≠ some (.tbl ps)
  nF : ∀ a ps, F.hp a ≠ some (.tbl ps)
def NT (o : HO) : Prop := ∀ ps, o ≠ .tbl ps
theorem TbOk.alloc {K : PySem.W.Frag} {P : Hp} {F : Fz} {H : Hp} {p : Addr} {o : HO} (h : TbOk K P F H) (hp : H p = none) : TbOk K P F (upd H p o) :=
  ⟨h.ok.ext fun b u e => by rw [upd_ne (ne_of_none e hp)]; exact e, h.nP, h.nF⟩
theorem Tabs_write {T : List (Addr × Str)} {H H' : Hp} (h : LamX.Tabs T H) (k : ∀ b o, H b = some o → ¬ NX o → H' b = some o) : LamX.Tabs T H' := fun p hp => by
  obtain ⟨ps, h1, h2, h3⟩ := h p hp
  refine ⟨ps, k _ _ h1 (fun z => z), h2, fun pos cv hc => ?_⟩
  obtain ⟨c, e1, e2⟩ := h3 pos cv hc
  exact ⟨c, e1, k _ _ e2 (fun z => z)⟩
theorem TbOk.write {K : PySem.W.Frag} {P : Hp} {F : Fz} {H : Hp} {a : Addr} {o o' : HO} (h : TbOk K P F H) (e : H a = some o) (n : NX o) : TbOk K P F (upd H a o') :=
  ⟨Tabs_write h.ok fun b u q nx => by
    have hb : b ≠ a := fun z => by
      subst z
      rw [e] at q
      cases q
      exact nx n
    rw [upd_ne hb]
    exact q, h.nP, h.nF⟩
theorem ObD.nx {K : PySem.W.Frag} {F : Fz} {o : HO} {d : D} (h : ObD K F o d) : NX o := by
  cases h <;> trivial
theorem NX.nt {o : HO} (h : NX o) : NT o := fun ps z => by subst z; exact h
structure StRel (K : PySem.W.Frag) (P F0 : Hp) (F : Fz) (σ : L2.St) (H : Hp) (s : S) : Prop where
  fH : Sub F.hp H
  pH : ∀ a o, P a = some o → H a = some o
  new : ∀ a, F.hp a ≠ none → F0 a ≠ none ∨ ∀ o, P a = some o → ¬ NX o
  len : s.env.length ≤ σ.length
  slot : ∀ i sl, s.env[i]? = some sl → SlotOk K P F H (σ.getD i none) sl
  sep : ∀ i j x y a, i ≠ j → s.env[i]? = some (.o x) → s.env[j]? = some (.o y) → σ.getD i none = some (.ref a) → σ.getD j none ≠ some (.ref a)
  dr : DrOk P F H s.dr
  tb : TbOk K P F H
  ph : Ph.Φ F
/-- a result: known to stay, or one's own and held by no slot -/
def RV (K : PySem.W.Frag) (P : Hp) (F : Fz) (σ : L2.St) (H : Hp) (s : S) (v : V) : Sl → Prop
  | .u => False
  | .d x => Rp K F v x
  | .o x => ∃ a, v = .ref a ∧ Own K P F H a x ∧ ∀ i y, s.env[i]? = some (.o y) → σ.getD i none ≠ some (.ref a)

/-! ### judgements -/
def Res (K : PySem.W.Frag) (W : WX) (P F0 : Hp) (F : Fz) (σ : L2.St) (o : Out Sl) (Q : VK) : Prop := match o with
  | .ok r s => ∀ v F' H, F.le F' → StRel K P F0 F' σ H s → RV K P F' σ H s v r → Q v H
  | .exc c s => ∀ F' H, F.le F' → StRel K P F0 F' σ H s → W (.ref (He.ga K c)) none σ H
  | .bad => False
def tD (K : PySem.W.Frag) (W : WX) (m : M Sl) : TE := fun σ H Q => ∃ P F0 F s, StRel K P F0 F σ H s ∧ Res K W P F0 F σ (m s) Q
abbrev DE (X : Cx) (W : WX) (e : Expr) (m : M Sl) : Prop := PE X e (tD X.K W m)

section
variable {K : PySem.W.Frag} {P F0 : Hp} {F F' : Fz} {σ : L2.St} {H H' : Hp} {s : S} {a p : Addr} {x : D} {v : V} {o : HO}
theorem rd_sub {G : Hp} {a : Addr} {u : HO} (l : Sub G H) (h : Rd G a u) : Rd H a u := by
  rcases h with h | ⟨o, h⟩
  · rcases l _ _ h with q | ⟨_, od, q⟩
    · exact .inl q
    · exact .inr ⟨od, q⟩
  · rcases l _ _ h with q | ⟨m, _⟩
    · exact .inr ⟨o, q⟩
    · exact m.1.elim
theorem sqL_sub {G : Hp} {xs : List V} (l : Sub G H) (h : SqL K G a xs) : SqL K H a xs := by
  rcases h with (h | ⟨o, h⟩) | h
  · rcases l _ _ h with q | ⟨_, od, q⟩
    · exact .inl (.inl q)
    · exact .inl (.inr ⟨od, q⟩)
  · rcases l _ _ h with q | ⟨m, _⟩
    · exact .inl (.inr ⟨o, q⟩)
    · exact m.1.elim
  · exact .inr h
theorem sqT_sub {G : Hp} {xs : List V} (l : Sub G H) (h : SqT K G a xs) : SqT K H a xs := by
  rcases h with (h | ⟨o, h⟩) | h
  · rcases l _ _ h with q | ⟨_, od, q⟩
    · exact .inl (.inl q)
    · exact .inl (.inr ⟨od, q⟩)
  · rcases l _ _ h with q | ⟨m, _⟩
    · exact .inl (.inr ⟨o, q⟩)
    · exact m.1.elim
  · exact .inr h
/-- what is known to stay is tracked -/
theorem StRel.in_H (r : StRel K P F0 F σ H s) (h : F.hp a ≠ none) : H a ≠ none := by
  intro e
  cases q : F.hp a with
  | none => exact h q
  | some o =>
    rcases r.fH a o q with z | ⟨_, od, z⟩ <;> rw [e] at z <;> cases z
theorem StRel.none_F (r : StRel K P F0 F σ H s) (h : H a = none) : F.hp a = none := by
  cases q : F.hp a with
  | none => rfl
  | some o => exact absurd h (r.in_H (by rw [q]; simp))
theorem StRel.none_P (r : StRel K P F0 F σ H s) (h : H a = none) : P a = none := by
  cases q : P a with
  | none => rfl
  | some o => rw [r.pH a o q] at h; cases h
theorem Own.le (l : F.le F') (h : Own K P F H a x) (hf : F'.hp a = none) (hd : ∀ d w, F'.dr = some (d, w) → a ≠ d ∧ a ≠ w) : Own K P F' H a x := by
  obtain ⟨o, e, r⟩ := h.ob
  exact ⟨hf, h.pr, hd, o, e, r.le l⟩
/-- F with one more object -/
def Fz.put (F : Fz) (a : Addr) (o : HO) : Fz := ⟨upd F.hp a o, F.dr⟩
theorem Fz.le_put (h : F.hp a = none) : F.le (F.put a o) := by
  refine ⟨fun b u e => ?_, fun x e => e⟩
  show upd F.hp a o b = some u
  rw [upd_ne (ne_of_none e h)]
  exact e
theorem Fz.put_same : (F.put a o).hp a = some o := upd_same
theorem nxN {P : Hp} (h : P a = none) : ∀ o, P a = some o → ¬ NX o := fun o e => by rw [h] at e; cases e
/-- the state when F grows by an object that stands, is nobody's own -/
theorem StRel.put (r : StRel K P F0 F σ H s) (hf : F.hp a = none) (hH : H a = some o) (hP : ∀ o2, P a = some o2 → ¬ NX o2) (hd : ∀ d w, F.dr = some (d, w) → a ≠ d ∧ a ≠ w)
    (hs : ∀ i y, s.env[i]? = some (.o y) → σ.getD i none ≠ some (.ref a)) (nt : NT o := by intro _ z; cases z) : StRel K P F0 (F.put a o) σ H s where
  tb := ⟨r.tb.ok, r.tb.nP, fun b ps z => by
    by_cases hb : b = a
    · subst hb
      have e1 : upd F.hp b o b = some (.tbl ps) := z
      rw [upd_same] at e1
      exact nt ps (Option.some.inj e1)
    · have e1 : upd F.hp a o b = some (.tbl ps) := z
      rw [upd_ne hb] at e1
      exact r.tb.nF b ps e1⟩
  fH := fun b u e => by
    by_cases hb : b = a
    · subst hb
      have e1 : upd F.hp b o b = some u := e
      rw [upd_same] at e1
      cases e1
      exact .inl hH
    · have e1 : upd F.hp a o b = some u := e
      rw [upd_ne hb] at e1
      exact r.fH b u e1
  ph := Ph.mono _ _ (Fz.le_put hf) r.ph
  pH := r.pH
  new := fun b e => by
    by_cases hb : b = a
    · subst hb
      exact .inr hP
    · have e1 : upd F.hp a o b ≠ none := e
      rw [upd_ne hb] at e1
      exact r.new b e1
  len := r.len
  slot := fun i sl e => by
    have q := r.slot i sl e
    cases sl with
    | u => trivial
    | d x =>
      obtain ⟨u, e1, e2⟩ := q
      exact ⟨u, e1, e2.le (Fz.le_put hf)⟩
    | o x =>
      obtain ⟨b, e1, e2⟩ := q
      refine ⟨b, e1, e2.le (Fz.le_put hf) ?_ e2.dr⟩
      have hb : b ≠ a := fun z => hs i x e (by rw [e1, z])
      show upd F.hp a o b = none
      rw [upd_ne hb]
      exact e2.fr
  sep := r.sep
  dr := by
    have q := r.dr
    cases hst : s.dr with
    | none =>
      rw [hst] at q
      exact q
    | some st =>
      rw [hst] at q
      obtain ⟨d, w, c, q1, q2, q3, q4, q5, q6, q7, q8, q9⟩ := q
      obtain ⟨nd, nw⟩ := hd d w q1
      refine ⟨d, w, c, q1, q2, q3, q4, rd_le (Fz.le_put hf).hp q5, ?_, ?_, q8, q9⟩
      · show upd F.hp a o d = none
        rw [upd_ne nd.symm]
        exact q6
      · show upd F.hp a o w = none
        rw [upd_ne nw.symm]
        exact q7
/-- a new object -/
theorem Sub.upd (l : Sub F.hp H) (hp : H p = none) : Sub F.hp (upd H p o) := fun b u e => by
  have hb : b ≠ p := fun z => by
    subst z
    rcases l _ _ e with q | ⟨_, _, q⟩ <;> rw [hp] at q <;> cases q
  rw [upd_ne hb]
  exact l b u e
theorem DrOk.upd {P : Hp} (q : DrOk P F H s.dr) (hp : H p = none) : DrOk P F (L2.upd H p o) s.dr := by
  cases hst : s.dr with
  | none =>
    rw [hst] at q
    exact q
  | some st =>
    rw [hst] at q
    obtain ⟨d, w, c, q1, q2, q3, q4, q5⟩ := q
    exact ⟨d, w, c, q1, q2, by rw [upd_ne (ne_of_none q3 hp)]; exact q3, by rw [upd_ne (ne_of_none q4 hp)]; exact q4, q5⟩
theorem SlotOk.upd {sl : Sl} {ov : Option V} (q : SlotOk K P F H ov sl) (hp : H p = none) : SlotOk K P F (L2.upd H p o) ov sl := by
  cases sl with
  | u => trivial
  | d x => exact q
  | o x =>
    obtain ⟨b, e1, e2⟩ := q
    obtain ⟨ob, e3, e4⟩ := e2.ob
    exact ⟨b, e1, e2.fr, e2.pr, e2.dr, ob, by rw [upd_ne (ne_of_none e3 hp)]; exact e3, e4⟩
theorem StRel.alloc (r : StRel K P F0 F σ H s) (hp : H p = none) : StRel K P F0 F σ (upd H p o) s :=
  ⟨r.fH.upd hp, fun b u e => by rw [upd_ne (ne_of_none (r.pH b u e) hp)]; exact r.pH b u e, r.new, r.len, fun i sl e => (r.slot i sl e).upd hp, r.sep, r.dr.upd hp, r.tb.alloc hp, r.ph⟩
theorem StRel.own_ne (r : StRel K P F0 F σ H s) (hp : H p = none) : ∀ i y, s.env[i]? = some (.o y) → σ.getD i none ≠ some (.ref p) := fun i y e z => by
  obtain ⟨b, e1, e2⟩ := r.slot i _ e
  rw [e1] at z
  cases z
  obtain ⟨ob, e3, _⟩ := e2.ob
  rw [hp] at e3
  cases e3
theorem StRel.dr_ne (r : StRel K P F0 F σ H s) (hp : H p = none) : ∀ d w, F.dr = some (d, w) → p ≠ d ∧ p ≠ w := fun d w e => by
  have q := r.dr
  cases hst : s.dr with
  | none =>
    rw [hst] at q
    have q1 : F.dr = none := q
    rw [e] at q1
    cases q1
  | some st =>
    rw [hst] at q
    obtain ⟨d', w', c, q1, q2, q3, q4, q5⟩ := q
    rw [e] at q1
    cases q1
    exact ⟨(ne_of_none q3 hp).symm, (ne_of_none q4 hp).symm⟩
/-- .. that is one's own -/
theorem StRel.alloc_o (r : StRel K P F0 F σ H s) (hp : H p = none) (h : ObD K F o x) : StRel K P F0 F σ (upd H p o) s ∧ RV K P F σ (upd H p o) s (.ref p) (.o x) :=
  ⟨r.alloc hp, p, rfl, ⟨r.none_F hp, r.none_P hp, r.dr_ne hp, o, upd_same, h⟩, r.own_ne hp⟩
/-- .. that is known to stay -/
theorem StRel.alloc_d (r : StRel K P F0 F σ H s) (hp : H p = none) (nt : NT o := by intro _ z; cases z) : F.le (F.put p o) ∧ StRel K P F0 (F.put p o) σ (upd H p o) s :=
  ⟨Fz.le_put (r.none_F hp), (r.alloc hp).put (r.none_F hp) upd_same (nxN (r.none_P hp)) (r.dr_ne hp) (r.own_ne hp) nt⟩
theorem ObD.rp {a : Addr} (h : ObD K F o x) (hf : F.hp a = none) : Rp K (F.put a o) (.ref a) x := by
  cases h with
  | lst r => exact .lst (.inl Fz.put_same) (r.le (Fz.le_put hf))
  | dic r => exact .dic Fz.put_same (r.le (Fz.le_put hf))
  | dit r => exact .dit Fz.put_same (r.le (Fz.le_put hf))
/-- a result is made known to stay -/
theorem RV.freeze {r : Sl} (st : StRel K P F0 F σ H s) (h : RV K P F σ H s v r) : ∃ F', F.le F' ∧ StRel K P F0 F' σ H s ∧ Rp K F' v r.val := by
  cases r with
  | u => exact h.elim
  | d x => exact ⟨F, .refl F, st, h⟩
  | o x =>
    obtain ⟨a, rfl, ow, ne⟩ := h
    obtain ⟨ob, e, q⟩ := ow.ob
    exact ⟨F.put a ob, Fz.le_put ow.fr, st.put ow.fr e (nxN ow.pr) ow.dr ne q.nx.nt, q.rp ow.fr⟩
/-- a value that may be read now -/
def Bor (K : PySem.W.Frag) (F : Fz) (H : Hp) (v : V) (x : D) : Prop := Rp K F v x ∨ ∃ a o, v = .ref a ∧ F.hp a = none ∧ H a = some o ∧ ObD K F o x
theorem RV.bor {r : Sl} (h : RV K P F σ H s v r) : Bor K F H v r.val := by
  cases r with
  | u => exact h.elim
  | d x => exact .inl h
  | o x =>
    obtain ⟨a, rfl, ow, _⟩ := h
    obtain ⟨ob, e, q⟩ := ow.ob
    exact .inr ⟨a, ob, rfl, ow.fr, e, q⟩
theorem StRel.bor_slot (st : StRel K P F0 F σ H s) {i : Nat} {sl : Sl} (h : s.env[i]? = some sl) (hu : sl ≠ .u) : ∃ v, σ[i]? = some (some v) ∧ Bor K F H v sl.val := by
  have q := st.slot i sl h
  have get : ∀ u, σ.getD i none = some u → σ[i]? = some (some u) := fun u e => by
    rw [List.getD_eq_getElem?_getD] at e
    cases hh : σ[i]? with
    | none => rw [hh] at e; cases e
    | some z => rw [hh] at e; exact congrArg some e
  cases sl with
  | u => exact absurd rfl hu
  | d x =>
    obtain ⟨u, e1, e2⟩ := q
    exact ⟨u, get u e1, .inl e2⟩
  | o x =>
    obtain ⟨a, e1, ow⟩ := q
    obtain ⟨ob, e, q⟩ := ow.ob
    exact ⟨.ref a, get _ e1, .inr ⟨a, ob, rfl, ow.fr, e, q⟩⟩
theorem Bor.list {ds : List D} (l : Sub F.hp H) (h : Bor K F H v (.list ds)) : ∃ a xs, v = .ref a ∧ Rd H a (.lst xs) ∧ RpAll K F xs ds := by
  rcases h with h | ⟨a, o, rfl, hf, e, h⟩
  · cases h with
    | lst h r => exact ⟨_, _, rfl, rd_sub l h, r⟩
  · cases h with
    | lst r => exact ⟨_, _, rfl, .inl e, r⟩
theorem Bor.tuple {ds : List D} (l : Sub F.hp H) (h : Bor K F H v (.tuple ds)) : ∃ a xs, v = .ref a ∧ SqT K H a xs ∧ RpAll K F xs ds := by
  rcases h with h | ⟨a, o, rfl, hf, e, h⟩
  · cases h with
    | tup h r => exact ⟨_, _, rfl, sqT_sub l h, r⟩
  · cases h
theorem Bor.int {i : Int} (h : Bor K F H v (.int i)) : v = .int i := by
  rcases h with h | ⟨a, o, rfl, hf, e, h⟩
  · exact h.int_inv
  · cases h
theorem Bor.str {i : Str} (h : Bor K F H v (.str i)) : v = .str i := by
  rcases h with h | ⟨a, o, rfl, hf, e, h⟩
  · exact h.str_inv
  · cases h
theorem Bor.bl {i : Bool} (h : Bor K F H v (.bool i)) : v = .bl i := by
  rcases h with h | ⟨a, o, rfl, hf, e, h⟩
  · exact h.bl_inv
  · cases h
theorem Bor.non (h : Bor K F H v .none) : v = .non := by
  rcases h with h | ⟨a, o, rfl, hf, e, h⟩
  · exact h.non_inv
  · cases h
theorem rpkv_mark {kvs : List (Key × V)} {l ds : List (D × D)} (h : RpKV K F kvs l) (e : l = (.bool true, .none) :: ds) : False := by
  cases h with
  | nil => cases e
  | cons _ _ =>
    rename_i k _ _ _ _ _ _
    injection e with e1 _
    injection e1 with e2 _
    cases k <;> cases e2
theorem Bor.dict {ds : List (D × D)} (l : Sub F.hp H) (ht : notTok ds = true) (h : Bor K F H v (.dict ds)) : ∃ a kvs, v = .ref a ∧ Rd H a (.dK kvs) ∧ RpKV K F kvs ds := by
  rcases h with h | ⟨a, o, rfl, hf, e, h⟩
  · cases h with
    | dic h r =>
      rcases l _ _ h with q | ⟨_, od, q⟩
      · exact ⟨_, _, rfl, .inl q, r⟩
      · exact ⟨_, _, rfl, .inr ⟨od, q⟩, r⟩
    | tok h => cases ht
    | exn h => cases ht
    | lam _ _ _ => cases ht
    | dit h r => cases ht
  · cases h with
    | dic r => exact ⟨_, _, rfl, .inl e, r⟩
    | dit r => cases ht
/-- .. one with tuple keys -/
theorem Bor.dictT {ds : List (D × D)} (l : Sub F.hp H) (h : Bor K F H v (.dict ((.bool true, .none) :: ds))) : ∃ a kvs, v = .ref a ∧ Rd H a (.dT kvs) ∧ RpKT K F kvs ds := by
  rcases h with h | ⟨a, o, rfl, hf, e, h⟩
  · generalize eD : (PyData.dict ((.bool true, .none) :: ds)) = dd at h
    cases h with
    | dic h r =>
      injection eD with eD
      subst eD
      exact (rpkv_mark r rfl).elim
    | tok h => injection eD with eD; injection eD with e1 _; injection e1 with e2 _; cases e2
    | exn h => injection eD with eD; injection eD with e1 _; injection e1 with e2 _; cases e2
    | lam _ _ _ => injection eD with eD; injection eD with e1 _; injection e1 with e2 _; cases e2
    | dit h r =>
      injection eD with eD
      injection eD with _ e2
      subst e2
      rcases l _ _ h with q | ⟨_, od, q⟩
      · exact ⟨_, _, rfl, .inl q, r⟩
      · exact ⟨_, _, rfl, .inr ⟨od, q⟩, r⟩
    | _ => cases eD
  · generalize eD : (PyData.dict ((.bool true, .none) :: ds)) = dd at h
    cases h with
    | lst r => cases eD
    | dic r =>
      injection eD with eD
      subst eD
      exact (rpkv_mark r rfl).elim
    | dit r =>
      injection eD with eD
      injection eD with _ e2
      subst e2
      exact ⟨_, _, rfl, .inl e, r⟩
/-- results: a longer F -/
theorem Res.le {W : WX} {out : Out Sl} {Q : VK} (l : F.le F') (h : Res K W P F0 F σ out Q) : Res K W P F0 F' σ out Q := by
  cases out with
  | ok r s => exact fun v G H' lG st rv => h v G H' (l.trans lG) st rv
  | exc c s => exact fun G H' lG st => h G H' (l.trans lG) st
  | bad => exact h
/-- one after the other -/
theorem tD.bind {W : WX} {m : M Sl} {k : Sl → S → Out Sl} {Q : VK} (st : StRel K P F0 F σ H s) (h : Res K W P F0 F σ ((m s).bind k) Q) :
    tD K W m σ H fun v H1 => ∃ F1 s1 r, F.le F1 ∧ StRel K P F0 F1 σ H1 s1 ∧ RV K P F1 σ H1 s1 v r ∧ Res K W P F0 F1 σ (k r s1) Q := by
  refine ⟨P, F0, F, s, st, ?_⟩
  cases e : m s with
  | ok r s1 =>
    rw [e] at h
    exact fun v F1 H1 l1 st1 rv1 => ⟨F1, s1, r, l1, st1, rv1, Res.le l1 h⟩
  | exc c s1 =>
    rw [e] at h
    exact h
  | bad =>
    rw [e] at h
    exact h
theorem Res.ok {W : WX} {r : Sl} {Q : VK} (h : Res K W P F0 F σ (.ok r s) Q) (st : StRel K P F0 F σ H s) (rv : RV K P F σ H s v r) : Q v H := h v F H (.refl F) st rv
end

/-! ### operands -/
inductive Opd where
  | n (i : Nat)
  | e (m : M Sl)
def pkS (s : S) (i : Nat) (f : D → Out Sl) : Out Sl := match s.env[i]? with
  | some (.d x) => f x
  | some (.o x) => f x
  | _ => .bad
def OO (X : Cx) (W : WX) (e : Expr) : Opd → Prop
  | .n i => PE X e (tVar i)
  | .e m => DE X W e m
def opd1 (a : Opd) (f : D → S → Out Sl) : M Sl := match a with
  | .n i => fun s => pkS s i fun x => f x s
  | .e m => fun s => (m s).bind fun x s => f x.val s
def opd2 (a b : Opd) (f : D → D → S → Out Sl) : M Sl := match a with
  | .n i => match b with
    | .n j => fun s => pkS s i fun x => pkS s j fun y => f x y s
    | .e m => fun s => pkS s i fun _ => (m s).bind fun y s => pkS s i fun x => f x y.val s
  | .e ma => match b with
    | .n j => fun s => (ma s).bind fun x s => pkS s j fun y => f x.val y s
    | .e m => fun s => (ma s).bind fun x s => (m s).bind fun y s => f x.val y.val s
section
variable {X : Cx} {W : WX} {a b : Expr} {oa ob : Opd}
theorem PE.weaken {e : Expr} {t t' : TE} (h : PE X e t) (i : ∀ σ H Q, t' σ H Q → t σ H Q) : PE X e t' := ⟨fun pins s σ H Q I q => h.run pins s σ H Q I (i σ H Q q)⟩
variable {P F0 : Hp} {F : Fz} {σ : L2.St} {H : Hp} {s : S} {Q : VK}
theorem pkS_ok {K : PySem.W.Frag} {i : Nat} {f : D → Out Sl} (st : StRel K P F0 F σ H s) (h : Res K W P F0 F σ (pkS s i f) Q) : ∃ v x, σ[i]? = some (some v) ∧ Bor K F H v x ∧ Res K W P F0 F σ (f x) Q := by
  unfold pkS at h
  split at h
  · rename_i x e
    obtain ⟨v, h1, h2⟩ := st.bor_slot e (by simp)
    exact ⟨v, x, h1, h2, h⟩
  · rename_i x e
    obtain ⟨v, h1, h2⟩ := st.bor_slot e (by simp)
    exact ⟨v, x, h1, h2, h⟩
  · exact h.elim
/-- an operand evaluated and read at once -/
def tOpd (K : PySem.W.Frag) (W : WX) : Opd → TE
  | .n i => tVar i
  | .e m => tD K W m
theorem OO.pe : ∀ {o : Opd}, OO X W a o → PE X a (tOpd X.K W o)
  | .n _, h => h
  | .e _, h => h
theorem opd1_ok {K : PySem.W.Frag} {f : D → S → Out Sl} (st : StRel K P F0 F σ H s) (h : Res K W P F0 F σ (opd1 oa f s) Q) :
    tOpd K W oa σ H fun v H1 => ∃ F1 s1 x, F.le F1 ∧ StRel K P F0 F1 σ H1 s1 ∧ Bor K F1 H1 v x ∧ Res K W P F0 F1 σ (f x s1) Q := by
  cases oa with
  | n i =>
    obtain ⟨v, x, h1, h2, h3⟩ := pkS_ok st h
    exact ⟨v, h1, F, s, x, .refl F, st, h2, h3⟩
  | e m =>
    refine tD_mono (tD.bind st h) ?_
    rintro v H1 ⟨F1, s1, r, l, st1, rv, q⟩
    exact ⟨F1, s1, r.val, l, st1, rv.bor, q⟩
where
  tD_mono {K : PySem.W.Frag} {m : M Sl} {σ : L2.St} {H : Hp} {Q Q' : VK} (h : tD K W m σ H Q) (i : ∀ v H, Q v H → Q' v H) : tD K W m σ H Q' := by
    obtain ⟨P, F0, F, s, st, r⟩ := h
    refine ⟨P, F0, F, s, st, ?_⟩
    cases e : m s with
    | ok r1 s1 =>
      rw [e] at r
      exact fun v F' H' l st' rv => i _ _ (r v F' H' l st' rv)
    | exc c s1 =>
      rw [e] at r
      exact r
    | bad =>
      rw [e] at r
      exact r
end
end Dy
end
section
set_option Elab.async false
set_option linter.all false
set_option maxRecDepth 100000
set_option maxHeartbeats 4000000
namespace Dy
open PySem PySem.Spec PyProof.Rows L2
variable [LawI] [Ph]
section
variable {X : Cx} {W : WX} {a b : Expr} {oa ob : Opd} {P F0 : Hp} {F F' : Fz} {σ : L2.St} {H : Hp} {s : S} {Q : VK} {K : PySem.W.Frag} {v : V} {x : D}
theorem tD_mono {m : M Sl} {Q Q' : VK} (h : tD K W m σ H Q) (i : ∀ v H, Q v H → Q' v H) : tD K W m σ H Q' := opd1_ok.tD_mono h i
theorem Bor.le (l : F.le F') (st : StRel K P F0 F' σ H s) (h : Rp K F v x) : Bor K F' H v x := .inl (h.le l)
theorem opd2_ok {f : D → D → S → Out Sl} (st : StRel K P F0 F σ H s) (h : Res K W P F0 F σ (opd2 oa ob f s) Q) :
    tOpd K W oa σ H fun v H1 => tOpd K W ob σ H1 fun u H2 => ∃ F2 s2 x y, F.le F2 ∧ StRel K P F0 F2 σ H2 s2 ∧ Bor K F2 H2 v x ∧ Bor K F2 H2 u y ∧ Res K W P F0 F2 σ (f x y s2) Q := by
  cases oa with
  | n i =>
    cases ob with
    | n j =>
      obtain ⟨v, x, h1, h2, h3⟩ := pkS_ok st h
      obtain ⟨u, y, k1, k2, k3⟩ := pkS_ok st h3
      exact ⟨v, h1, u, k1, F, s, x, y, .refl F, st, h2, k2, k3⟩
    | e m =>
      obtain ⟨v, x, h1, h2, h3⟩ := pkS_ok st h
      refine ⟨v, h1, tD_mono (tD.bind st h3) ?_⟩
      rintro u H2 ⟨F1, s1, r, l, st1, rv, q⟩
      obtain ⟨v', x', k1, k2, k3⟩ := pkS_ok st1 q
      rw [h1] at k1
      cases k1
      exact ⟨F1, s1, x', r.val, l, st1, k2, rv.bor, k3⟩
  | e ma =>
    cases ob with
    | n j =>
      refine tD_mono (tD.bind st h) ?_
      rintro v H1 ⟨F1, s1, r, l, st1, rv, q⟩
      obtain ⟨u, y, k1, k2, k3⟩ := pkS_ok st1 q
      exact ⟨u, k1, F1, s1, r.val, y, l, st1, rv.bor, k2, k3⟩
    | e m =>
      refine tD_mono (tD.bind st h) ?_
      rintro v H1 ⟨F1, s1, r, l, st1, rv, q⟩
      obtain ⟨F2, l2, st2, rp⟩ := rv.freeze st1
      refine tD_mono (tD.bind st2 (Res.le l2 q)) ?_
      rintro u H2 ⟨F3, s3, r3, l3, st3, rv3, q3⟩
      exact ⟨F3, s3, r.val, r3.val, l.trans (l2.trans l3), st3, .inl (rp.le l3), rv3.bor, q3⟩
/-- an operation on data -/
def rD (K : PySem.W.Frag) (g : D → D → Option Sl) : R2 := fun x y H Q => ∃ P F0 F σ s dx dy r, StRel K P F0 F σ H s ∧ Bor K F H x dx ∧ Bor K F H y dy ∧ g dx dy = some r ∧
  ∀ w F' H', F.le F' → StRel K P F0 F' σ H' s → RV K P F' σ H' s w r → Q w H'
def lift2 (g : D → D → Option Sl) (x y : D) (s : S) : Out Sl := match g x y with
  | some r => .ok r s
  | none => .bad
theorem lift2_ok {g : D → D → Option Sl} {dx dy : D} {u v : V} (st : StRel K P F0 F σ H s) (h1 : Bor K F H v dx) (h2 : Bor K F H u dy) (h : Res K W P F0 F σ (lift2 g dx dy s) Q) : rD K g v u H Q := by
  unfold lift2 at h
  split at h
  · rename_i r e
    exact ⟨P, F0, F, σ, s, dx, dy, r, st, h1, h2, e, h⟩
  · exact h.elim
theorem d_op {op : Operator} {pos : Pos} {g : D → D → Option Sl} (ho : OpR X (binaryOp op) (rD X.K g)) (ha : OO X W a oa) (hb : OO X W b ob) : DE X W (.BinOp a op b pos) (opd2 oa ob (lift2 g)) := by
  refine PE.weaken (pe_op ho ha.pe hb.pe) ?_
  rintro σ H Q ⟨P, F0, F, s, st, h⟩
  have z := opd2_ok st h
  refine tOpd_mono z fun v H1 z1 => tOpd_mono z1 ?_
  rintro u H2 ⟨F2, s2, x, y, l, st2, b1, b2, q⟩
  exact lift2_ok st2 b1 b2 q
where
  tOpd_mono {K : PySem.W.Frag} {o : Opd} {σ : L2.St} {H : Hp} {Q Q' : VK} (h : tOpd K W o σ H Q) (i : ∀ v H, Q v H → Q' v H) : tOpd K W o σ H Q' := by
    cases o with
    | n j =>
      obtain ⟨v, e, q⟩ := h
      exact ⟨v, e, i _ _ q⟩
    | e m => exact tD_mono h i
theorem tOpd_mono {o : Opd} {Q Q' : VK} (h : tOpd K W o σ H Q) (i : ∀ v H, Q v H → Q' v H) : tOpd K W o σ H Q' := d_op.tOpd_mono h i
theorem d_cmp {op : CmpOp} {pos : Pos} {g : D → D → Option Sl} (ho : OpR X (compareOp op) (rD X.K g)) (ha : OO X W a oa) (hb : OO X W b ob) (hm : behindInMarks op b = false) : DE X W (.Compare a [op] [b] pos) (opd2 oa ob (lift2 g)) := by
  refine PE.weaken (pe_cmpR ho ha.pe hb.pe hm) ?_
  rintro σ H Q ⟨P, F0, F, s, st, h⟩
  have z := opd2_ok st h
  refine tOpd_mono z fun v H1 z1 => tOpd_mono z1 ?_
  rintro u H2 ⟨F2, s2, x, y, l, st2, b1, b2, q⟩
  exact lift2_ok st2 b1 b2 q
theorem d_ix {pos : Pos} {g : D → D → Option Sl} (ho : IxR X (rD X.K g)) (hs : PlainIx b) (ha : OO X W a oa) (hb : OO X W b ob) : DE X W (.Subscript a b pos) (opd2 oa ob (lift2 g)) := by
  refine PE.weaken (pe_ix ho ha.pe hb.pe hs) ?_
  rintro σ H Q ⟨P, F0, F, s, st, h⟩
  have z := opd2_ok st h
  refine tOpd_mono z fun v H1 z1 => tOpd_mono z1 ?_
  rintro u H2 ⟨F2, s2, x, y, l, st2, b1, b2, q⟩
  exact lift2_ok st2 b1 b2 q
/-! ### leaves -/
def cD (x : D) : M Sl := fun s => .ok (.d x) s
theorem d_const {e : Expr} {v : V} {x : D} (h : PE X e (tC v)) (r : ∀ F, Rp X.K F v x) : DE X W e (cD x) := by
  refine PE.weaken h ?_
  rintro σ H Q ⟨P, F0, F, s, st, q⟩
  exact q v F H (.refl F) st (r F)
theorem d_int {i : Int} {j pos} : DE X W (.Constant (.int i) j pos) (cD (.int i)) := d_const pe_int fun _ => .int i
theorem d_bl {i : Bool} {j pos} : DE X W (.Constant (.bool i) j pos) (cD (.bool i)) := d_const pe_bl fun _ => .bl i
theorem d_non {j pos} : DE X W (.Constant .none j pos) (cD .none) := d_const pe_non fun _ => .non
theorem d_str {i : Str} {j pos} : DE X W (.Constant (.str i) j pos) (cD (.str i)) := d_const pe_str fun _ => .str i
/-- a name: what it holds is known to stay from now on -/
def vD (i : Nat) : M Sl := fun s => match s.env[i]? with
  | some (.d x) => .ok (.d x) s
  | some (.o x) => .ok (.d x) { s with env := s.env.set i (.d x) }
  | _ => .bad
theorem getD_some {i : Nat} {u : V} (e : σ.getD i none = some u) : σ[i]? = some (some u) := by
  rw [List.getD_eq_getElem?_getD] at e
  cases hh : σ[i]? with
  | none => rw [hh] at e; cases e
  | some z => rw [hh] at e; exact congrArg some e
theorem getD_of {i : Nat} {u : V} (e : σ[i]? = some (some u)) : σ.getD i none = some u := by
  rw [List.getD_eq_getElem?_getD, e]
  rfl
/-- a slot's own object is made known to stay -/
theorem StRel.freeze (st : StRel K P F0 F σ H s) {i : Nat} {x : D} (e : s.env[i]? = some (.o x)) : ∃ F' v, F.le F' ∧ σ[i]? = some (some v) ∧ StRel K P F0 F' σ H { s with env := s.env.set i (.d x) } ∧ Rp K F' v x := by
  obtain ⟨a, e1, ow⟩ := st.slot i _ e
  obtain ⟨ob, e2, q⟩ := ow.ob
  have lt : i < s.env.length := (List.getElem?_eq_some_iff.mp e).1
  have ne : ∀ j y, j ≠ i → s.env[j]? = some (.o y) → σ.getD j none ≠ some (.ref a) := fun j y hj ej => st.sep i j x y a (Ne.symm hj) e ej e1
  have st1 : StRel K P F0 F σ H { s with env := s.env.set i .u } := by
    refine ⟨st.fH, st.pH, st.new, by simpa using st.len, fun j sl ej => ?_, fun j k y z b hjk ej ek => ?_, st.dr, st.tb, st.ph⟩
    · by_cases h : j = i
      · subst h
        rw [List.getElem?_set_self lt] at ej
        cases ej
        trivial
      · rw [List.getElem?_set_ne (Ne.symm h)] at ej
        exact st.slot j sl ej
    · by_cases h : j = i
      · subst h
        rw [List.getElem?_set_self lt] at ej
        cases ej
      · by_cases h2 : k = i
        · subst h2
          rw [List.getElem?_set_self lt] at ek
          cases ek
        · rw [List.getElem?_set_ne (Ne.symm h)] at ej
          rw [List.getElem?_set_ne (Ne.symm h2)] at ek
          exact st.sep j k y z b hjk ej ek
  have st2 := st1.put (nt := q.nx.nt) ow.fr e2 (nxN ow.pr) ow.dr (fun j y ej => by
    by_cases h : j = i
    · subst h
      rw [List.getElem?_set_self lt] at ej
      cases ej
    · rw [List.getElem?_set_ne (Ne.symm h)] at ej
      exact ne j y h ej)
  refine ⟨F.put a ob, .ref a, Fz.le_put ow.fr, getD_some e1, ?_, q.rp ow.fr⟩
  refine ⟨st2.fH, st2.pH, st2.new, by simpa using st.len, fun j sl ej => ?_, fun j k y z b hjk ej ek => ?_, st2.dr, st2.tb, st2.ph⟩
  · by_cases h : j = i
    · subst h
      rw [List.getElem?_set_self lt] at ej
      cases ej
      exact ⟨_, e1, q.rp ow.fr⟩
    · refine st2.slot j sl ?_
      rw [List.getElem?_set_ne (Ne.symm h)] at ej
      show (s.env.set i .u)[j]? = _
      rw [List.getElem?_set_ne (Ne.symm h)]
      exact ej
  · by_cases h : j = i
    · subst h
      rw [List.getElem?_set_self lt] at ej
      cases ej
    · by_cases h2 : k = i
      · subst h2
        rw [List.getElem?_set_self lt] at ek
        cases ek
      · rw [List.getElem?_set_ne (Ne.symm h)] at ej
        rw [List.getElem?_set_ne (Ne.symm h2)] at ek
        exact st.sep j k y z b hjk ej ek
theorem d_var {e : Expr} {i : Nat} (h : PE X e (tVar i)) : DE X W e (vD i) := by
  refine PE.weaken h ?_
  rintro σ H Q ⟨P, F0, F, s, st, q⟩
  unfold vD at q
  split at q
  · rename_i x e
    obtain ⟨u, e1, e2⟩ := st.slot i _ e
    exact ⟨u, getD_some e1, q u F H (.refl F) st e2⟩
  · rename_i x e
    obtain ⟨F', v, l, e1, st', rp⟩ := st.freeze e
    exact ⟨v, e1, q v F' H l st' rp⟩
  · exact q.elim
/-! ### argument lists: all known to stay -/
def ResA (K : PySem.W.Frag) (W : WX) (P F0 : Hp) (F : Fz) (σ : L2.St) (o : Out (List D)) (Q : List V → Hp → Prop) : Prop := match o with
  | .ok r s => ∀ v F' H, F.le F' → StRel K P F0 F' σ H s → RpAll K F' v r → Q v H
  | .exc c s => ∀ F' H, F.le F' → StRel K P F0 F' σ H s → W (.ref (He.ga K c)) none σ H
  | .bad => False
theorem ResA.le {W : WX} {out : Out (List D)} {Q : List V → Hp → Prop} (l : F.le F') (h : ResA K W P F0 F σ out Q) : ResA K W P F0 F' σ out Q := by
  cases out with
  | ok r s => exact fun v G H' lG st rv => h v G H' (l.trans lG) st rv
  | exc c s => exact fun G H' lG st => h G H' (l.trans lG) st
  | bad => exact h
def tDA (K : PySem.W.Frag) (W : WX) (m : M (List D)) : TA := fun σ H Q => ∃ P F0 F s, StRel K P F0 F σ H s ∧ ResA K W P F0 F σ (m s) Q
abbrev DA (X : Cx) (W : WX) (es : List Expr) (m : M (List D)) : Prop := PA X es (tDA X.K W m)
theorem PA.weaken {e : List Expr} {t t' : TA} (h : PA X e t) (i : ∀ σ H Q, t' σ H Q → t σ H Q) : PA X e t' := ⟨fun pos pins s σ H Q I q => h.run pos pins s σ H Q I (i σ H Q q)⟩
def nilA : M (List D) := fun s => .ok [] s
def consA (m : M Sl) (ms : M (List D)) : M (List D) := fun s => (m s).bind fun x s => (ms s).bind fun xs s => .ok (x.val :: xs) s
theorem tDA_mono {m : M (List D)} {Q Q' : List V → Hp → Prop} (h : tDA K W m σ H Q) (i : ∀ v H, Q v H → Q' v H) : tDA K W m σ H Q' := by
  obtain ⟨P, F0, F, s, st, r⟩ := h
  refine ⟨P, F0, F, s, st, ?_⟩
  cases e : m s with
  | ok r1 s1 =>
    rw [e] at r
    exact fun v F' H' l st' rv => i _ _ (r v F' H' l st' rv)
  | exc c s1 =>
    rw [e] at r
    exact r
  | bad =>
    rw [e] at r
    exact r
theorem tD.bindA {m : M Sl} {k : Sl → S → Out (List D)} {Q : List V → Hp → Prop} (st : StRel K P F0 F σ H s) (h : ResA K W P F0 F σ ((m s).bind k) Q) :
    tD K W m σ H fun v H1 => ∃ F1 s1 r, F.le F1 ∧ StRel K P F0 F1 σ H1 s1 ∧ RV K P F1 σ H1 s1 v r ∧ ResA K W P F0 F1 σ (k r s1) Q := by
  refine ⟨P, F0, F, s, st, ?_⟩
  cases e : m s with
  | ok r s1 =>
    rw [e] at h
    exact fun v F1 H1 l1 st1 rv1 => ⟨F1, s1, r, l1, st1, rv1, ResA.le l1 h⟩
  | exc c s1 =>
    rw [e] at h
    exact h
  | bad =>
    rw [e] at h
    exact h
theorem tDA.bindA {m : M (List D)} {k : List D → S → Out (List D)} {Q : List V → Hp → Prop} (st : StRel K P F0 F σ H s) (h : ResA K W P F0 F σ ((m s).bind k) Q) :
    tDA K W m σ H fun v H1 => ∃ F1 s1 r, F.le F1 ∧ StRel K P F0 F1 σ H1 s1 ∧ RpAll K F1 v r ∧ ResA K W P F0 F1 σ (k r s1) Q := by
  refine ⟨P, F0, F, s, st, ?_⟩
  cases e : m s with
  | ok r s1 =>
    rw [e] at h
    exact fun v F1 H1 l1 st1 rv1 => ⟨F1, s1, r, l1, st1, rv1, ResA.le l1 h⟩
  | exc c s1 =>
    rw [e] at h
    exact h
  | bad =>
    rw [e] at h
    exact h
theorem tDA.bind {m : M (List D)} {k : List D → S → Out Sl} {Q : VK} (st : StRel K P F0 F σ H s) (h : Res K W P F0 F σ ((m s).bind k) Q) :
    tDA K W m σ H fun v H1 => ∃ F1 s1 r, F.le F1 ∧ StRel K P F0 F1 σ H1 s1 ∧ RpAll K F1 v r ∧ Res K W P F0 F1 σ (k r s1) Q := by
  refine ⟨P, F0, F, s, st, ?_⟩
  cases e : m s with
  | ok r s1 =>
    rw [e] at h
    exact fun v F1 H1 l1 st1 rv1 => ⟨F1, s1, r, l1, st1, rv1, Res.le l1 h⟩
  | exc c s1 =>
    rw [e] at h
    exact h
  | bad =>
    rw [e] at h
    exact h
theorem da_nil : DA X W [] nilA := PA.weaken pa_nil fun σ H Q ⟨P, F0, F, s, st, h⟩ => h [] F H (.refl F) st .nil
theorem da_cons {e : Expr} {es : List Expr} {m : M Sl} {ms : M (List D)} (h : DE X W e m) (hs : DA X W es ms) (he : starEach (e :: es) X.env = (false, eval e X.env) :: starEach es X.env := by rfl) : DA X W (e :: es) (consA m ms) := by
  refine PA.weaken (pa_cons h hs he) ?_
  rintro σ H Q ⟨P, F0, F, s, st, q⟩
  refine tD_mono (tD.bindA st q) ?_
  rintro v H1 ⟨F1, s1, r, l1, st1, rv, q1⟩
  obtain ⟨F2, l2, st2, rp⟩ := rv.freeze st1
  refine tDA_mono (tDA.bindA st2 (ResA.le l2 q1)) ?_
  rintro vs H2 ⟨F3, s3, rs, l3, st3, rps, q3⟩
  exact q3 (v :: vs) F3 H2 (.refl _) st3 (.cons (rp.le l3) rps)
/-- (a, b, ..), [a, b, ..] -/
def tupD (m : M (List D)) : M Sl := fun s => (m s).bind fun xs s => if xs.length ≤ sizeLine then .ok (.d (.tuple xs)) s else .bad
def lstD (m : M (List D)) : M Sl := fun s => (m s).bind fun xs s => if xs.length ≤ sizeLine then .ok (.o (.list xs)) s else .bad
theorem d_tup {es : List Expr} {k : Nat} {pos : Pos} {m : M (List D)} (h : DA X W es m) : DE X W (.Tuple es k pos) (tupD m) := by
  refine PE.weaken (pe_tup h) ?_
  rintro σ H Q ⟨P, F0, F, s, st, q⟩
  refine tDA_mono (tDA.bind st q) ?_
  rintro vs H1 ⟨F1, s1, r, l1, st1, rp, q1⟩
  split at q1
  · rename_i hz
    refine ⟨by rw [rp.length]; exact hz, fun p hp => ?_⟩
    obtain ⟨l2, st2⟩ := st1.alloc_d (o := .tup vs) hp
    exact q1 (.ref p) _ _ l2 st2 (.tup (SqT.of Fz.put_same) (rp.le l2))
  · exact q1.elim
theorem d_lst {es : List Expr} {pos : Pos} {m : M (List D)} (h : DA X W es m) : DE X W (.List es pos) (lstD m) := by
  refine PE.weaken (pe_lst h) ?_
  rintro σ H Q ⟨P, F0, F, s, st, q⟩
  refine tDA_mono (tDA.bind st q) ?_
  rintro vs H1 ⟨F1, s1, r, l1, st1, rp, q1⟩
  split at q1
  · rename_i hz
    refine ⟨by rw [rp.length]; exact hz, fun p hp => ?_⟩
    obtain ⟨st2, rv⟩ := st1.alloc_o (o := .lst vs) (x := .list r) hp (.lst rp)
    exact q1 (.ref p) _ _ (.refl _) st2 rv
  · exact q1.elim
end
end Dy
end
section
set_option Elab.async false
set_option linter.all false
set_option maxRecDepth 100000
set_option maxHeartbeats 4000000
namespace Dy
open PySem PySem.Spec PyProof.Rows L2
variable [LawI] [Ph]
section
variable {X : Cx} {W : WX} {a b : Expr} {oa ob : Opd} {P F0 : Hp} {F F' : Fz} {σ : L2.St} {H : Hp} {s : S} {Q : VK} {K : PySem.W.Frag} {v : V} {x : D}
/-! ### tests -/
def ResT (K : PySem.W.Frag) (W : WX) (P F0 : Hp) (F : Fz) (σ : L2.St) (o : Out Bool) (Q : Bool → Hp → Prop) : Prop := match o with
  | .ok b s => ∀ F' H, F.le F' → StRel K P F0 F' σ H s → Q b H
  | .exc c s => ∀ F' H, F.le F' → StRel K P F0 F' σ H s → W (.ref (He.ga K c)) none σ H
  | .bad => False
def tDT (K : PySem.W.Frag) (W : WX) (m : M Bool) : TT := fun σ H Q => ∃ P F0 F s, StRel K P F0 F σ H s ∧ ResT K W P F0 F σ (m s) Q
abbrev DT (X : Cx) (W : WX) (e : Expr) (m : M Bool) : Prop := PT X e (tDT X.K W m)
abbrev DW (X : Cx) (W : WX) (e : Expr) (m : M Bool) : Prop := PW X e (tDT X.K W m)
theorem PT.weaken {e : Expr} {t t' : TT} (h : PT X e t) (i : ∀ σ H Q, t' σ H Q → t σ H Q) : PT X e t' := ⟨fun pins s σ H Q I q => h.run pins s σ H Q I (i σ H Q q)⟩
theorem PW.weaken {e : Expr} {t t' : TT} (h : PW X e t) (i : ∀ σ H Q, t' σ H Q → t σ H Q) : PW X e t' := ⟨fun wh pins s σ H Q I q => h.run wh pins s σ H Q I (i σ H Q q)⟩
theorem ResT.le {out : Out Bool} {Q : Bool → Hp → Prop} (l : F.le F') (h : ResT K W P F0 F σ out Q) : ResT K W P F0 F' σ out Q := by
  cases out with
  | ok r s => exact fun G H' lG st => h G H' (l.trans lG) st
  | exc c s => exact fun G H' lG st => h G H' (l.trans lG) st
  | bad => exact h
theorem tDT_mono {m : M Bool} {Q Q' : Bool → Hp → Prop} (h : tDT K W m σ H Q) (i : ∀ v H, Q v H → Q' v H) : tDT K W m σ H Q' := by
  obtain ⟨P, F0, F, s, st, r⟩ := h
  refine ⟨P, F0, F, s, st, ?_⟩
  cases e : m s with
  | ok r1 s1 =>
    rw [e] at r
    exact fun F' H' l st' => i _ _ (r F' H' l st')
  | exc c s1 =>
    rw [e] at r
    exact r
  | bad =>
    rw [e] at r
    exact r
theorem tD.bindT {m : M Sl} {k : Sl → S → Out Bool} {Q : Bool → Hp → Prop} (st : StRel K P F0 F σ H s) (h : ResT K W P F0 F σ ((m s).bind k) Q) :
    tD K W m σ H fun v H1 => ∃ F1 s1 r, F.le F1 ∧ StRel K P F0 F1 σ H1 s1 ∧ RV K P F1 σ H1 s1 v r ∧ ResT K W P F0 F1 σ (k r s1) Q := by
  refine ⟨P, F0, F, s, st, ?_⟩
  cases e : m s with
  | ok r s1 =>
    rw [e] at h
    exact fun v F1 H1 l1 st1 rv1 => ⟨F1, s1, r, l1, st1, rv1, ResT.le l1 h⟩
  | exc c s1 =>
    rw [e] at h
    exact h
  | bad =>
    rw [e] at h
    exact h
theorem tDT.bindT {m : M Bool} {k : Bool → S → Out Bool} {Q : Bool → Hp → Prop} (st : StRel K P F0 F σ H s) (h : ResT K W P F0 F σ ((m s).bind k) Q) :
    tDT K W m σ H fun b H1 => ∃ F1 s1, F.le F1 ∧ StRel K P F0 F1 σ H1 s1 ∧ ResT K W P F0 F1 σ (k b s1) Q := by
  refine ⟨P, F0, F, s, st, ?_⟩
  cases e : m s with
  | ok r s1 =>
    rw [e] at h
    exact fun F1 H1 l1 st1 => ⟨F1, s1, l1, st1, ResT.le l1 h⟩
  | exc c s1 =>
    rw [e] at h
    exact h
  | bad =>
    rw [e] at h
    exact h
theorem tDT.bind {m : M Bool} {k : Bool → S → Out Sl} {Q : VK} (st : StRel K P F0 F σ H s) (h : Res K W P F0 F σ ((m s).bind k) Q) :
    tDT K W m σ H fun b H1 => ∃ F1 s1, F.le F1 ∧ StRel K P F0 F1 σ H1 s1 ∧ Res K W P F0 F1 σ (k b s1) Q := by
  refine ⟨P, F0, F, s, st, ?_⟩
  cases e : m s with
  | ok r s1 =>
    rw [e] at h
    exact fun F1 H1 l1 st1 => ⟨F1, s1, l1, st1, Res.le l1 h⟩
  | exc c s1 =>
    rw [e] at h
    exact h
  | bad =>
    rw [e] at h
    exact h
def boolT (r : Sl) (s : S) : Out Bool := match r with
  | .d (.bool b) => .ok b s
  | _ => .bad
def ofD (m : M Sl) : M Bool := fun s => (m s).bind boolT
theorem boolT_ok {r : Sl} {Q : Bool → Hp → Prop} (st : StRel K P F0 F σ H s) (rv : RV K P F σ H s v r) (h : ResT K W P F0 F σ (boolT r s) Q) : ∃ c, v = .bl c ∧ Q c H := by
  unfold boolT at h
  split at h
  · rename_i b
    have e := Rp.bl_inv rv
    exact ⟨b, e, h F H (.refl F) st⟩
  · exact h.elim
theorem dt_val {e : Expr} {m : M Sl} (h : DE X W e m) (he : ∀ whole, isTrue e X.env whole = (do let v ← whole; standAt e.pos; holding [v] (truthy v)) := by intro _; rfl) : DT X W e (ofD m) := by
  refine PT.weaken (pt_val h he) ?_
  rintro σ H Q ⟨P, F0, F, s, st, q⟩
  refine tD_mono (tD.bindT st q) ?_
  rintro v H1 ⟨F1, s1, r, l1, st1, rv, q1⟩
  exact boolT_ok st1 rv q1
def opdT (a b : Opd) (f : D → D → Option Sl) : M Bool := ofD (opd2 a b (lift2 f))
theorem dt_cmp {op : CmpOp} {pos : Pos} {g : D → D → Option Sl} (ho : OpR X (compareOp op) (rD X.K g)) (ha : OO X W a oa) (hb : OO X W b ob) (hm : behindInMarks op b = false) : DT X W (.Compare a [op] [b] pos) (opdT oa ob g) := by
  refine PT.weaken (pt_cmpR ho ha.pe hb.pe hm) ?_
  rintro σ H Q ⟨P, F0, F, s, st, h⟩
  show tOp _ _ _ σ H fun x H' => ∃ k, x = .bl k ∧ Q k H'
  have z := d_cmp.toOp st h
  refine tOpd_mono z fun v H1 z1 => tOpd_mono z1 ?_
  rintro u H2 z2
  exact z2
where
  d_cmp.toOp {K : PySem.W.Frag} {W : WX} {oa ob : Opd} {g : D → D → Option Sl} {σ : L2.St} {H : Hp} {P F0 : Hp} {F : Fz} {s : S} {Q : Bool → Hp → Prop} (st : StRel K P F0 F σ H s) (h : ResT K W P F0 F σ (opdT oa ob g s) Q) :
      tOpd K W oa σ H fun v H1 => tOpd K W ob σ H1 fun u H2 => rD K g v u H2 fun x H' => ∃ k, x = .bl k ∧ Q k H' := by
    have h2 : Res K W P F0 F σ (opd2 oa ob (lift2 g) s) fun x H' => ∃ k, x = .bl k ∧ Q k H' := by
      unfold opdT ofD at h
      cases e : opd2 oa ob (lift2 g) s with
      | ok r s1 =>
        rw [e] at h
        exact fun v F1 H1 l1 st1 rv1 => boolT_ok st1 rv1 (ResT.le l1 h)
      | exc c s1 =>
        rw [e] at h
        exact h
      | bad =>
        rw [e] at h
        exact h
    have z := opd2_ok st h2
    refine tOpd_mono z fun v H1 z1 => tOpd_mono z1 ?_
    rintro u H2 ⟨F2, s2, x, y, l, st2, b1, b2, q⟩
    exact lift2_ok st2 b1 b2 q
def notT (m : M Bool) : M Bool := fun s => (m s).bind fun b s => .ok (!b) s
def andT (m n : M Bool) : M Bool := fun s => (m s).bind fun b s => if b = true then n s else .ok false s
def orT (m n : M Bool) : M Bool := fun s => (m s).bind fun b s => if b = true then .ok true s else n s
theorem dt_not {pos : Pos} {m : M Bool} (h : DT X W a m) : DT X W (.UnaryOp .Not a pos) (notT m) := by
  refine PT.weaken (pt_not h) ?_
  rintro σ H Q ⟨P, F0, F, s, st, q⟩
  refine tDT_mono (tDT.bindT st q) ?_
  rintro b H1 ⟨F1, s1, l1, st1, q1⟩
  exact q1 F1 H1 (.refl _) st1
theorem dw_and1 {pos : Pos} {m : M Bool} (h : DT X W a m) : DW X W (.BoolOp .And [a] pos) m := pw_and1 h
theorem dw_or1 {pos : Pos} {m : M Bool} (h : DT X W a m) : DW X W (.BoolOp .Or [a] pos) m := pw_or1 h
theorem dw_and {pos : Pos} {rest : List Expr} {m n : M Bool} (h : DT X W a m) (hb : DW X W (.BoolOp .And (b :: rest) pos) n) : DW X W (.BoolOp .And (a :: b :: rest) pos) (andT m n) := by
  refine PW.weaken (pw_and h hb) ?_
  rintro σ H Q ⟨P, F0, F, s, st, q⟩
  refine tDT_mono (tDT.bindT st q) ?_
  rintro b H1 ⟨F1, s1, l1, st1, q1⟩
  cases b with
  | true => exact ⟨P, F0, F1, s1, st1, q1⟩
  | false => exact q1 F1 H1 (.refl _) st1
theorem dw_or {pos : Pos} {rest : List Expr} {m n : M Bool} (h : DT X W a m) (hb : DW X W (.BoolOp .Or (b :: rest) pos) n) : DW X W (.BoolOp .Or (a :: b :: rest) pos) (orT m n) := by
  refine PW.weaken (pw_or h hb) ?_
  rintro σ H Q ⟨P, F0, F, s, st, q⟩
  refine tDT_mono (tDT.bindT st q) ?_
  rintro b H1 ⟨F1, s1, l1, st1, q1⟩
  cases b with
  | false => exact ⟨P, F0, F1, s1, st1, q1⟩
  | true => exact q1 F1 H1 (.refl _) st1
theorem DW.pt {e : Expr} {m : M Bool} (h : DW X W e m) : DT X W e m := L2.PW.pt h
/-! ### and, or, not of truth values -/
def boolD (r : Sl) (s : S) (k : Bool → Out Sl) : Out Sl := match r with
  | .d (.bool b) => k b
  | _ => .bad
theorem boolD_ok {r : Sl} {k : Bool → Out Sl} (st : StRel K P F0 F σ H s) (rv : RV K P F σ H s v r) (h : Res K W P F0 F σ (boolD r s k) Q) : ∃ c, v = .bl c ∧ Res K W P F0 F σ (k c) Q := by
  unfold boolD at h
  split at h
  · rename_i b
    exact ⟨b, Rp.bl_inv rv, h⟩
  · exact h.elim
def andD (m n : M Sl) : M Sl := fun s => (m s).bind fun r s => boolD r s fun b => if b = true then n s else .ok (.d (.bool false)) s
def orD (m n : M Sl) : M Sl := fun s => (m s).bind fun r s => boolD r s fun b => if b = true then .ok (.d (.bool true)) s else n s
def notD (m : M Sl) : M Sl := fun s => (m s).bind fun r s => boolD r s fun b => .ok (.d (.bool (!b))) s
theorem d_and {pos : Pos} {rest : List Expr} {m n : M Sl} (h : DE X W a m) (hb : DE X W (.BoolOp .And (b :: rest) pos) n) : DE X W (.BoolOp .And (a :: b :: rest) pos) (andD m n) := by
  refine PE.weaken (pe_and h hb) ?_
  rintro σ H Q ⟨P, F0, F, s, st, q⟩
  refine tD_mono (tD.bind st q) ?_
  rintro v H1 ⟨F1, s1, r, l1, st1, rv, q1⟩
  obtain ⟨c, rfl, q2⟩ := boolD_ok st1 rv q1
  refine ⟨c, rfl, ?_⟩
  cases c with
  | true => exact ⟨P, F0, F1, s1, st1, q2⟩
  | false => exact q2 _ F1 H1 (.refl _) st1 (.bl false)
theorem d_or {pos : Pos} {rest : List Expr} {m n : M Sl} (h : DE X W a m) (hb : DE X W (.BoolOp .Or (b :: rest) pos) n) : DE X W (.BoolOp .Or (a :: b :: rest) pos) (orD m n) := by
  refine PE.weaken (pe_or h hb) ?_
  rintro σ H Q ⟨P, F0, F, s, st, q⟩
  refine tD_mono (tD.bind st q) ?_
  rintro v H1 ⟨F1, s1, r, l1, st1, rv, q1⟩
  obtain ⟨c, rfl, q2⟩ := boolD_ok st1 rv q1
  refine ⟨c, rfl, ?_⟩
  cases c with
  | false => exact ⟨P, F0, F1, s1, st1, q2⟩
  | true => exact q2 _ F1 H1 (.refl _) st1 (.bl true)
theorem d_one {op : BoolOp} {pos : Pos} {m : M Sl} (h : DE X W a m) : DE X W (.BoolOp op [a] pos) m := pe_one h
theorem d_not {pos : Pos} {m : M Sl} (h : DE X W a m) : DE X W (.UnaryOp .Not a pos) (notD m) := by
  refine PE.weaken (pe_not h) ?_
  rintro σ H Q ⟨P, F0, F, s, st, q⟩
  refine tD_mono (tD.bind st q) ?_
  rintro v H1 ⟨F1, s1, r, l1, st1, rv, q1⟩
  obtain ⟨c, rfl, q2⟩ := boolD_ok st1 rv q1
  exact ⟨c, rfl, q2 _ F1 H1 (.refl _) st1 (.bl _)⟩
def ifD (t : M Bool) (m n : M Sl) : M Sl := fun s => (t s).bind fun b s => if b = true then m s else n s
theorem d_if {c : Expr} {pos : Pos} {t : M Bool} {m n : M Sl} (hc : DT X W c t) (ha : DE X W a m) (hb : DE X W b n) : DE X W (.IfExp c a b pos) (ifD t m n) := by
  refine PE.weaken (pe_ifExp hc ha hb) ?_
  rintro σ H Q ⟨P, F0, F, s, st, q⟩
  refine tDT_mono (tDT.bind st q) ?_
  rintro b H1 ⟨F1, s1, l1, st1, q1⟩
  cases b with
  | true => exact ⟨P, F0, F1, s1, st1, q1⟩
  | false => exact ⟨P, F0, F1, s1, st1, q1⟩
/-! ### statements -/
end
inductive Fl where
  | nx | rt (r : Sl) | bk | ct
section
variable {X : Cx} {W : WX} {a b : Expr} {oa ob : Opd} {P F0 : Hp} {F F' : Fz} {σ : L2.St} {H : Hp} {s : S} {Q : VK} {K : PySem.W.Frag} {v : V} {x : D} {T : Ends}
def ResS (K : PySem.W.Frag) (W : WX) (P F0 : Hp) (F : Fz) (o : Out Fl) (T : Ends) : Prop := match o with
  | .ok .nx s => ∀ σ F' H, F.le F' → StRel K P F0 F' σ H s → T.nx σ H
  | .ok (.rt r) s => ∀ v σ F' H, F.le F' → StRel K P F0 F' σ H s → RV K P F' σ H s v r → T.rt v H
  | .ok .bk s => ∀ σ F' H, F.le F' → StRel K P F0 F' σ H s → T.bk σ H
  | .ok .ct s => ∀ σ F' H, F.le F' → StRel K P F0 F' σ H s → T.ct σ H
  | .exc c s => ∀ σ F' H, F.le F' → StRel K P F0 F' σ H s → W (.ref (He.ga K c)) none σ H
  | .bad => False
def tDS (K : PySem.W.Frag) (W : WX) (m : M Fl) : TS := fun T σ H => ∃ P F0 F s, StRel K P F0 F σ H s ∧ ResS K W P F0 F (m s) T
abbrev DS (X : Cx) (W : WX) (st : Stmt) (m : M Fl) : Prop := PS X st (tDS X.K W m)
abbrev DSs (X : Cx) (W : WX) (st : List Stmt) (m : M Fl) : Prop := PSs X st (tDS X.K W m)
theorem PS.weaken {e : Stmt} {t t' : TS} (h : PS X e t) (i : ∀ T σ H, t' T σ H → t T σ H) : PS X e t' := ⟨fun pins s σ H D I q => h.run pins s σ H D I (i D σ H q)⟩
theorem PSs.weaken {e : List Stmt} {t t' : TS} (h : PSs X e t) (i : ∀ T σ H, t' T σ H → t T σ H) : PSs X e t' := ⟨fun pins s σ H D I q => h.run pins s σ H D I (i D σ H q)⟩
theorem ResS.le {out : Out Fl} (l : F.le F') (h : ResS K W P F0 F out T) : ResS K W P F0 F' out T := by
  cases out with
  | ok r s =>
    cases r with
    | nx => exact fun σ G H' lG st => h σ G H' (l.trans lG) st
    | rt r => exact fun v σ G H' lG st => h v σ G H' (l.trans lG) st
    | bk => exact fun σ G H' lG st => h σ G H' (l.trans lG) st
    | ct => exact fun σ G H' lG st => h σ G H' (l.trans lG) st
  | exc c s => exact fun σ G H' lG st => h σ G H' (l.trans lG) st
  | bad => exact h
def seqS (m n : M Fl) : M Fl := fun s => match m s with
  | .ok .nx s => n s
  | o => o
def nxS : M Fl := fun s => .ok .nx s
theorem ds_nil : DSs X W [] nxS := PSs.weaken pss_nil fun T σ H ⟨P, F0, F, s, st, h⟩ => h σ F H (.refl F) st
theorem ds_one {st : Stmt} {m : M Fl} (h : DS X W st m) : DSs X W [st] m := pss_one h
theorem tDS.bind {m n : M Fl} (st : StRel K P F0 F σ H s) (h : ResS K W P F0 F (seqS m n s) T) : tDS K W m { T with nx := tDS K W n T } σ H := by
  refine ⟨P, F0, F, s, st, ?_⟩
  unfold seqS at h
  cases e : m s with
  | ok r s1 =>
    rw [e] at h
    cases r with
    | nx => exact fun σ1 F1 H1 l1 st1 => ⟨P, F0, F1, s1, st1, ResS.le l1 h⟩
    | rt r => exact h
    | bk => exact h
    | ct => exact h
  | exc c s1 =>
    rw [e] at h
    exact h
  | bad =>
    rw [e] at h
    exact h
theorem ds_cons {st : Stmt} {rest : List Stmt} {m n : M Fl} (h : DS X W st m) (hs : DSs X W rest n) : DSs X W (st :: rest) (seqS m n) := by
  refine PSs.weaken (pss_cons h hs) ?_
  rintro T σ H ⟨P, F0, F, s, st, q⟩
  exact tDS.bind st q
/-- what is not met -/
def neverS : M Fl := fun _ => .bad
theorem ds_never {st : Stmt} : DS X W st neverS := PS.weaken (ps_never) fun _ _ _ ⟨_, _, _, _, _, h⟩ => h
theorem dss_never {st : List Stmt} : DSs X W st neverS := PSs.weaken (pss_never) fun _ _ _ ⟨_, _, _, _, _, h⟩ => h
theorem ds_pass {pos : Pos} : DS X W (.Pass pos) nxS := PS.weaken ps_pass fun T σ H ⟨P, F0, F, s, st, h⟩ => h σ F H (.refl F) st
def bkS : M Fl := fun s => .ok .bk s
def ctS : M Fl := fun s => .ok .ct s
theorem ds_break {pos : Pos} : DS X W (.Break pos) bkS := PS.weaken ps_break fun T σ H ⟨P, F0, F, s, st, h⟩ => h σ F H (.refl F) st
theorem ds_cont {pos : Pos} : DS X W (.Continue pos) ctS := PS.weaken ps_continue fun T σ H ⟨P, F0, F, s, st, h⟩ => h σ F H (.refl F) st
theorem tD.bindS {m : M Sl} {k : Sl → S → Out Fl} (st : StRel K P F0 F σ H s) (h : ResS K W P F0 F ((m s).bind k) T) :
    tD K W m σ H fun v H1 => ∃ F1 s1 r, F.le F1 ∧ StRel K P F0 F1 σ H1 s1 ∧ RV K P F1 σ H1 s1 v r ∧ ResS K W P F0 F1 (k r s1) T := by
  refine ⟨P, F0, F, s, st, ?_⟩
  cases e : m s with
  | ok r s1 =>
    rw [e] at h
    exact fun v F1 H1 l1 st1 rv1 => ⟨F1, s1, r, l1, st1, rv1, ResS.le l1 h⟩
  | exc c s1 =>
    rw [e] at h
    exact h σ
  | bad =>
    rw [e] at h
    exact h
theorem tDT.bindS {m : M Bool} {k : Bool → S → Out Fl} (st : StRel K P F0 F σ H s) (h : ResS K W P F0 F ((m s).bind k) T) :
    tDT K W m σ H fun b H1 => ∃ F1 s1, F.le F1 ∧ StRel K P F0 F1 σ H1 s1 ∧ ResS K W P F0 F1 (k b s1) T := by
  refine ⟨P, F0, F, s, st, ?_⟩
  cases e : m s with
  | ok r s1 =>
    rw [e] at h
    exact fun F1 H1 l1 st1 => ⟨F1, s1, l1, st1, ResS.le l1 h⟩
  | exc c s1 =>
    rw [e] at h
    exact h σ
  | bad =>
    rw [e] at h
    exact h
theorem tDA.bindS {m : M (List D)} {k : List D → S → Out Fl} (st : StRel K P F0 F σ H s) (h : ResS K W P F0 F ((m s).bind k) T) :
    tDA K W m σ H fun v H1 => ∃ F1 s1 r, F.le F1 ∧ StRel K P F0 F1 σ H1 s1 ∧ RpAll K F1 v r ∧ ResS K W P F0 F1 (k r s1) T := by
  refine ⟨P, F0, F, s, st, ?_⟩
  cases e : m s with
  | ok r s1 =>
    rw [e] at h
    exact fun v F1 H1 l1 st1 rv1 => ⟨F1, s1, r, l1, st1, rv1, ResS.le l1 h⟩
  | exc c s1 =>
    rw [e] at h
    exact h σ
  | bad =>
    rw [e] at h
    exact h
def exprS (m : M Sl) : M Fl := fun s => (m s).bind fun _ s => .ok .nx s
theorem ds_expr {e : Expr} {pos : Pos} {m : M Sl} (h : DE X W e m) (hs : swapsWith e none pos.line X.env = pure false := by rfl) : DS X W (.Expr e pos) (exprS m) := by
  refine PS.weaken (ps_expr h hs) ?_
  rintro T σ H ⟨P, F0, F, s, st, q⟩
  refine tD_mono (tD.bindS st q) ?_
  rintro v H1 ⟨F1, s1, r, l1, st1, rv, q1⟩
  exact q1 σ F1 H1 (.refl _) st1
def retS (m : M Sl) : M Fl := fun s => (m s).bind fun r s => .ok (.rt r) s
theorem ds_ret {e : Expr} {pos : Pos} {m : M Sl} (h : DE X W e m) : DS X W (.Return (some e) pos) (retS m) := by
  refine PS.weaken (ps_ret h) ?_
  rintro T σ H ⟨P, F0, F, s, st, q⟩
  refine tD_mono (tD.bindS st q) ?_
  rintro v H1 ⟨F1, s1, r, l1, st1, rv, q1⟩
  exact q1 v σ F1 H1 (.refl _) st1 rv
def retN : M Fl := fun s => .ok (.rt (.d .none)) s
theorem ds_retN {pos : Pos} : DS X W (.Return none pos) retN := PS.weaken ps_retN fun T σ H ⟨P, F0, F, s, st, h⟩ => h .non σ F H (.refl F) st .non
def ifS (t : M Bool) (m n : M Fl) : M Fl := fun s => (t s).bind fun b s => if b = true then m s else n s
theorem ds_if {c : Expr} {pos : Pos} {sa sb : List Stmt} {t : M Bool} {m n : M Fl} (hc : DT X W c t) (ha : DSs X W sa m) (hb : DSs X W sb n) : DS X W (.If c sa sb pos) (ifS t m n) := by
  refine PS.weaken (ps_if hc ha hb) ?_
  rintro T σ H ⟨P, F0, F, s, st, q⟩
  refine tDT_mono (tDT.bindS st q) ?_
  rintro b H1 ⟨F1, s1, l1, st1, q1⟩
  cases b with
  | true => exact ⟨P, F0, F1, s1, st1, q1⟩
  | false => exact ⟨P, F0, F1, s1, st1, q1⟩
/-! ### stores -/
theorem StRel.set (st : StRel K P F0 F σ H s) {i : Nat} {r : Sl} (hi : i < s.env.length) (rv : RV K P F σ H s v r) : StRel K P F0 F (σ.set i (some v)) H { s with env := s.env.set i r } := by
  have hl := st.len
  have own : ∀ j, j ≠ i → (σ.set i (some v)).getD j none = σ.getD j none := fun j h => by
    rw [List.getD_eq_getElem?_getD, List.getD_eq_getElem?_getD, List.getElem?_set_ne (Ne.symm h)]
  have same : (σ.set i (some v)).getD i none = some v := by
    rw [List.getD_eq_getElem?_getD, List.getElem?_set_self (by omega)]
    rfl
  refine ⟨st.fH, st.pH, st.new, by simpa using hl, fun j sl ej => ?_, fun j k y z b hjk ej ek e1 => ?_, st.dr, st.tb, st.ph⟩
  · by_cases h : j = i
    · subst h
      rw [List.getElem?_set_self hi] at ej
      cases ej
      rw [same]
      cases r with
      | u => trivial
      | d x => exact ⟨v, rfl, rv⟩
      | o x =>
        obtain ⟨a, rfl, ow, _⟩ := rv
        exact ⟨a, rfl, ow⟩
    · rw [List.getElem?_set_ne (Ne.symm h)] at ej
      rw [own j h]
      exact st.slot j sl ej
  · by_cases h : j = i
    · subst h
      rw [List.getElem?_set_self hi] at ej
      cases ej
      rw [List.getElem?_set_ne hjk] at ek
      rw [same] at e1
      obtain ⟨a, e2, ow, ne⟩ := rv
      rw [e2] at e1
      cases e1
      rw [own k (Ne.symm hjk)]
      exact ne k z ek
    · rw [List.getElem?_set_ne (Ne.symm h)] at ej
      rw [own j h] at e1
      by_cases h2 : k = i
      · subst h2
        rw [List.getElem?_set_self hi] at ek
        cases ek
        rw [same]
        obtain ⟨a, e2, ow, ne⟩ := rv
        rw [e2]
        intro e3
        cases e3
        exact ne j y ej e1
      · rw [List.getElem?_set_ne (Ne.symm h2)] at ek
        rw [own k h2]
        exact st.sep j k y z b hjk ej ek e1
def setE (i : Nat) (r : Sl) (s : S) : Out Fl := if i < s.env.length then .ok .nx { s with env := s.env.set i r } else .bad
def setS (i : Nat) (m : M Sl) : M Fl := fun s => (m s).bind fun r s => setE i r s
theorem tAsg_set {i : Nat} {m : M Sl} (st : StRel K P F0 F σ H s) (q : ResS K W P F0 F (setS i m s) T) : tAsg (tD K W m) (gName i) T σ H := by
  refine tD_mono (tD.bindS st q) ?_
  rintro v H1 ⟨F1, s1, r, l1, st1, rv, q1⟩
  unfold setE at q1
  split at q1
  · rename_i hi
    exact q1 _ F1 H1 (.refl _) (st1.set hi rv)
  · exact q1.elim
theorem ds_set {i : Nat} {x : Str} {e : Expr} {m : M Sl} {pos pos' : Pos} (hN : X.N.Nodup) (hi : X.N[i]? = some x) (hx : Loc X.env.scope x) (he : DE X W e m) (hs : swapsWith e (some (.Name x pos')) pos.line X.env = pure false := by rfl)
    (hf : X.fn x = true ∨ X.env.scope.names.lookup x = some .local := by first | exact .inl rfl | exact .inr rfl | assumption) : DS X W (.Assign [.Name x pos'] e pos) (setS i m) := by
  refine PS.weaken (ps_set hN hi hx he hs hf) ?_
  rintro T σ H ⟨P, F0, F, s, st, q⟩
  exact tAsg_set st q
end
end Dy
end
section
set_option Elab.async false
set_option linter.all false
set_option maxRecDepth 100000
set_option maxHeartbeats 4000000
namespace Dy
open PySem PySem.Spec PyProof.Rows L2
variable [LawI] [Ph]
section
variable {X : Cx} {W : WX} {a b : Expr} {oa ob : Opd} {P F0 : Hp} {F F' : Fz} {σ : L2.St} {H H' : Hp} {s : S} {Q : VK} {K : PySem.W.Frag} {v : V} {x : D} {T : Ends}
/-! ### what is one's own, kept aside -/
theorem Own.aside (st : StRel K P F0 F σ H s) {a : Addr} {o : HO} (ow : Own K P F H a x) (e : H a = some o) (ne : ∀ i y, s.env[i]? = some (.o y) → σ.getD i none ≠ some (.ref a)) : StRel K (upd P a o) F.hp F σ H s where
  tb := ⟨st.tb.ok, fun b ps z => by
    by_cases hb : b = a
    · subst hb
      rw [upd_same] at z
      obtain ⟨o', e', r⟩ := ow.ob
      rw [e] at e'
      cases e'
      exact r.nx.nt ps (Option.some.inj z)
    · rw [upd_ne hb] at z
      exact st.tb.nP b ps z, st.tb.nF⟩
  ph := st.ph
  fH := st.fH
  pH := fun b u q => by
    by_cases hb : b = a
    · subst hb
      rw [upd_same] at q
      cases q
      exact e
    · rw [upd_ne hb] at q
      exact st.pH b u q
  new := fun b q => .inl q
  len := st.len
  slot := fun i sl q => by
    have z := st.slot i sl q
    cases sl with
    | u => trivial
    | d x => exact z
    | o y =>
      obtain ⟨b, e1, w⟩ := z
      have hb : b ≠ a := fun z => ne i y q (by rw [e1, z])
      exact ⟨b, e1, w.fr, by rw [upd_ne hb]; exact w.pr, w.dr, w.ob⟩
  sep := st.sep
  dr := by
    have q := st.dr
    cases hst : s.dr with
    | none =>
      rw [hst] at q
      exact q
    | some r =>
      rw [hst] at q
      obtain ⟨d, w, c, q1, q2, q3, q4, q5, q6, q7, q8, q9⟩ := q
      obtain ⟨nd, nw⟩ := ow.dr d w q1
      exact ⟨d, w, c, q1, q2, q3, q4, q5, q6, q7, by rw [upd_ne nd.symm]; exact q8, by rw [upd_ne nw.symm]; exact q9⟩
theorem StRel.back {a : Addr} {o : HO} {s' : S} {σ' : L2.St} (st : StRel K P F0 F σ H s) (ow : Own K P F H a x) (e : H a = some o) (l : F.le F') (st' : StRel K (upd P a o) F.hp F' σ' H' s') :
    StRel K P F0 F' σ' H' s' ∧ Own K P F' H' a x ∧ H' a = some o ∧ ∀ i y, s'.env[i]? = some (.o y) → σ'.getD i none ≠ some (.ref a) := by
  have pn : ∀ b, upd P a o b = none → P b = none ∧ b ≠ a := fun b q => by
    have hb : b ≠ a := fun z => by
      subst z
      rw [upd_same] at q
      cases q
    rw [upd_ne hb] at q
    exact ⟨q, hb⟩
  have ef : F'.hp a = none := by
    cases q : F'.hp a with
    | none => rfl
    | some u =>
      rcases st'.new a (by rw [q]; simp) with z | z
      · exact absurd ow.fr z
      · obtain ⟨o1, e1, q1⟩ := ow.ob
        rw [e] at e1
        cases e1
        exact absurd q1.nx (z _ upd_same)
  have eH : H' a = some o := st'.pH a o upd_same
  have nd : ∀ d w, F'.dr = some (d, w) → a ≠ d ∧ a ≠ w := fun d w q => by
    have z := st'.dr
    cases hst : s'.dr with
    | none =>
      rw [hst] at z
      have z1 : F'.dr = none := z
      rw [q] at z1
      cases z1
    | some r =>
      rw [hst] at z
      obtain ⟨d', w', c, q1, _, _, _, _, _, _, q8, q9⟩ := z
      rw [q] at q1
      cases q1
      exact ⟨(pn _ q8).2.symm, (pn _ q9).2.symm⟩
  refine ⟨⟨st'.fH, fun b u q => ?_, fun b q => ?_, st'.len, fun i sl q => ?_, st'.sep, ?_, ⟨st'.tb.ok, st.tb.nP, st'.tb.nF⟩, st'.ph⟩, ⟨ef, ow.pr, nd, ?_⟩, eH, fun i y q z => ?_⟩
  · have hb : b ≠ a := fun z => by
      subst z
      rw [ow.pr] at q
      cases q
    exact st'.pH b u (by rw [upd_ne hb]; exact q)
  · rcases st'.new b q with z | z
    · exact st.new b z
    · refine .inr fun o1 e1 => z o1 ?_
      by_cases hb : b = a
      · subst hb
        rw [ow.pr] at e1
        cases e1
      · rw [upd_ne hb]
        exact e1
  · have z := st'.slot i sl q
    cases sl with
    | u => trivial
    | d x => exact z
    | o y =>
      obtain ⟨b, e1, w⟩ := z
      exact ⟨b, e1, w.fr, (pn b w.pr).1, w.dr, w.ob⟩
  · have z := st'.dr
    cases hst : s'.dr with
    | none =>
      rw [hst] at z
      exact z
    | some r =>
      rw [hst] at z
      obtain ⟨d, w, c, q1, q2, q3, q4, q5, q6, q7, q8, q9⟩ := z
      exact ⟨d, w, c, q1, q2, q3, q4, q5, q6, q7, (pn _ q8).1, (pn _ q9).1⟩
  · obtain ⟨ob, e1, e2⟩ := ow.ob
    rw [e] at e1
    cases e1
    exact ⟨o, eH, e2.le l⟩
  · obtain ⟨b, e1, w⟩ := st'.slot i _ q
    rw [z] at e1
    cases e1
    exact (pn a w.pr).2 rfl
/-- a result kept while another is made -/
theorem tD.bind2 {m : M Sl} {r : Sl} {k : Sl → S → Out Fl} (st : StRel K P F0 F σ H s) (rv : RV K P F σ H s v r) (h : ResS K W P F0 F ((m s).bind k) T) :
    tD K W m σ H fun u H1 => ∃ F1 s1 r1, F.le F1 ∧ StRel K P F0 F1 σ H1 s1 ∧ RV K P F1 σ H1 s1 v r ∧ RV K P F1 σ H1 s1 u r1 ∧ (∀ x y a, r = .o x → r1 = .o y → v = .ref a → u ≠ .ref a) ∧ ResS K W P F0 F1 (k r1 s1) T := by
  cases r with
  | u => exact rv.elim
  | d x =>
    refine tD_mono (tD.bindS st h) ?_
    rintro u H1 ⟨F1, s1, r1, l, st1, rv1, q⟩
    exact ⟨F1, s1, r1, l, st1, Rp.le l rv, rv1, (fun _ _ _ z => by cases z), q⟩
  | o x =>
    obtain ⟨a, rfl, ow, ne⟩ := rv
    obtain ⟨o, e, ob⟩ := id ow.ob
    have stA := ow.aside st e ne
    have hA : ResS K (fun _ _ _ _ => True) (upd P a o) F.hp F (match m s with | .ok _ s => .ok .nx s | .exc _ _ => .ok .nx s | .bad => .ok .nx s) { nx := fun _ _ => True, rt := fun _ _ => True } := by
      cases m s <;> exact fun _ _ _ _ _ => trivial
    refine ⟨upd P a o, F.hp, F, s, stA, ?_⟩
    cases em : m s with
    | ok r1 s1 =>
      rw [em] at h
      intro u F1 H1 l st1 rv1
      obtain ⟨st2, ow2, e2, ne2⟩ := StRel.back st ow e l st1
      refine ⟨F1, s1, r1, l, st2, ⟨a, rfl, ow2, ne2⟩, ?_, ?_, ResS.le l h⟩
      · cases r1 with
        | u => exact rv1.elim
        | d y => exact rv1
        | o y =>
          obtain ⟨b, rfl, w, n⟩ := rv1
          have hb : b ≠ a := fun z => by
            have q := w.pr
            rw [z, upd_same] at q
            cases q
          have q := w.pr
          rw [upd_ne hb] at q
          exact ⟨b, rfl, ⟨w.fr, q, w.dr, w.ob⟩, n⟩
      · intro x' y' a' _ er1 ea eu
        cases ea
        subst er1
        obtain ⟨b, rfl, w, n⟩ := rv1
        cases eu
        have q := w.pr
        rw [upd_same] at q
        cases q
    | exc c s1 =>
      rw [em] at h
      intro F1 H1 l st1
      exact h σ F1 H1 l (StRel.back st ow e l st1).1
    | bad =>
      rw [em] at h
      exact h
/-- a, b = x, y -/
def parS (i j : Nat) (ma mb : M Sl) : M Fl := fun s => (ma s).bind fun x s => (mb s).bind fun y s => if i < s.env.length ∧ j < s.env.length ∧ i ≠ j then .ok .nx { s with env := (s.env.set i x).set j y } else .bad
theorem StRel.set2 (st : StRel K P F0 F σ H s) {i j : Nat} {r r1 : Sl} {u : V} (hi : i < s.env.length) (hj : j < s.env.length) (hij : i ≠ j) (rv : RV K P F σ H s v r) (rv1 : RV K P F σ H s u r1)
    (ne : ∀ x y a, r = .o x → r1 = .o y → v = .ref a → u ≠ .ref a) : StRel K P F0 F ((σ.set i (some v)).set j (some u)) H { s with env := (s.env.set i r).set j r1 } := by
  have st1 := st.set hi rv
  refine st1.set (r := r1) (v := u) (by simpa using hj) ?_
  cases r1 with
  | u => exact rv1.elim
  | d y => exact rv1
  | o y =>
    obtain ⟨b, rfl, w, n⟩ := rv1
    refine ⟨b, rfl, w, fun k z ek => ?_⟩
    have ek' : (s.env.set i r)[k]? = some (.o z) := ek
    by_cases h : k = i
    · subst h
      rw [List.getElem?_set_self hi] at ek'
      cases ek'
      obtain ⟨c, rfl, w2, n2⟩ := rv
      have hl := st.len
      rw [List.getD_eq_getElem?_getD, List.getElem?_set_self (by omega)]
      intro q
      have q1 : V.ref c = V.ref b := Option.some.inj q
      exact ne z y c rfl rfl rfl q1.symm
    · rw [List.getElem?_set_ne (Ne.symm h)] at ek'
      rw [List.getD_eq_getElem?_getD, List.getElem?_set_ne (Ne.symm h), ← List.getD_eq_getElem?_getD]
      exact n k z ek'
theorem ds_par {i j : Nat} {x y : Str} {px py pt pos : Pos} {kt k2 pt2} {ma mb : M Sl} (hc : X.calm = true) (hN : X.N.Nodup) (hi : X.N[i]? = some x) (hj : X.N[j]? = some y) (hij : i ≠ j)
    (hx : X.env.scope.names.lookup x = some .local) (hy : X.env.scope.names.lookup y = some .local) (ha : DE X W a ma) (hb : DE X W b mb)
    (hw : swappedStores [.Tuple [.Name x px, .Name y py] kt pt] (.Tuple [a, b] k2 pt2) X.env = pure (some [x, y]))
    (hs : swapsWithSole [.Tuple [.Name x px, .Name y py] kt pt] (.Tuple [a, b] k2 pt2) pos.line X.env = pure false := by rfl)
    (he1 : starEach [a, b] X.env = (false, eval a X.env) :: starEach [b] X.env := by rfl) (he2 : starEach [b] X.env = (false, eval b X.env) :: starEach [] X.env := by rfl) :
    DS X W (.Assign [.Tuple [.Name x px, .Name y py] kt pt] (.Tuple [a, b] k2 pt2) pos) (parS i j ma mb) := by
  refine PS.weaken (ps_par hc hN hi hj hij hx hy (pa_cons ha (pa_cons hb pa_nil he2) he1) hw hs) ?_
  rintro T σ H ⟨P, F0, F, s, st, q⟩
  refine tD_mono (tD.bindS st q) ?_
  rintro v H1 ⟨F1, s1, r, l1, st1, rv, q1⟩
  refine tD_mono (tD.bind2 st1 rv q1) ?_
  rintro u H2 ⟨F2, s2, r2, l2, st2, rv2, rv3, ne, q2⟩
  refine ⟨v, u, rfl, ?_⟩
  split at q2
  · rename_i hh
    exact q2 _ F2 H2 (.refl _) (st2.set2 hh.1 hh.2.1 hh.2.2 rv2 rv3 ne)
  · exact q2.elim
/-- a, b, c = x, y, z: all made to stay -/
def par3S (i j k : Nat) (ms : M (List D)) : M Fl := fun s => (ms s).bind fun xs s => match xs with
  | [x, y, z] => if i < s.env.length ∧ j < s.env.length ∧ k < s.env.length then .ok .nx { s with env := ((s.env.set i (.d x)).set j (.d y)).set k (.d z) } else .bad
  | _ => .bad
theorem ds_par3 {i j l : Nat} {x y z : Str} {c : Expr} {px py pz pt pos : Pos} {kt k2 pt2} {ms : M (List D)} (hc : X.calm = true) (hN : X.N.Nodup) (hi : X.N[i]? = some x) (hj : X.N[j]? = some y) (hl : X.N[l]? = some z) (hij : i ≠ j) (hil : i ≠ l) (hjl : j ≠ l)
    (hx : X.env.scope.names.lookup x = some .local) (hy : X.env.scope.names.lookup y = some .local) (hz : X.env.scope.names.lookup z = some .local) (ha : DA X W [a, b, c] ms)
    (hw : swappedStores [.Tuple [.Name x px, .Name y py, .Name z pz] kt pt] (.Tuple [a, b, c] k2 pt2) X.env = pure (some [x, y, z]))
    (hs : swapsWithSole [.Tuple [.Name x px, .Name y py, .Name z pz] kt pt] (.Tuple [a, b, c] k2 pt2) pos.line X.env = pure false := by rfl) :
    DS X W (.Assign [.Tuple [.Name x px, .Name y py, .Name z pz] kt pt] (.Tuple [a, b, c] k2 pt2) pos) (par3S i j l ms) := by
  refine PS.weaken (ps_par3 hc hN hi hj hl hij hil hjl hx hy hz ha hw hs) ?_
  rintro T σ H ⟨P, F0, F, s, st, q⟩
  refine tDA_mono (tDA.bindS st q) ?_
  rintro vs H1 ⟨F1, s1, r, l1, st1, rv, q1⟩
  split at q1
  · rename_i x y z
    cases rv with
    | cons r1 rv =>
      cases rv with
      | cons r2 rv =>
        cases rv with
        | cons r3 rv =>
          cases rv
          refine ⟨_, _, _, rfl, ?_⟩
          split at q1
          · rename_i hh
            refine q1 _ F1 H1 (.refl _) ?_
            have s1' := st1.set (r := .d x) hh.1 r1
            have s2' := s1'.set (r := .d y) (i := j) (by simpa using hh.2.1) r2
            exact s2'.set (r := .d z) (i := l) (by simpa using hh.2.2) r3
          · exact q1.elim
  · exact q1.elim
/-! ### targets -/
/-- the slots outside of vs stay -/
def Out' (vs : List Nat) (σ σ' : L2.St) : Prop := σ'.length = σ.length ∧ ∀ j, j ∉ vs → σ'[j]? = σ[j]?
def tDG (K : PySem.W.Frag) (vs : List Nat) (g : D → S → Option S) : TG := fun v σ H Q => ∃ P F0 F s x s', StRel K P F0 F σ H s ∧ Rp K F v x ∧ g x s = some s' ∧ ∀ σ' F' H', F.le F' → StRel K P F0 F' σ' H' s' → Out' vs σ σ' → Q σ' H'
def tDGs (K : PySem.W.Frag) (ws : List Nat) (g : List D → S → Option S) : TGs := fun vs σ H Q => ∃ P F0 F s xs s', StRel K P F0 F σ H s ∧ RpAll K F vs xs ∧ g xs s = some s' ∧ ∀ σ' F' H', F.le F' → StRel K P F0 F' σ' H' s' → Out' ws σ σ' → Q σ' H'
abbrev DG (X : Cx) (tg : Expr) (vs : List Nat) (g : D → S → Option S) : Prop := PG X tg (tDG X.K vs g)
abbrev DGs (X : Cx) (tg : List Expr) (vs : List Nat) (g : List D → S → Option S) : Prop := PGs X tg (tDGs X.K vs g)
theorem PG.weaken {e : Expr} {t t' : TG} (h : PG X e t) (i : ∀ v σ H Q, t' v σ H Q → t v σ H Q) : PG X e t' := ⟨fun pins s σ H v u Q I r q => h.run pins s σ H v u Q I r (i v σ H Q q)⟩
theorem PGs.weaken {e : List Expr} {t t' : TGs} (h : PGs X e t) (i : ∀ v σ H Q, t' v σ H Q → t v σ H Q) : PGs X e t' := ⟨fun pins s σ H v u Q I r q => h.run pins s σ H v u Q I r (i v σ H Q q)⟩
def gN (i : Nat) (x : D) (s : S) : Option S := if i < s.env.length then some { s with env := s.env.set i (.d x) } else none
def gsNil : List D → S → Option S
  | [], s => some s
  | _ :: _, _ => none
def gsCons (g : D → S → Option S) (gs : List D → S → Option S) : List D → S → Option S
  | [], _ => none
  | x :: xs, s => (g x s).bind (gs xs)
def gT (gs : List D → S → Option S) (x : D) (s : S) : Option S := match x with
  | .tuple xs => gs xs s
  | _ => none
theorem dg_name {i : Nat} {x : Str} {pos : Pos} (hN : X.N.Nodup) (hi : X.N[i]? = some x) (hx : Loc X.env.scope x) (hf : X.fn x = true ∨ X.env.scope.names.lookup x = some .local := by first | exact .inl rfl | exact .inr rfl | assumption) : DG X (.Name x pos) [i] (gN i) := by
  refine PG.weaken (pg_name hN hi hx hf) ?_
  rintro v σ H Q ⟨P, F0, F, s, x, s', st, rp, e, q⟩
  unfold gN at e
  split at e
  · rename_i hh
    cases e
    exact q _ F H (.refl _) (st.set (r := .d x) hh rp) ⟨List.length_set, fun j hj => List.getElem?_set_ne (fun z => hj (by rw [z]; exact List.mem_singleton.mpr rfl))⟩
  · cases e
theorem dgs_nil : DGs X [] [] gsNil := by
  refine PGs.weaken pgs_nil ?_
  rintro v σ H Q ⟨P, F0, F, s, xs, s', st, rp, e, q⟩
  cases rp with
  | nil =>
    cases e
    exact ⟨rfl, q σ F H (.refl _) st ⟨rfl, fun _ _ => rfl⟩⟩
  | cons h r => cases e
theorem dgs_cons {e : Expr} {es : List Expr} {g : D → S → Option S} {gs : List D → S → Option S} {vs ws : List Nat} (h1 : DG X e vs g) (h2 : DGs X es ws gs)
    (hs : (assignEach (e :: es) X.env).map (·.2) = assign e X.env :: (assignEach es X.env).map (·.2) := by rfl) : DGs X (e :: es) (vs ++ ws) (gsCons g gs) := by
  refine PGs.weaken (pgs_cons h1 h2 hs) ?_
  rintro v σ H Q ⟨P, F0, F, s, xs, s', st, rp, e, q⟩
  cases rp with
  | nil => cases e
  | @cons v1 us d ds h r =>
    have e : (g d s).bind (gs ds) = some s' := e
    cases e1 : g d s with
    | none => rw [e1] at e; cases e
    | some s1 =>
      rw [e1] at e
      refine ⟨v1, us, rfl, P, F0, F, s, d, s1, st, h, e1, fun σ1 F1 H1 l1 st1 o1 => ?_⟩
      exact ⟨P, F0, F1, s1, ds, s', st1, r.le l1, e, fun σ2 F2 H2 l2 st2 o2 => q σ2 F2 H2 (l1.trans l2) st2 ⟨o2.1.trans o1.1, fun j hj => (o2.2 j fun z => hj (List.mem_append_right _ z)).trans (o1.2 j fun z => hj (List.mem_append_left _ z))⟩⟩
theorem dg_tup {es : List Expr} {k : Nat} {pos : Pos} {gs : List D → S → Option S} {n : Nat} {vs : List Nat} (hc : X.calm = true) (h : DGs X es vs gs) (hlen : ∀ xs s s', gs xs s = some s' → xs.length = n)
    (hn : (assignEach es X.env).length = n := by rfl) (hst : (assignEach es X.env).findIdx? (·.1) = none := by rfl) : DG X (.Tuple es k pos) vs (gT gs) := by
  refine PG.weaken (pg_tup hc h hn hst) ?_
  rintro v σ H Q ⟨P, F0, F, s, x, s', st, rp, e, q⟩
  unfold gT at e
  split at e
  · rename_i xs
    cases rp with
    | tup hq r => exact ⟨_, _, rfl, sqT_sub st.fH hq, by rw [r.length]; exact hlen _ _ _ e, P, F0, F, s, xs, s', st, r, e, q⟩
  · cases e
theorem gs_len0 : ∀ xs s s', gsNil xs s = some s' → xs.length = 0 := fun xs s s' e => by
  cases xs with
  | nil => rfl
  | cons _ _ => cases e
theorem gs_lenS {g : D → S → Option S} {gs : List D → S → Option S} {n : Nat} (h : ∀ xs s s', gs xs s = some s' → xs.length = n) : ∀ xs s s', gsCons g gs xs s = some s' → xs.length = n + 1 := fun xs s s' e => by
  cases xs with
  | nil => cases e
  | cons x xs =>
    have e : (g x s).bind (gs xs) = some s' := e
    cases e1 : g x s with
    | none => rw [e1] at e; cases e
    | some s1 =>
      rw [e1] at e
      rw [List.length_cons, h _ _ _ e]
def asgS (m : M Sl) (g : D → S → Option S) : M Fl := fun s => (m s).bind fun r s => match g r.val s with
  | some s => .ok .nx s
  | none => .bad
theorem ds_asg {tg e : Expr} {pos : Pos} {m : M Sl} {g : D → S → Option S} {vs : List Nat} (he : DE X W e m) (hg : DG X tg vs g) (hs : swapsWithSole [tg] e pos.line X.env = pure false := by rfl) (hw : swappedStores [tg] e X.env = pure none := by rfl)
    (h1 : (assignEach [tg] X.env).map (·.2) = [assign tg X.env] := by rfl) : DS X W (.Assign [tg] e pos) (asgS m g) := by
  refine PS.weaken (ps_asg he hg hs hw h1) ?_
  rintro T σ H ⟨P, F0, F, s, st, q⟩
  refine tD_mono (tD.bindS st q) ?_
  rintro v H1 ⟨F1, s1, r, l1, st1, rv, q1⟩
  split at q1
  · rename_i s2 e2
    obtain ⟨F2, l2, st2, rp⟩ := rv.freeze st1
    exact ⟨P, F0, F2, s1, r.val, s2, st2, rp, e2, fun σ3 F3 H3 l3 st3 _ => q1 σ3 F3 H3 (l2.trans l3) st3⟩
  · exact q1.elim
/-! ### for -/
def forS (g : D → S → Option S) (body : M Fl) : List D → M Fl
  | [], s => .ok .nx s
  | x :: xs, s => match g x s with
    | none => .bad
    | some s1 => match body s1 with
      | .ok .nx s2 => forS g body xs s2
      | .ok .ct s2 => forS g body xs s2
      | .ok .bk s2 => .ok .nx s2
      | .ok (.rt r) s2 => .ok (.rt r) s2
      | .exc c s2 => .exc c s2
      | .bad => .bad
/-- what a turn gives -/
def Yld (K : PySem.W.Frag) (F : Fz) (H : Hp) (v : V) (x : D) (H' : Hp) : Prop := (H' = H ∧ Rp K F v x) ∨ ∃ p vs ds, H p = none ∧ H' = upd H p (.tup vs) ∧ v = .ref p ∧ x = .tuple ds ∧ RpAll K F vs ds
def Feeds (K : PySem.W.Frag) (P : Hp) (F : Fz) (J : It) (items : List D) : Prop := ∀ i F1 H1, F.le F1 → Sub F1.hp H1 → (∀ a o, P a = some o → H1 a = some o) →
  (items.length ≤ i → J.stop i H1) ∧ ∀ x, items[i]? = some x → J.go i H1 ∧ ∀ v H2, J.yld i H1 v H2 → Yld K F1 H1 v x H2
def ResI (K : PySem.W.Frag) (W : WX) (P F0 : Hp) (F : Fz) (σ : L2.St) (o : Out (List D)) (R : It → Hp → Prop) : Prop := match o with
  | .ok items s => ∀ J F' H, F.le F' → StRel K P F0 F' σ H s → Feeds K P F' J items → R J H
  | .exc c s => ∀ F' H, F.le F' → StRel K P F0 F' σ H s → W (.ref (He.ga K c)) none σ H
  | .bad => False
def tDI (K : PySem.W.Frag) (W : WX) (m : M (List D)) : TI := fun σ H R => ∃ P F0 F s, StRel K P F0 F σ H s ∧ ResI K W P F0 F σ (m s) R
abbrev DI (X : Cx) (W : WX) (tg e : Expr) (m : M (List D)) : Prop := PI X tg e (tDI X.K W m)
theorem PI.weaken {tg e : Expr} {t t' : TI} (h : PI X tg e t) (i : ∀ σ H Q, t' σ H Q → t σ H Q) : PI X tg e t' := ⟨fun pins s σ H Q I q => h.run pins s σ H Q I (i σ H Q q)⟩
def forM (mi : M (List D)) (g : D → S → Option S) (body : M Fl) : M Fl := fun s => (mi s).bind fun items s => forS g body items s
theorem Yld.st (st : StRel K P F0 F σ H s) {H' : Hp} (y : Yld K F H v x H') : ∃ F', F.le F' ∧ StRel K P F0 F' σ H' s ∧ Rp K F' v x := by
  rcases y with ⟨rfl, r⟩ | ⟨p, vs, ds, hp, rfl, rfl, rfl, r⟩
  · exact ⟨F, .refl F, st, r⟩
  · obtain ⟨l, st'⟩ := st.alloc_d (o := .tup vs) hp
    exact ⟨_, l, st', .tup (SqT.of Fz.put_same) (r.le l)⟩
theorem for_core {items : List D} {J : It} {g : D → S → Option S} {m : M Fl} {vs : List Nat} {F1 : Fz} {H1 : Hp} {s1 : S} (st1 : StRel K P F0 F1 σ H1 s1) (fd : Feeds K P F1 J items) (q : ResS K W P F0 F1 (forS g m items s1) T) :
    ∃ W2 : Nat → Nat → L2.St → Hp → Prop, (∃ m, W2 0 m σ H1) ∧ ∀ i n σ H, W2 i n σ H → (J.stop i H ∧ T.nx σ H) ∨ (J.go i H ∧ ∃ N : L2.St → Hp → Prop, (∀ σ' H', N σ' H' → ∃ m', m' < n ∧ W2 (i + 1) m' σ' H') ∧
      ∀ x H', J.yld i H x H' → tDG K vs g x σ H' fun σ2 H2 => tDS K W m { T with nx := N, ct := N, bk := T.nx } σ2 H2) := by
  refine ⟨fun i n σ H => n = items.length - i ∧ i ≤ items.length ∧ ∃ F2 s2, F1.le F2 ∧ StRel K P F0 F2 σ H s2 ∧ ResS K W P F0 F2 (forS g m (items.drop i) s2) T, ⟨_, rfl, Nat.zero_le _, F1, s1, .refl _, st1, by rw [List.drop_zero]; exact q⟩, ?_⟩
  rintro i n σ2 H2 ⟨rfl, hi2, F2, s2, l2, st2, q2⟩
  obtain ⟨f1, f2⟩ := fd i F2 H2 l2 st2.fH st2.pH
  by_cases hlt : i < items.length
  · obtain ⟨go, yl⟩ := f2 _ (List.getElem?_eq_getElem hlt)
    refine .inr ⟨go, fun σ3 H3 => ∃ F3 s3, F1.le F3 ∧ StRel K P F0 F3 σ3 H3 s3 ∧ ResS K W P F0 F3 (forS g m (items.drop (i + 1)) s3) T, fun σ3 H3 h3 => ⟨_, by omega, rfl, hlt, h3⟩, fun v H3 y => ?_⟩
    obtain ⟨F3, l3, st3, rp⟩ := (yl v H3 y).st st2
    rw [List.drop_eq_getElem_cons hlt, forS] at q2
    cases e3 : g items[i] s2 with
    | none =>
      rw [e3] at q2
      exact q2.elim
    | some s3 =>
      rw [e3] at q2
      refine ⟨P, F0, F3, s2, items[i], s3, st3, rp, e3, fun σ4 F4 H4 l4 st4 _ => ⟨P, F0, F4, s3, st4, ?_⟩⟩
      have l04 := (l2.trans l3).trans l4
      cases e4 : m s3 with
      | bad =>
        simp only [e4] at q2
        exact q2
      | exc c s4 =>
        simp only [e4] at q2
        exact ResS.le (l3.trans l4) q2
      | ok f s4 =>
        simp only [e4] at q2
        cases f with
        | nx => exact fun σ5 F5 H5 l5 st5 => ⟨F5, s4, l04.trans l5, st5, ResS.le ((l3.trans l4).trans l5) q2⟩
        | ct => exact fun σ5 F5 H5 l5 st5 => ⟨F5, s4, l04.trans l5, st5, ResS.le ((l3.trans l4).trans l5) q2⟩
        | bk => exact ResS.le (l3.trans l4) q2
        | rt r => exact fun v σ5 F5 H5 l5 st5 rv => q2 v σ5 F5 H5 ((l3.trans l4).trans l5) st5 rv
  · refine .inl ⟨f1 (by omega), ?_⟩
    rw [List.drop_of_length_le (by omega)] at q2
    exact q2 σ2 F2 H2 (.refl _) st2
theorem ds_for {tg iter : Expr} {body : List Stmt} {pos : Pos} {mi : M (List D)} {g : D → S → Option S} {m : M Fl} {vs : List Nat} (hp : PassesOwn (model X.prog X.w) X.A X.env X.xe) (hc : X.calm = true) (hi : DI X W tg iter mi) (hg : DG X tg vs g) (hb : DSs X W body m)
    (hs : ∀ x, foldedSetIterable iter X.env x = pure x := by intro _; rfl) : DS X W (.For tg iter body [] pos) (forM mi g m) := by
  refine PS.weaken (ps_for hp hc hi hg hb hs) ?_
  rintro T σ H ⟨P, F0, F, s, st, q⟩
  refine ⟨P, F0, F, s, st, ?_⟩
  unfold forM at q
  cases e : mi s with
  | bad =>
    rw [e] at q
    exact q
  | exc c s1 =>
    rw [e] at q
    exact fun F' H' l st' => q σ F' H' l st'
  | ok items s1 =>
    rw [e] at q
    intro J F1 H1 l1 st1 fd
    exact for_core st1 fd (ResS.le l1 q)
/-! ### while -/
def whileF (t : M Bool) (body : M Fl) : Nat → M Fl
  | 0, _ => .bad
  | n + 1, s => match t s with
    | .ok true s1 => match body s1 with
      | .ok .nx s2 => whileF t body n s2
      | .ok .ct s2 => whileF t body n s2
      | .ok .bk s2 => .ok .nx s2
      | .ok (.rt r) s2 => .ok (.rt r) s2
      | .exc c s2 => .exc c s2
      | .bad => .bad
    | .ok false s1 => .ok .nx s1
    | .exc c s1 => .exc c s1
    | .bad => .bad
theorem ds_while {c : Expr} {body : List Stmt} {pos : Pos} {t : M Bool} {m : M Fl} (fuel : Nat) (hp : PassesOwn (model X.prog X.w) X.A X.env X.xe) (hc : DT X W c t) (hb : DSs X W body m) : DS X W (.While c body [] pos) (whileF t m fuel) := by
  refine PS.weaken (ps_while hp hc hb) ?_
  rintro T σ H ⟨P, F0, F, s, st, q⟩
  refine ⟨fun n σ H => ∃ F2 s2, StRel X.K P F0 F2 σ H s2 ∧ ResS X.K W P F0 F2 (whileF t m n s2) T, ⟨fuel, F, s, st, q⟩, ?_⟩
  rintro n σ2 H2 ⟨F2, s2, st2, q2⟩
  cases n with
  | zero => exact q2.elim
  | succ n =>
    rw [whileF] at q2
    refine ⟨P, F0, F2, s2, st2, ?_⟩
    cases e : t s2 with
    | bad =>
      rw [e] at q2
      exact q2
    | exc c s3 =>
      rw [e] at q2
      exact fun F' H' l st' => q2 σ2 F' H' l st'
    | ok b s3 =>
      rw [e] at q2
      intro F3 H3 l3 st3
      cases b with
      | false => exact q2 σ2 F3 H3 l3 st3
      | true =>
        rw [if_pos rfl]
        refine ⟨fun σ4 H4 => ∃ F4 s4, StRel X.K P F0 F4 σ4 H4 s4 ∧ ResS X.K W P F0 F4 (whileF t m n s4) T, fun σ4 H4 h => ⟨n, Nat.lt_succ_self n, h⟩, P, F0, F3, s3, st3, ?_⟩
        have q3 : ResS X.K W P F0 F2 (match m s3 with
          | .ok .nx s2 => whileF t m n s2
          | .ok .ct s2 => whileF t m n s2
          | .ok .bk s2 => .ok .nx s2
          | .ok (.rt r) s2 => .ok (.rt r) s2
          | .exc c s2 => .exc c s2
          | .bad => .bad) T := q2
        cases e4 : m s3 with
        | bad =>
          rw [e4] at q3
          exact q3
        | exc c s4 =>
          rw [e4] at q3
          exact ResS.le l3 q3
        | ok f s4 =>
          rw [e4] at q3
          cases f with
          | nx => exact fun σ5 F5 H5 l5 st5 => ⟨F5, s4, st5, ResS.le (l3.trans l5) q3⟩
          | ct => exact fun σ5 F5 H5 l5 st5 => ⟨F5, s4, st5, ResS.le (l3.trans l5) q3⟩
          | bk => exact ResS.le l3 q3
          | rt r => exact fun v σ5 F5 H5 l5 st5 rv => q3 v σ5 F5 H5 (l3.trans l5) st5 rv
end
end Dy
end
section
set_option Elab.async false
set_option linter.all false
set_option maxRecDepth 100000
set_option maxHeartbeats 4000000
/-! calls where no repr runs: the hand layer's promises with the guards known -/
namespace Dy
open PySem PySem.Spec PyProof.Rows L2
variable [LawI] [Ph]
structure RoomG (k : Nat) (A : Around) : Prop where
  r : Room k A
  gd : A.guards = some []
theorem RoomG.mono {j k : Nat} {A : Around} (h : RoomG k A) (l : j ≤ k) : RoomG j A := ⟨h.r.mono l, h.gd⟩
theorem RoomG.deeper {k : Nat} {A : Around} (h : RoomG (k + 1) A) (env : Env) : RoomG k (A.deeper env) := ⟨h.r.deeper env, h.gd⟩
theorem RoomG.depth {k : Nat} {A : Around} (h : RoomG k A) : A.depth < recursionLimit := h.r.depth
theorem RoomG.hd {k : Nat} {A : Around} (h : RoomG k A) : A.handled = none := h.r.hd
theorem RoomG.units {k : Nat} {A : Around} (h : RoomG k A) : A.units + 64 < cLine := h.r.units
theorem RoomG.units1 {k : Nat} {A : Around} (h : RoomG k A) : A.units + 1 < cLine := by have := h.r.un; omega
structure FnOkG (P : Program) (w : World) (K : PySem.W.Frag) (mg : Str → Option Value) (base : Heap) (CX : CXT) (k : Nat) (f : Addr) (fd : FuncData) (ps : List Str) (sp : Sp) : Prop where
  len : ∀ vs H Q E, sp vs H Q E → vs.length = ps.length
  run : ∀ (A : Around) (outer : List Env) (s : Shared) (H : Hp) (args : Args) (us : List Value) (vs : List V) (Q : VK) (E : XK), RoomG k A → Env0 P w K mg base A outer s H → BindsTo s fd args (ps.zip us) → Vals vs us → sp vs H Q E →
    codeAny (model P w) A (.call (.ref f) args) (CR CX outer P w H s Q E) s
theorem fn_ofG {CX : CXT} {P : Program} {w : World} {K : PySem.W.Frag} {mg : Str → Option Value} {base : Heap} {k : Nat} {f : Addr} {name qual : Str} {params : Arguments} {body : List Stmt} {scope : Scope} {dV kV doc pm cdv ct oc : Value} {an od : Option Addr}
    {osl : Array (Option Value)} {N ps : List Str} {sp : Sp} (lk : K.lookup f = some ⟨oc, od, .func (PySem.W.fnOf name qual params body scope dV kV doc pm an cdv ct), osl⟩) (hcd : PySem.W.codeIn K cdv qual = true) (S : FnScope N ps scope)
    (len : ∀ vs H Q E, sp vs H Q E → vs.length = ps.length)
    (hbody : ∀ (A : Around) (outer : List Env) (s : Shared) (H : Hp) (vs : List V) (Q : VK) (E : XK), RoomG k (A.deeper (envOfC qual scope s.heap.objs.size f cdv)) → sp vs H Q E →
      ∃ t, PSs (cxOf CX P w K mg base N qual scope f cdv A outer s H E) body t ∧ t { nx := fun _ H' => Q .non H', rt := Q } (start N vs) H) :
    FnOkG P w K mg base CX (k + 1) f (PySem.W.fnOf name qual params body scope dV kV doc pm an cdv ct) ps sp := by
  refine ⟨len, fun A outer s H args us vs Q E hr e0 hb r hsp => ?_⟩
  have hl := len _ _ _ _ hsp
  have KX : K.In s.heap := e0.mod.kin.keeps fun b o e => (e0.bs b o e).1
  have lim : s.heap.NoLimit := e0.mod.nolimit.keeps fun b o e => (e0.bs b o e).1
  have hkind : ∀ y ∈ ps.zip us, scope.names.lookup y.1 = some .local ∨ (scope.names.lookup y.1 = some .cell ∧ ((cellsFrom (s.heap.objs.size + 1) scope.names []).lookup y.1).isSome = true) := fun ⟨n, v⟩ hy => by
    rcases S.par n (List.of_mem_zip hy).1 with q | q
    · exact .inl q
    · exact .inr ⟨q, PySem.W.cellsFrom_some _ _ _ (.inl q)⟩
  refine codeAny_call_function hr.depth (KX _ _ lk) rfl S.co S.gen rfl (PySem.W.codeRec_of KX hcd) (hb _ _ _ _ ?_)
  refine wpAny_newFunctionEnv_cells S.kind hkind fun env he s1 x => ?_
  subst he
  refine ⟨lim.keeps x.toInCall.keep, codeAny_func ?_⟩
  obtain ⟨t, ht, hq⟩ := hbody A outer s H vs Q E (hr.deeper _) hsp
  have I : Inv (cxOf CX P w K mg base N qual scope f cdv A outer s H E) [] (start N vs) H s1 := inv_start S hr.hd e0 hl r x
  refine wpAny_mono (ht.run [] s1 (start N vs) H _ I hq) (fun fl s' hs => ?_) fun e s' hs => hs
  have fin : ∀ {σ' : L2.St} {H' : Hp} {v : V} {u : Value}, Inv (cxOf CX P w K mg base N qual scope f cdv A outer s H E) [] σ' H' s' → RelV v u → Q v H' → CE outer P w H s Q u s' :=
    fun {σ' H' v u} J rv q => ⟨v, H', J.os, J.bare, J.base, J.hok, rv, q⟩
  cases fl with
  | ret u =>
    obtain ⟨v, σ', H', J, rv, q⟩ := hs
    exact fin J rv q
  | next =>
    obtain ⟨σ', H', J, q⟩ := hs
    exact fin (v := V.non) (u := Value.none) J rfl q
  | brk =>
    obtain ⟨_, _, _, q⟩ := hs
    exact False.elim q
  | cont =>
    obtain ⟨_, _, _, q⟩ := hs
    exact False.elim q
section
variable {X : Cx} {CX : CXT} {k : Nat} {f C : Addr} {fd : FuncData} {ps : List Str} {sp : Sp} {E : L2.St → XK} {x m : Str} {p pos apos : Pos} {e o : Expr} {es : List Expr} {ta : TE} {t : TA}
theorem run_fnSG {pins : List (Addr × Obj)} {σ : L2.St} {H : Hp} {s : Shared} {Q : VK} {us : List Value} {vs : List V} (F : FnOkG X.prog X.w X.K X.mg X.base CX k f fd ps sp) (hr : RoomG k X.A) (hb : Binds X.K fd ps []) (hx : PassesAt CX X σ (E σ))
    (I : Inv X pins σ H s) (r : Vals vs us) (h : sp vs H Q (E σ)) : wpAny (model X.prog X.w) X.A (call (.ref f) us) (EP X pins σ Q) X.xe s := by
  have hl : us.length = ps.length := by rw [← r.length]; exact F.len _ _ _ _ h
  have b := hb s us I.kIn (by rw [List.append_nil]; exact hl)
  rw [List.append_nil] at b
  refine wpAny_call (codeAny_mono (F.run X.A X.stack s H ⟨us, []⟩ us vs Q (E σ) hr I.env0 b r h) fun r s' hq => ?_)
  cases r with
  | error e => exact hx pins H s e s' I hq
  | ok fl =>
    cases fl with
    | ret u => exact I.after hq
    | next => exact False.elim hq
    | brk => exact False.elim hq
    | cont => exact False.elim hq
theorem pe_callSG (F : FnOkG X.prog X.w X.K X.mg X.base CX k f fd ps sp) (hr : RoomG k X.A) (hg : Gl X x) (hm : X.mg x = some (.ref f)) (hk : PySem.W.keepIn X.K (.ref f) = true) (hb : Binds X.K fd ps []) (hx : ∀ σ, PassesAt CX X σ (E σ))
    (ha : PA X (e :: es) t) (hdb : (x == ("__debug__" : Str)) = false := by decide) (he : starEach (e :: es) X.env = (false, eval e X.env) :: starEach es X.env := by rfl) (hpl : (backTo pos (starEach es X.env)).any (·.1) = false := by rfl) :
    PE X (.Call (.Name x p) (e :: es) [] pos) (tCallS sp E t) := by
  refine ⟨fun pins s σ H Q I h => ?_⟩
  refine wpAny_Call_Name_kw (ld_glob I hg hm ?_ hdb)
  refine PySem.W.callWith_K (h₀ := X.base) I.ok.mod.kin hk (thn (ha.run pos pins s σ H _ I h) fun us s1 ⟨vs, H1, I1, r, q⟩ => ⟨I1.kIn, ?_⟩) he hpl
  exact run_fnSG F hr hb (hx σ) I1 r q
theorem pe_callSG0 (F : FnOkG X.prog X.w X.K X.mg X.base CX k f fd ps sp) (hr : RoomG k X.A) (hg : Gl X x) (hm : X.mg x = some (.ref f)) (hk : PySem.W.keepIn X.K (.ref f) = true) (hb : Binds X.K fd ps []) (hx : ∀ σ, PassesAt CX X σ (E σ))
    (hdb : (x == ("__debug__" : Str)) = false := by decide) : PE X (.Call (.Name x p) [] [] pos) (fun σ H Q => sp [] H Q (E σ)) := by
  refine ⟨fun pins s σ H Q I h => ?_⟩
  refine wpAny_Call_Name_kw (ld_glob I hg hm ?_ hdb)
  exact PySem.W.callWith_K0 I.kIn hk (run_fnSG (us := []) F hr hb (hx σ) I .nil h)
end
theorem run_ofSG {CX : CXT} {P : Program} {w : World} {K : PySem.W.Frag} {mg : Str → Option Value} {base : Heap} {k : Nat} {f : Addr} {name qual : Str} {params : Arguments} {body : List Stmt} {scope : Scope} {dV kV doc pm cdv ct oc : Value} {an od : Option Addr}
    {osl : Array (Option Value)} {N ps : List Str} (lk : K.lookup f = some ⟨oc, od, .func (PySem.W.fnOf name qual params body scope dV kV doc pm an cdv ct), osl⟩) (hcd : PySem.W.codeIn K cdv qual = true) (S : FnScope N ps scope)
    {A : Around} {outer : List Env} {s : Shared} {H : Hp} {args : Args} {us : List Value} {vs : List V} {Q : VK} {E : XK} (hr : RoomG (k + 1) A) (e0 : Env0 P w K mg base A outer s H) (hb : BindsTo s (PySem.W.fnOf name qual params body scope dV kV doc pm an cdv ct) args (ps.zip us)) (r : Vals vs us) (hl : vs.length = ps.length)
    (hbody : RoomG k (A.deeper (envOfC qual scope s.heap.objs.size f cdv)) → ∃ t, PSs (cxOf CX P w K mg base N qual scope f cdv A outer s H E) body t ∧ t { nx := fun _ H' => Q .non H', rt := Q } (L2.start N vs) H) :
    codeAny (model P w) A (.call (.ref f) args) (CR CX outer P w H s Q E) s := by
  have KX : K.In s.heap := e0.mod.kin.keeps fun b o e => (e0.bs b o e).1
  have lim : s.heap.NoLimit := e0.mod.nolimit.keeps fun b o e => (e0.bs b o e).1
  have hkind : ∀ y ∈ ps.zip us, scope.names.lookup y.1 = some .local ∨ (scope.names.lookup y.1 = some .cell ∧ ((cellsFrom (s.heap.objs.size + 1) scope.names []).lookup y.1).isSome = true) := fun ⟨n, v⟩ hy => by
    rcases S.par n (List.of_mem_zip hy).1 with q | q
    · exact .inl q
    · exact .inr ⟨q, PySem.W.cellsFrom_some _ _ _ (.inl q)⟩
  refine codeAny_call_function hr.depth (KX _ _ lk) rfl S.co S.gen rfl (PySem.W.codeRec_of KX hcd) (hb _ _ _ _ ?_)
  refine wpAny_newFunctionEnv_cells S.kind hkind fun env he s1 x => ?_
  subst he
  refine ⟨lim.keeps x.toInCall.keep, codeAny_func ?_⟩
  obtain ⟨t, ht, hq⟩ := hbody (hr.deeper _)
  have I : Inv (cxOf CX P w K mg base N qual scope f cdv A outer s H E) [] (L2.start N vs) H s1 := inv_start S hr.hd e0 hl r x
  refine wpAny_mono (ht.run [] s1 (L2.start N vs) H _ I hq) (fun fl s' hs => ?_) fun e s' hs => hs
  have fin : ∀ {σ' : L2.St} {H' : Hp} {v : V} {u : Value}, Inv (cxOf CX P w K mg base N qual scope f cdv A outer s H E) [] σ' H' s' → L2.RelV v u → Q v H' → CE outer P w H s Q u s' :=
    fun {σ' H' v u} J rv q => ⟨v, H', J.os, J.bare, J.base, J.hok, rv, q⟩
  cases fl with
  | ret u =>
    obtain ⟨v, σ', H', J, rv, q⟩ := hs
    exact fin J rv q
  | next =>
    obtain ⟨σ', H', J, q⟩ := hs
    exact fin (v := V.non) (u := Value.none) J rfl q
  | brk =>
    obtain ⟨_, _, _, q⟩ := hs
    exact False.elim q
  | cont =>
    obtain ⟨_, _, _, q⟩ := hs
    exact False.elim q
end Dy
end
section
set_option Elab.async false
set_option linter.all false
set_option maxRecDepth 100000
set_option maxHeartbeats 4000000
namespace Dy
open PySem PySem.Spec PyProof.Rows L2
variable [LawI] [Ph]
/-! ### calls -/
inductive OutF where
  | ok (d : D) (dr : Option Dr)
  | exc (c : Str) (dr : Option Dr)
  | bad
abbrev FD := List D → Option Dr → OutF
def ResF (K : PySem.W.Frag) (P F0 : Hp) (F : Fz) (o : OutF) (Q : VK) (E : XK) : Prop := match o with
  | .ok d dr => ∀ v F' H, F.le F' → StRel K P F0 F' [] H ⟨[], dr⟩ → Rp K F' v d → Q v H
  | .exc c dr => ∀ F' H, F.le F' → StRel K P F0 F' [] H ⟨[], dr⟩ → E (.ref (He.ga K c)) none H
  | .bad => False
/-- the promise of a def that does what f tells -/
def spD (K : PySem.W.Frag) (n : Nat) (f : FD) : Sp := fun vs H Q E => vs.length = n ∧ ∃ P F0 F ds dr, StRel K P F0 F [] H ⟨[], dr⟩ ∧ RpAll K F vs ds ∧ ResF K P F0 F (f ds dr) Q E
def noTb (o : Option HO) : Option HO := match o with
  | some (.tbl _) => none
  | o => o
theorem noTb_le {o : Option HO} {x : HO} (h : noTb o = some x) : o = some x := by
  unfold noTb at h
  split at h
  · cases h
  · exact h
theorem noTb_of {o : Option HO} {x : HO} (h : o = some x) (n : NT x) : noTb o = some x := by
  subst h
  unfold noTb
  split
  · rename_i ps e
    exact absurd (Option.some.inj e) (n ps)
  · rfl
theorem noTb_nt {o : Option HO} {ps : Array Value} : noTb o ≠ some (.tbl ps) := fun h => by
  have e := noTb_le h
  rw [e] at h
  cases h
def cutP (F : Fz) (H : Hp) : Hp := fun a => match F.dr with
  | some (d, w) => if a = d ∨ a = w then none else noTb (H a)
  | none => noTb (H a)
section
variable {X : Cx} {W : WX} {a b : Expr} {oa ob : Opd} {P F0 : Hp} {F F' : Fz} {σ : L2.St} {H H' : Hp} {s : S} {Q : VK} {K : PySem.W.Frag} {v : V} {x : D} {T : Ends} {dr' : Option Dr}
theorem cutP_le {a : Addr} {o : HO} (h : cutP F H a = some o) : H a = some o := by
  unfold cutP at h
  split at h
  · split at h
    · cases h
    · exact noTb_le h
  · exact noTb_le h
theorem cutP_nt {a : Addr} {ps : Array Value} : cutP F H a ≠ some (.tbl ps) := fun h => by
  unfold cutP at h
  split at h
  · split at h
    · cases h
    · exact noTb_nt h
  · exact noTb_nt h
theorem cutP_of {a : Addr} {o : HO} (h : H a = some o) (n : ∀ d w, F.dr = some (d, w) → a ≠ d ∧ a ≠ w) (nt : NT o) : cutP F H a = some o := by
  unfold cutP
  split
  · rename_i d w e
    rw [if_neg (fun z => z.elim (n d w e).1 (n d w e).2)]
    exact noTb_of h nt
  · exact noTb_of h nt
theorem StRel.enter (st : StRel K P F0 F σ H s) : StRel K (cutP F H) F.hp F [] H ⟨[], s.dr⟩ where
  tb := ⟨st.tb.ok, fun a ps z => cutP_nt z, st.tb.nF⟩
  ph := st.ph
  fH := st.fH
  pH := fun a o h => cutP_le h
  new := fun a h => .inl h
  len := Nat.le_refl _
  slot := fun i sl e => by simp at e
  sep := fun i j x y a _ e => by simp at e
  dr := by
    have q := st.dr
    show DrOk _ _ _ s.dr
    cases hst : s.dr with
    | none =>
      rw [hst] at q
      exact q
    | some r =>
      rw [hst] at q
      obtain ⟨d, w, c, q1, q2, q3, q4, q5, q6, q7, q8, q9⟩ := q
      refine ⟨d, w, c, q1, q2, q3, q4, q5, q6, q7, ?_, ?_⟩
      · unfold cutP
        rw [q1]
        exact if_pos (.inl rfl)
      · unfold cutP
        rw [q1]
        exact if_pos (.inr rfl)
theorem StRel.drP (st : StRel K P F0 F σ H s) {d w : Addr} (h : F.dr = some (d, w)) : P d = none ∧ P w = none ∧ F.hp d = none ∧ F.hp w = none := by
  have q := st.dr
  cases hst : s.dr with
  | none =>
    rw [hst] at q
    have q1 : F.dr = none := q
    rw [h] at q1
    cases q1
  | some r =>
    rw [hst] at q
    obtain ⟨d', w', c, q1, q2, q3, q4, q5, q6, q7, q8, q9⟩ := q
    rw [h] at q1
    cases q1
    exact ⟨q8, q9, q6, q7⟩
theorem StRel.leave (st : StRel K P F0 F σ H s) (l : F.le F') (st' : StRel K (cutP F H) F.hp F' [] H' ⟨[], dr'⟩) : StRel K P F0 F' σ H' { s with dr := dr' } := by
  have keep : ∀ a o, P a = some o → cutP F H a = some o := fun a o h => cutP_of (st.pH a o h) (fun d w e => by
    obtain ⟨p1, p2, _, _⟩ := st.drP e
    exact ⟨ne_of_none h p1, ne_of_none h p2⟩) fun ps z => st.tb.nP a ps (by rw [← z]; exact h)
  have pn : ∀ a, cutP F H a = none → P a = none := fun a h => by
    cases q : P a with
    | none => rfl
    | some o => rw [keep a o q] at h; cases h
  have own : ∀ a x, Own K P F H a x → Own K P F' H' a x := fun a x w => by
    obtain ⟨o, e1, e2⟩ := w.ob
    have e3 : cutP F H a = some o := cutP_of e1 w.dr e2.nx.nt
    refine ⟨?_, w.pr, fun d w' q => ?_, o, st'.pH a o e3, e2.le l⟩
    · cases q : F'.hp a with
      | none => rfl
      | some u =>
        rcases st'.new a (by rw [q]; simp) with z | z
        · exact absurd w.fr z
        · exact absurd e2.nx (z o e3)
    · obtain ⟨p1, p2, _, _⟩ := st'.drP q
      exact ⟨ne_of_none e3 p1, ne_of_none e3 p2⟩
  refine ⟨st'.fH, fun a o h => st'.pH a o (keep a o h), fun a h => ?_, st.len, fun i sl e => ?_, st.sep, ?_, ⟨st'.tb.ok, st.tb.nP, st'.tb.nF⟩, st'.ph⟩
  · rcases st'.new a h with z | z
    · exact st.new a z
    · exact .inr fun o1 e1 => z o1 (keep a o1 e1)
  · have q := st.slot i sl e
    cases sl with
    | u => trivial
    | d x =>
      obtain ⟨u, e1, r⟩ := q
      exact ⟨u, e1, r.le l⟩
    | o x =>
      obtain ⟨a, e1, w⟩ := q
      exact ⟨a, e1, own a x w⟩
  · have q := st'.dr
    show DrOk P F' H' dr'
    have q' : DrOk (cutP F H) F' H' dr' := q
    cases dr' with
    | none => exact q'
    | some r =>
      obtain ⟨d, w, c, q1, q2, q3, q4, q5, q6, q7, q8, q9⟩ := q'
      exact ⟨d, w, c, q1, q2, q3, q4, q5, q6, q7, pn d q8, pn w q9⟩
def callF (f : FD) (ds : List D) (s : S) : Out Sl := match f ds s.dr with
  | .ok d dr => .ok (.d d) { s with dr := dr }
  | .exc c dr => .exc c { s with dr := dr }
  | .bad => .bad
def callD (f : FD) (ms : M (List D)) : M Sl := fun s => (ms s).bind fun ds s => callF f ds s
theorem callF_ok {f : FD} {ds : List D} {vs : List V} {n : Nat} {E : XK} (st : StRel K P F0 F σ H s) (r : RpAll K F vs ds) (hn : vs.length = n) (hE : ∀ c H, W c none σ H → E c none H) (h : Res K W P F0 F σ (callF f ds s) Q) : spD K n f vs H Q E := by
  refine ⟨hn, cutP F H, F.hp, F, ds, s.dr, st.enter, r, ?_⟩
  unfold callF at h
  cases e : f ds s.dr with
  | bad =>
    rw [e] at h
    exact h
  | exc c dr =>
    rw [e] at h
    exact fun F' H' l st' => hE _ _ (h F' H' l (st.leave l st'))
  | ok d dr =>
    rw [e] at h
    exact fun v F' H' l st' rp => h v F' H' l (st.leave l st') rp
theorem d_call {k : Nat} {f : Addr} {fd : FuncData} {ps : List Str} {fx : FD} {n : Nat} {x : Str} {p pos : Pos} {e : Expr} {es : List Expr} {ms : M (List D)} (Fk : FnOkG X.prog X.w X.K X.mg X.base (L2.CX X.prog X.w) k f fd ps (spD X.K n fx)) (tk : Takes X W) (hr : RoomG k X.A) (hg : Gl X x) (hm : X.mg x = some (.ref f))
    (hk : PySem.W.keepIn X.K (.ref f) = true) (hb : Binds X.K fd ps []) (ha : DA X W (e :: es) ms) (hlen : ∀ s ds s', ms s = .ok ds s' → ds.length = n) (hd : (x == ("__debug__" : Str)) = false := by decide)
    (he : starEach (e :: es) X.env = (false, eval e X.env) :: starEach es X.env := by rfl) (hpl : (backTo pos (starEach es X.env)).any (·.1) = false := by rfl) : DE X W (.Call (.Name x p) (e :: es) [] pos) (callD fx ms) := by
  refine PE.weaken (pe_callSG Fk hr hg hm hk hb (fun σ => passAt tk σ) ha hd he hpl) ?_
  rintro σ H Q ⟨P, F0, F, s, st, q⟩
  unfold callD at q
  have h2 : tDA X.K W ms σ H fun v H1 => ∃ F1 s1 r, F.le F1 ∧ StRel X.K P F0 F1 σ H1 s1 ∧ RpAll X.K F1 v r ∧ r.length = n ∧ Res X.K W P F0 F1 σ (callF fx r s1) Q := by
    refine ⟨P, F0, F, s, st, ?_⟩
    cases e1 : ms s with
    | bad =>
      rw [e1] at q
      exact q
    | exc c s1 =>
      rw [e1] at q
      exact q
    | ok ds s1 =>
      rw [e1] at q
      exact fun v F1 H1 l1 st1 rp => ⟨F1, s1, ds, l1, st1, rp, hlen _ _ _ e1, Res.le l1 q⟩
  refine tDA_mono h2 ?_
  rintro vs H1 ⟨F1, s1, ds, l1, st1, rp, hn, q1⟩
  exact callF_ok st1 rp (by rw [rp.length]; exact hn) (fun c H h => h) q1
theorem nilA_len : ∀ s ds s', nilA s = .ok ds s' → ds.length = 0 := fun s ds s' e => by cases e; rfl
theorem consA_len {m : M Sl} {ms : M (List D)} {n : Nat} (h : ∀ s ds s', ms s = .ok ds s' → ds.length = n) : ∀ s ds s', consA m ms s = .ok ds s' → ds.length = n + 1 := fun s ds s' e => by
  unfold consA at e
  cases e1 : m s with
  | bad => rw [e1] at e; cases e
  | exc c s1 => rw [e1] at e; cases e
  | ok r s1 =>
    rw [e1] at e
    have e : (ms s1).bind (fun xs s => Out.ok (r.val :: xs) s) = .ok ds s' := e
    cases e2 : ms s1 with
    | bad => rw [e2] at e; cases e
    | exc c s2 => rw [e2] at e; cases e
    | ok rs s2 =>
      rw [e2] at e
      cases e
      rw [List.length_cons, h _ _ _ e2]
/-- without arguments -/
theorem d_call0 {k : Nat} {f : Addr} {fd : FuncData} {ps : List Str} {fx : FD} {x : Str} {p pos : Pos} (Fk : FnOkG X.prog X.w X.K X.mg X.base (L2.CX X.prog X.w) k f fd ps (spD X.K 0 fx)) (tk : Takes X W) (hr : RoomG k X.A) (hg : Gl X x) (hm : X.mg x = some (.ref f))
    (hk : PySem.W.keepIn X.K (.ref f) = true) (hb : Binds X.K fd ps []) (hd : (x == ("__debug__" : Str)) = false := by decide) : DE X W (.Call (.Name x p) [] [] pos) (callD fx nilA) := by
  refine PE.weaken (pe_callSG0 Fk hr hg hm hk hb (fun σ => passAt tk σ) hd) ?_
  rintro σ H Q ⟨P, F0, F, s, st, q⟩
  show spD X.K 0 fx [] H Q _
  exact callF_ok st .nil rfl (fun c H h => h) q
/-! ### a def by its body -/
def runD (n : Nat) (m : M Fl) (ds : List D) (dr : Option Dr) : OutF := match m ⟨ds.map .d ++ List.replicate n .u, dr⟩ with
  | .ok (.rt r) s => .ok r.val s.dr
  | .ok .nx s => .ok .none s.dr
  | .exc c s => .exc c s.dr
  | _ => .bad
theorem start_env {K : PySem.W.Frag} {P F0 : Hp} {F : Fz} {H : Hp} {dr : Option Dr} {vs : List V} {ds : List D} {N : List Str} {n : Nat} (st : StRel K P F0 F [] H ⟨[], dr⟩) (r : RpAll K F vs ds) (hN : N.length = vs.length + n) : StRel K P F0 F (L2.start N vs) H ⟨ds.map .d ++ List.replicate n .u, dr⟩ := by
  have hs : ∀ i v, vs[i]? = some v → (L2.start N vs).getD i none = some v := fun i v e => by
    unfold L2.start
    rw [List.getD_eq_getElem?_getD, List.getElem?_append_left (by rw [List.length_map]; exact (List.getElem?_eq_some_iff.mp e).1), List.getElem?_map, e]
    rfl
  refine ⟨st.fH, st.pH, st.new, ?_, fun i sl e => ?_, fun i j x y a _ e => ?_, st.dr, st.tb, st.ph⟩
  · have e1 := r.length
    show (ds.map Sl.d ++ List.replicate n Sl.u).length ≤ (L2.start N vs).length
    unfold L2.start
    simp only [List.length_append, List.length_map, List.length_replicate]
    omega
  · have e : (ds.map Sl.d ++ List.replicate n Sl.u)[i]? = some sl := e
    by_cases hi : i < ds.length
    · rw [List.getElem?_append_left (by rw [List.length_map]; exact hi), List.getElem?_map] at e
      cases e1 : ds[i]? with
      | none => rw [e1] at e; cases e
      | some d =>
        rw [e1] at e
        cases e
        obtain ⟨v, e2, rp⟩ := r.get e1
        exact ⟨v, hs i v e2, rp⟩
    · rw [List.getElem?_append_right (by rw [List.length_map]; omega), List.getElem?_replicate] at e
      split at e
      · cases e
        trivial
      · cases e
  · have e : (ds.map Sl.d ++ List.replicate n Sl.u)[i]? = some (.o x) := e
    by_cases hi : i < ds.length
    · rw [List.getElem?_append_left (by rw [List.length_map]; exact hi), List.getElem?_map] at e
      cases e1 : ds[i]? with
      | none => rw [e1] at e; cases e
      | some d =>
        rw [e1] at e
        cases e
    · rw [List.getElem?_append_right (by rw [List.length_map]; omega), List.getElem?_replicate] at e
      split at e
      · cases e
      · cases e
theorem StRel.drop (st : StRel K P F0 F σ H s) : StRel K P F0 F [] H ⟨[], s.dr⟩ :=
  ⟨st.fH, st.pH, st.new, Nat.le_refl _, fun i sl e => by simp at e, fun i j x y a _ e => by simp at e, st.dr, st.tb, st.ph⟩
/-- the body's ends are the promise's -/
theorem body_ok {n k : Nat} {m : M Fl} {vs : List V} {N : List Str} {fx : FD} {E : XK} (h : spD K k fx vs H Q E) (hN : N.length = k + n) (hW : ∀ c σ H, E c none H → W c none σ H)
    (hm : ∀ ds dr, ds.length = k → fx ds dr ≠ .bad → runD n m ds dr = fx ds dr) : tDS K W m { nx := fun _ H' => Q .non H', rt := Q } (L2.start N vs) H := by
  obtain ⟨hl, P, F0, F, ds, dr, st, r, h⟩ := h
  have hlen := r.length
  refine ⟨P, F0, F, _, start_env (n := n) st r (by omega), ?_⟩
  have e : runD n m ds dr = fx ds dr := hm ds dr (by omega) (fun z => by rw [z] at h; exact h)
  rw [← e] at h
  unfold runD at h
  cases e1 : m ⟨ds.map Sl.d ++ List.replicate n Sl.u, dr⟩ with
  | bad =>
    rw [e1] at h
    exact h
  | exc c s1 =>
    rw [e1] at h
    exact fun σ F' H' l st' => hW _ _ _ (h F' H' l st'.drop)
  | ok f s1 =>
    rw [e1] at h
    cases f with
    | nx => exact fun σ F' H' l st' => h .non F' H' l st'.drop .non
    | rt rr =>
      intro v σ F' H' l st' rv
      obtain ⟨F2, l2, st2, rp⟩ := rv.freeze st'
      exact h v F2 H' (l.trans l2) st2.drop rp
    | bk => exact h.elim
    | ct => exact h.elim
end
/-- THE RULE for a def -/
theorem fn_D {P : Program} {w : World} {K : PySem.W.Frag} {mg : Str → Option Value} {base : Heap} {x qual : Str} {params : Arguments} {body : List Stmt} {scope : Scope} {f : Addr} {fd : FuncData} {N ps : List Str} {k n : Nat} {fx : FD} {m : M Fl}
    (Fd : L2.FunD K x qual params body scope [] [] f fd) (Sc : FnScope N ps scope) (hN : N.length = ps.length + n)
    (hbody : ∀ (cdv : Value) (A : Around) (outer : List Env) (s : Shared) (H : Hp) (E : XK), RoomG k (A.deeper (envOfC qual scope s.heap.objs.size f cdv)) →
      DSs (cxOf (L2.CX P w) P w K mg base N qual scope f cdv A outer s H E) (fun c d _ H => E c d H) body m)
    (hm : ∀ ds dr, ds.length = ps.length → fx ds dr ≠ .bad → runD n m ds dr = fx ds dr) : FnOkG P w K mg base (L2.CX P w) (k + 1) f fd ps (spD K ps.length fx) := by
  obtain ⟨oc, od, dV, kV, doc, pm, an, cdv, ct, osl, rfl, lk, hcd, _, _⟩ := Fd.ex
  exact fn_ofG lk hcd Sc (fun _ _ _ _ h => h.1) fun A outer s H vs Q E hr h => ⟨_, hbody cdv A outer s H E hr, body_ok h hN (fun _ _ _ z => z) hm⟩
end Dy
end
section
set_option Elab.async false
set_option linter.all false
set_option maxRecDepth 100000
set_option maxHeartbeats 4000000
namespace Dy
open PySem PySem.Spec PyProof.Rows L2
variable [LawI] [Ph]
/-! ### comprehensions -/
def wipeE : Nat → List Sl → List Nat → List Sl
  | _, [], _ => []
  | k, sl :: r, vs => (if vs.contains k then .u else sl) :: wipeE (k + 1) r vs
def oldD : Sl → Sl
  | .d x => .d x
  | _ => .u
def backE : Nat → List Sl → List Sl → List Nat → List Sl
  | _, _, [], _ => []
  | k, old, sl :: r, vs => (if vs.contains k then oldD (old.getD k .u) else sl) :: backE (k + 1) old r vs
theorem wipeE_get (vs : List Nat) : ∀ (env : List Sl) (k i : Nat), (wipeE k env vs)[i]? = (env[i]?).map fun sl => if vs.contains (k + i) then .u else sl
  | [], _, _ => by simp [wipeE]
  | sl :: r, k, 0 => by simp [wipeE]
  | sl :: r, k, i + 1 => by
    rw [wipeE, List.getElem?_cons_succ, wipeE_get vs r (k + 1) i, List.getElem?_cons_succ, show k + 1 + i = k + (i + 1) by omega]
theorem wipeE_len (vs : List Nat) : ∀ (env : List Sl) (k : Nat), (wipeE k env vs).length = env.length
  | [], _ => rfl
  | sl :: r, k => by rw [wipeE, List.length_cons, wipeE_len vs r (k + 1), List.length_cons]
theorem backE_get (old : List Sl) (vs : List Nat) : ∀ (env : List Sl) (k i : Nat), (backE k old env vs)[i]? = (env[i]?).map fun sl => if vs.contains (k + i) then oldD (old.getD (k + i) .u) else sl
  | [], _, _ => by simp [backE]
  | sl :: r, k, 0 => by simp [backE]
  | sl :: r, k, i + 1 => by
    rw [backE, List.getElem?_cons_succ, backE_get old vs r (k + 1) i, List.getElem?_cons_succ, show k + 1 + i = k + (i + 1) by omega]
theorem backE_len (old : List Sl) (vs : List Nat) : ∀ (env : List Sl) (k : Nat), (backE k old env vs).length = env.length
  | [], _ => rfl
  | sl :: r, k => by rw [backE, List.length_cons, backE_len old vs r (k + 1), List.length_cons]
def wipeS (vs : List Nat) (s : S) : S := ⟨wipeE 0 s.env vs, s.dr⟩
def backS (vs : List Nat) (old s : S) : S := ⟨backE 0 old.env s.env vs, s.dr⟩
section
variable {X : Cx} {W : WX} {a b : Expr} {P F0 : Hp} {F F' : Fz} {σ σ' : L2.St} {H H' : Hp} {s s' : S} {Q : VK} {K : PySem.W.Frag} {v : V} {x : D} {T : Ends} {vs : List Nat}
theorem contains_iff {k : Nat} : vs.contains k = true ↔ k ∈ vs := List.contains_iff_mem
theorem getD_eq {i : Nat} (h : σ'[i]? = σ[i]?) : σ'.getD i none = σ.getD i none := by rw [List.getD_eq_getElem?_getD, List.getD_eq_getElem?_getD, h]
theorem StRel.wipe (st : StRel K P F0 F σ H s) (o : Out' vs σ σ') : StRel K P F0 F σ' H (wipeS vs s) := by
  have at_ : ∀ i sl, (wipeS vs s).env[i]? = some sl → sl = .u ∨ (i ∉ vs ∧ s.env[i]? = some sl) := fun i sl e => by
    have e : (wipeE 0 s.env vs)[i]? = some sl := e
    rw [wipeE_get] at e
    cases q : s.env[i]? with
    | none => rw [q] at e; cases e
    | some z =>
      rw [q] at e
      simp only [Option.map_some, Option.some.injEq, Nat.zero_add] at e
      split at e
      · exact .inl e.symm
      · rename_i h
        exact .inr ⟨fun z => h (contains_iff.mpr z), by rw [e]⟩
  refine ⟨st.fH, st.pH, st.new, ?_, fun i sl e => ?_, fun i j y z b hij ei ej => ?_, st.dr, st.tb, st.ph⟩
  · show (wipeE 0 s.env vs).length ≤ _
    rw [wipeE_len, o.1]
    exact st.len
  · rcases at_ i sl e with rfl | ⟨h1, h2⟩
    · trivial
    · rw [getD_eq (o.2 i h1)]
      exact st.slot i sl h2
  · rcases at_ i _ ei with h | ⟨h1, h2⟩
    · cases h
    · rcases at_ j _ ej with h | ⟨h3, h4⟩
      · cases h
      · rw [getD_eq (o.2 i h1), getD_eq (o.2 j h3)]
        exact st.sep i j y z b hij h2 h4
theorem StRel.back_at {i : Nat} {sl : Sl} {old : S} (e : (backS vs old s).env[i]? = some sl) : (i ∈ vs ∧ (sl = .u ∨ ∃ x, sl = .d x ∧ old.env[i]? = some (.d x))) ∨ (i ∉ vs ∧ s.env[i]? = some sl) := by
  have e : (backE 0 old.env s.env vs)[i]? = some sl := e
  rw [backE_get] at e
  cases q : s.env[i]? with
  | none => rw [q] at e; cases e
  | some z =>
    rw [q] at e
    simp only [Option.map_some, Option.some.injEq, Nat.zero_add] at e
    split at e
    · rename_i h
      refine .inl ⟨contains_iff.mp h, ?_⟩
      rw [List.getD_eq_getElem?_getD] at e
      cases q2 : old.env[i]? with
      | none =>
        rw [q2] at e
        exact .inl e.symm
      | some w =>
        rw [q2] at e
        cases w with
        | d x => exact .inr ⟨x, e.symm, rfl⟩
        | u => exact .inl e.symm
        | o x => exact .inl e.symm
    · rename_i h
      exact .inr ⟨fun z => h (contains_iff.mpr z), by rw [e]⟩
theorem StRel.backC {old : S} {H0 : Hp} {F1 : Fz} (st0 : StRel K P F0 F1 σ H0 old) (l : F1.le F) (st : StRel K P F0 F σ' H s) (o : Out' vs σ σ') : StRel K P F0 F σ H (backS vs old s) := by
  refine ⟨st.fH, st.pH, st.new, ?_, fun i sl e => ?_, fun i j y z b hij ei ej => ?_, st.dr, st.tb, st.ph⟩
  · show (backE 0 old.env s.env vs).length ≤ _
    rw [backE_len, ← o.1]
    exact st.len
  · rcases StRel.back_at e with ⟨h1, rfl | ⟨x, rfl, h2⟩⟩ | ⟨h1, h2⟩
    · trivial
    · obtain ⟨u, e1, r⟩ := st0.slot i _ h2
      exact ⟨u, e1, r.le l⟩
    · rw [← getD_eq (o.2 i h1)]
      exact st.slot i sl h2
  · rcases StRel.back_at ei with ⟨h1, h | ⟨x, h, _⟩⟩ | ⟨h1, h2⟩
    · cases h
    · cases h
    · rcases StRel.back_at ej with ⟨h3, h | ⟨x, h, _⟩⟩ | ⟨h3, h4⟩
      · cases h
      · cases h
      · rw [← getD_eq (o.2 i h1), ← getD_eq (o.2 j h3)]
        exact st.sep i j y z b hij h2 h4
theorem wipe_in {i : Nat} : ∀ {vs : List Nat}, i ∈ vs → i < σ.length → (L2.wipe σ vs)[i]? = some none
  | w :: vs, h, hl => by
    rw [L2.wipe]
    by_cases e : w = i
    · subst e
      rw [List.getElem?_set_self (by rw [wipe_length]; exact hl)]
    · rw [List.getElem?_set_ne e]
      exact wipe_in ((List.mem_cons.mp h).resolve_left (Ne.symm e)) hl
theorem wipe_eq {vs ws : List Nat} (o : Out' ws (L2.wipe σ vs) σ') (h : ∀ i ∈ ws, i ∈ vs) : L2.wipe σ' vs = L2.wipe σ vs := by
  have hl : σ'.length = σ.length := by rw [o.1, wipe_length]
  refine List.ext_getElem? fun i => ?_
  by_cases hi : i ∈ vs
  · by_cases hlt : i < σ.length
    · rw [wipe_in hi hlt, wipe_in hi (by omega)]
    · rw [List.getElem?_eq_none (by rw [wipe_length]; omega), List.getElem?_eq_none (by rw [wipe_length]; omega)]
  · rw [wipe_out hi, o.2 i (fun z => hi (h i z))]
theorem out_wipe : Out' vs σ (L2.wipe σ vs) := ⟨wipe_length σ vs, fun j hj => wipe_out hj⟩
theorem Out'.mono {ws : List Nat} (o : Out' ws σ σ') (h : ∀ i ∈ ws, i ∈ vs) : Out' vs σ σ' := ⟨o.1, fun j hj => o.2 j fun z => hj (h j z)⟩
theorem Out'.symm (o : Out' vs σ σ') : Out' vs σ' σ := ⟨o.1.symm, fun j hj => (o.2 j hj).symm⟩
/-- the tests of a comprehension -/
abbrev DTs (X : Cx) (W : WX) (ifs : List Expr) (m : M Bool) : Prop := PTs X ifs (tDT X.K W m)
def yesT : M Bool := fun s => .ok true s
theorem PTs.weaken {e : List Expr} {t t' : TT} (h : PTs X e t) (i : ∀ σ H Q, t' σ H Q → t σ H Q) : PTs X e t' := ⟨fun pins s σ H Q I q => h.run pins s σ H Q I (i σ H Q q)⟩
theorem dts_nil : DTs X W [] yesT := PTs.weaken pts_nil fun σ H Q ⟨P, F0, F, s, st, h⟩ => h F H (.refl F) st
theorem dts_one {c : Expr} {m : M Bool} (h : DT X W c m) : DTs X W [c] m := pts_one h
/-- no exception leaves a comprehension -/
abbrev W0 : WX := fun _ _ _ _ => False
theorem takes0 {A : WX → Prop} (h : A W0) : A W0 := h
def lcLoop (g : D → S → Option S) (t : M Bool) (me : M Sl) (vs : List Nat) : List D → List D → M (List D)
  | [], acc, s => .ok acc s
  | x :: xs, acc, s => match g x s with
    | none => .bad
    | some s1 => match t s1 with
      | .ok true s2 => match me s2 with
        | .ok y s3 => if acc.length < sizeLine then lcLoop g t me vs xs (acc ++ [y.val]) (wipeS vs s3) else .bad
        | _ => .bad
      | .ok false s2 => lcLoop g t me vs xs acc (wipeS vs s2)
      | _ => .bad
def lcD (mi : M (List D)) (g : D → S → Option S) (t : M Bool) (me : M Sl) (vs : List Nat) : M Sl := fun s => (mi s).bind fun items s1 => match lcLoop g t me vs items [] (wipeS vs s1) with
  | .ok acc s3 => .ok (.o (.list acc)) (backS vs s1 s3)
  | _ => .bad
/-- the turns of a comprehension -/
theorem lc_turns {items : List D} {J : It} {g : D → S → Option S} {t : M Bool} {me : M Sl} {vs ws : List Nat} {F1 : Fz} {H1 : Hp} {s1 : S} {Qd : V → Hp → Prop} (hv : ∀ i ∈ ws, i ∈ vs) (st1 : StRel K P F0 F1 σ H1 s1) (fd : Feeds K P F1 J items)
    (hend : ∀ acc s3 v F2 H2, lcLoop g t me vs items [] (wipeS vs s1) = .ok acc s3 → F1.le F2 → StRel K P F0 F2 σ H2 (backS vs s1 s3) → RV K P F2 σ H2 (backS vs s1 s3) v (.o (.list acc)) → Qd v H2)
    (hne : ∃ acc s3, lcLoop g t me vs items [] (wipeS vs s1) = .ok acc s3) (Dd : Addr) (hD : H1 Dd = none) :
    ∃ W2 : Nat → Nat → Hp → Prop, (∃ m, W2 0 m (upd H1 Dd (.lst []))) ∧ ∀ i m H, W2 i m H → (J.stop i H ∧ Qd (.ref Dd) H) ∨ (J.go i H ∧ ∃ Nx : Hp → Prop, (∀ H', Nx H' → ∃ m', m' < m ∧ W2 (i + 1) m' H') ∧ ∀ x H', J.yld i H x H' → tDG K ws g x (L2.wipe σ vs) H' fun σ2 H2 => L2.wipe σ2 vs = L2.wipe σ vs ∧ tDT K W0 t σ2 H2 fun b H3 =>
      if b = true then tD K W0 me σ2 H3 fun y H4 => ∃ acc, H4 Dd = some (.lst acc) ∧ acc.length < sizeLine ∧ Nx (upd H4 Dd (.lst (acc ++ [y]))) else Nx H3) := by
  obtain ⟨accE, sE, eE⟩ := hne
  -- the new list, kept aside
  obtain ⟨st2, _⟩ := st1.alloc_o (o := .lst []) (x := .list []) hD (.lst .nil)
  have fr0 : F1.hp Dd = none := st1.none_F hD
  have pr0 : P Dd = none := st1.none_P hD
  have dr0 := st1.dr_ne hD
  have st3 := st2.wipe (vs := vs) out_wipe
  refine ⟨fun i n H2 => n = items.length - i ∧ i ≤ items.length ∧ ∃ F2 s2 acc av, F1.le F2 ∧ StRel K P F0 F2 (L2.wipe σ vs) H2 s2 ∧ Own K P F2 H2 Dd (.list acc) ∧ H2 Dd = some (.lst av) ∧ RpAll K F2 av acc ∧
    (∀ i y, s2.env[i]? = some (.o y) → (L2.wipe σ vs).getD i none ≠ some (.ref Dd)) ∧ lcLoop g t me vs items [] (wipeS vs s1) = lcLoop g t me vs (items.drop i) acc s2, ⟨_, rfl, Nat.zero_le _, F1, _, [], [], .refl _, st3, ⟨fr0, pr0, dr0, _, upd_same, .lst .nil⟩, upd_same, .nil, ?_, rfl⟩, ?_⟩
  · intro i y ey
    exact (st1.wipe (vs := vs) (σ' := L2.wipe σ vs) out_wipe).own_ne hD i y ey
  rintro i n H2 ⟨rfl, hi, F2, s2, acc, av, l2, st4, ow, eD, rA, ne, eq⟩
  obtain ⟨f1, f2⟩ := fd i F2 H2 l2 st4.fH st4.pH
  by_cases hlt : i < items.length
  · obtain ⟨go, yl⟩ := f2 _ (List.getElem?_eq_getElem hlt)
    refine .inr ⟨go, fun H3 => ∃ F3 s3 acc av, F1.le F3 ∧ StRel K P F0 F3 (L2.wipe σ vs) H3 s3 ∧ Own K P F3 H3 Dd (.list acc) ∧ H3 Dd = some (.lst av) ∧ RpAll K F3 av acc ∧
      (∀ i y, s3.env[i]? = some (.o y) → (L2.wipe σ vs).getD i none ≠ some (.ref Dd)) ∧ lcLoop g t me vs items [] (wipeS vs s1) = lcLoop g t me vs (items.drop (i + 1)) acc s3, fun H3 h3 => ⟨_, by omega, rfl, hlt, h3⟩, fun v H3 y => ?_⟩
    have stA := ow.aside st4 eD ne
    obtain ⟨F3, l3, st5, rp⟩ := (yl v H3 y).st stA
    rw [List.drop_eq_getElem_cons hlt, lcLoop] at eq
    cases e3 : g items[i] s2 with
    | none =>
      simp only [e3] at eq
      rw [eq] at eE
      cases eE
    | some s3 =>
      simp only [e3] at eq
      refine ⟨_, _, F3, s2, items[i], s3, st5, rp, e3, fun σ4 F4 H4 l4 st6 o4 => ⟨wipe_eq o4 hv, _, _, F4, s3, st6, ?_⟩⟩
      have o5 : Out' vs σ4 (L2.wipe σ vs) := (o4.mono hv).symm
      cases e4 : t s3 with
      | bad =>
        simp only [e4] at eq
        rw [eq] at eE
        cases eE
      | exc c s4 =>
        simp only [e4] at eq
        rw [eq] at eE
        cases eE
      | ok b s4 =>
        simp only [e4] at eq
        intro F5 H5 l5 st7
        have l25 := (l3.trans l4).trans l5
        cases b with
        | false =>
          rw [if_neg (by decide)]
          obtain ⟨st8, ow8, eD8, ne8⟩ := StRel.back st4 ow eD l25 (st7.wipe o5)
          exact ⟨F5, wipeS vs s4, acc, av, l2.trans l25, st8, ow8, eD8, rA.le l25, ne8, eq⟩
        | true =>
          rw [if_pos rfl]
          refine ⟨_, _, F5, s4, st7, ?_⟩
          cases e5 : me s4 with
          | bad =>
            simp only [e5] at eq
            rw [eq] at eE
            cases eE
          | exc c s5 =>
            simp only [e5] at eq
            rw [eq] at eE
            cases eE
          | ok yv s5 =>
            simp only [e5] at eq
            intro v2 F6 H6 l6 st9 rv
            by_cases hz : acc.length < sizeLine
            · rw [if_pos hz] at eq
              obtain ⟨F7, l7, st10, rp2⟩ := rv.freeze st9
              have l27 := (l25.trans l6).trans l7
              obtain ⟨st8, ow8, eD8, ne8⟩ := StRel.back st4 ow eD l27 (st10.wipe o5)
              refine ⟨av, eD8, by rw [rA.length]; exact hz, F7, wipeS vs s5, acc ++ [yv.val], av ++ [v2], l2.trans l27, ?_, ?_, upd_same, (rA.le l27).append (.cons rp2 .nil), ne8, eq⟩
              · -- the list grows
                refine ⟨fun b u q => ?_, fun b u q => ?_, st8.new, st8.len, fun j sl ej => ?_, st8.sep, ?_, st8.tb.write eD8 trivial, st8.ph⟩
                · have hb : b ≠ Dd := fun z => by rw [z, ow8.fr] at q; cases q
                  rw [upd_ne hb]
                  exact st8.fH b u q
                · have hb : b ≠ Dd := fun z => by rw [z, ow8.pr] at q; cases q
                  rw [upd_ne hb]
                  exact st8.pH b u q
                · have q := st8.slot j sl ej
                  cases sl with
                  | u => trivial
                  | d x => exact q
                  | o x =>
                    obtain ⟨b, e1, w⟩ := q
                    have hb : b ≠ Dd := fun z => ne8 j x ej (by rw [e1, z])
                    obtain ⟨ob, e2, r2⟩ := w.ob
                    exact ⟨b, e1, w.fr, w.pr, w.dr, ob, by rw [upd_ne hb]; exact e2, r2⟩
                · have q := st8.dr
                  cases hst : (wipeS vs s5).dr with
                  | none =>
                    rw [hst] at q
                    exact q
                  | some r =>
                    rw [hst] at q
                    obtain ⟨d, w, c, q1, q2, q3, q4, q5⟩ := q
                    obtain ⟨nd, nw⟩ := ow8.dr d w q1
                    exact ⟨d, w, c, q1, q2, by rw [upd_ne nd.symm]; exact q3, by rw [upd_ne nw.symm]; exact q4, q5⟩
              · exact ⟨ow8.fr, ow8.pr, ow8.dr, _, upd_same, .lst ((rA.le l27).append (.cons rp2 .nil))⟩
            · rw [if_neg hz] at eq
              rw [eq] at eE
              cases eE
  · refine .inl ⟨f1 (by omega), ?_⟩
    rw [List.drop_of_length_le (by omega), lcLoop] at eq
    have stB := StRel.backC (vs := vs) st1 l2 st4 out_wipe
    refine hend acc s2 _ F2 H2 eq l2 stB ⟨Dd, rfl, ow, fun j y ej => ?_⟩
    rcases StRel.back_at ej with ⟨_, z | ⟨_, z, _⟩⟩ | ⟨h1, h2⟩
    · cases z
    · cases z
    · rw [← getD_eq (wipe_out h1)]
      exact ne j y h2
/-- the reading of a comprehension -/
theorem lc_ok {mi : M (List D)} {g : D → S → Option S} {t : M Bool} {me : M Sl} {vs ws : List Nat} (hv : ∀ i ∈ ws, i ∈ vs) {k : Sl → S → Out Sl} (st : StRel K P F0 F σ H s) (h : Res K W P F0 F σ ((lcD mi g t me vs s).bind k) Q) :
    tLc (tDI K W mi) (tDG K ws g) (tDT K W0 t) (tD K W0 me) vs σ H fun v H1 => ∃ F1 s1 r, F.le F1 ∧ StRel K P F0 F1 σ H1 s1 ∧ RV K P F1 σ H1 s1 v r ∧ Res K W P F0 F1 σ (k r s1) Q := by
  refine ⟨P, F0, F, s, st, ?_⟩
  unfold lcD at h
  cases e : mi s with
  | bad =>
    rw [e] at h
    exact h
  | exc c s1 =>
    rw [e] at h
    exact h
  | ok items s1 =>
    rw [e] at h
    intro J F1 H1 l1 st1 fd Dd hD
    have h : Res K W P F0 F σ ((match lcLoop g t me vs items [] (wipeS vs s1) with
      | .ok acc s3 => Out.ok (Sl.o (.list acc)) (backS vs s1 s3)
      | _ => .bad).bind k) Q := h
    cases eL : lcLoop g t me vs items [] (wipeS vs s1) with
    | bad => rw [eL] at h; exact h.elim
    | exc c s3 => rw [eL] at h; exact h.elim
    | ok acc s3 =>
      rw [eL] at h
      refine lc_turns (Qd := fun v H1 => ∃ F1 s1 r, F.le F1 ∧ StRel K P F0 F1 σ H1 s1 ∧ RV K P F1 σ H1 s1 v r ∧ Res K W P F0 F1 σ (k r s1) Q) hv st1 fd (fun acc' s3' v F2 H2 e2 l2 st2 rv => ?_) ⟨acc, s3, eL⟩ Dd hD
      rw [eL] at e2
      cases e2
      exact ⟨F2, _, _, l1.trans l2, st2, rv, Res.le (l1.trans l2) h⟩
theorem Out.bind_ret {α : Type} (o : Out α) : o.bind (fun a s => Out.ok a s) = o := by cases o <;> rfl
theorem d_lc {elt tg iter : Expr} {ifs : List Expr} {scope : Scope} {own : List (Str × Nat)} {pos : Pos} {mi : M (List D)} {g : D → S → Option S} {t : M Bool} {me : M Sl} {ws : List Nat} (hc : X.calm = true) (hN : X.N.Nodup) (hi : DI X W tg iter mi) (ok : BlkOk X.N X.env.scope scope own)
    (hg : ∀ (s : Shared) (H : Hp) (C : Addr) (cl : List (Str × Addr)) (fp : List Addr), DG (X.blk s H scope (compEnvC scope cl C X.env) fp) tg ws g) (ht : ∀ (s : Shared) (H : Hp) (C : Addr) (cl : List (Str × Addr)) (fp : List Addr), DTs (X.blk s H scope (compEnvC scope cl C X.env) fp) W0 ifs t)
    (he : ∀ (s : Shared) (H : Hp) (C : Addr) (cl : List (Str × Addr)) (fp : List Addr), DE (X.blk s H scope (compEnvC scope cl C X.env) fp) W0 elt me) (hv : ∀ i ∈ ws, i ∈ own.map (·.2)) (hs : ∀ x, foldedSetIterable iter X.env x = pure x := by intro _; rfl) :
    DE X W (.ListComp elt [⟨tg, iter, ifs, 0⟩] scope pos) (lcD mi g t me (own.map (·.2))) := by
  refine PE.weaken (pe_lc (g := tDG X.K ws g) (tt := tDT X.K W0 t) (te := tD X.K W0 me) hc hN hi ok hg ht he hs) ?_
  rintro σ H Q ⟨P, F0, F, s, st, q⟩
  refine tLc_mono (lc_ok hv (k := fun r s => .ok r s) st (by rw [Out.bind_ret]; exact q)) ?_
  rintro v H1 ⟨F1, s1, r, l1, st1, rv, q1⟩
  exact q1 v F1 H1 (.refl _) st1 rv
where
  tLc_mono {K : PySem.W.Frag} {m : M (List D)} {g : TG} {tt : TT} {te : TE} {vs : List Nat} {σ : L2.St} {H : Hp} {Q Q' : VK} (h : tLc (tDI K W m) g tt te vs σ H Q) (mono : ∀ v H, Q v H → Q' v H) : tLc (tDI K W m) g tt te vs σ H Q' := by
    obtain ⟨P, F0, F, s, st, r⟩ := h
    refine ⟨P, F0, F, s, st, ?_⟩
    cases e : m s with
    | bad =>
      rw [e] at r
      exact r
    | exc c s1 =>
      rw [e] at r
      exact r
    | ok items s1 =>
      rw [e] at r
      intro J F' H' l st' fd D hD
      obtain ⟨W2, w0, turn⟩ := r J F' H' l st' fd D hD
      exact ⟨W2, w0, fun i n H2 w => (turn i n H2 w).imp (fun z => ⟨z.1, mono _ _ z.2⟩) id⟩
theorem ds_setLc {i : Nat} {y : Str} {py : Pos} {elt tg iter : Expr} {ifs : List Expr} {scope : Scope} {own : List (Str × Nat)} {pos spos : Pos} {mi : M (List D)} {g : D → S → Option S} {t : M Bool} {me : M Sl} {ws : List Nat} (hc : X.calm = true) (hN : X.N.Nodup) (hy : X.N[i]? = some y) (hyl : X.env.scope.names.lookup y = some .local)
    (hsw : swapsWith (.ListComp elt [⟨tg, iter, ifs, 0⟩] scope pos) (some (.Name y py)) spos.line X.env = pure true) (hi : DI X W tg iter mi) (ok : BlkOk X.N X.env.scope scope own)
    (hg : ∀ (s : Shared) (H : Hp) (C : Addr) (cl : List (Str × Addr)) (fp : List Addr), DG (X.blk s H scope (compEnvC scope cl C X.env) fp) tg ws g) (ht : ∀ (s : Shared) (H : Hp) (C : Addr) (cl : List (Str × Addr)) (fp : List Addr), DTs (X.blk s H scope (compEnvC scope cl C X.env) fp) W0 ifs t)
    (he : ∀ (s : Shared) (H : Hp) (C : Addr) (cl : List (Str × Addr)) (fp : List Addr), DE (X.blk s H scope (compEnvC scope cl C X.env) fp) W0 elt me) (hv : ∀ i ∈ ws, i ∈ own.map (·.2)) (hs : ∀ x, foldedSetIterable iter X.env x = pure x := by intro _; rfl) :
    DS X W (.Assign [.Name y py] (.ListComp elt [⟨tg, iter, ifs, 0⟩] scope pos) spos) (setS i (lcD mi g t me (own.map (·.2)))) := by
  refine PS.weaken (ps_setLc (g := tDG X.K ws g) (tt := tDT X.K W0 t) (te := tD X.K W0 me) hc hN hy hyl hsw hi ok hg ht he hs) ?_
  rintro T σ H ⟨P, F0, F, s, st, q⟩
  have h2 : Res X.K W P F0 F σ (lcD mi g t me (own.map (·.2)) s) (fun v H1 => T.nx (σ.set i (some v)) H1) := by
    unfold setS at q
    cases e : lcD mi g t me (own.map (·.2)) s with
    | bad =>
      rw [e] at q
      exact q
    | exc c s1 =>
      rw [e] at q
      exact fun F' H' l st' => q σ F' H' l st'
    | ok r s1 =>
      rw [e] at q
      intro v F1 H1 l1 st1 rv
      have q1 : ResS X.K W P F0 F (setE i r s1) T := q
      unfold setE at q1
      split at q1
      · rename_i hh
        exact q1 _ F1 H1 l1 (st1.set hh rv)
      · exact q1.elim
  refine d_lc.tLc_mono (lc_ok hv (k := fun r s => .ok r s) st (by rw [Out.bind_ret]; exact h2)) ?_
  rintro v H1 ⟨F1, s1, r, l1, st1, rv, q1⟩
  exact q1 v F1 H1 (.refl _) st1 rv
end
end Dy
end
section
set_option Elab.async false
set_option linter.all false
set_option maxRecDepth 100000
set_option maxHeartbeats 4000000
namespace Dy
open PySem PySem.Spec PyProof.Rows L2
variable [LawI] [Ph]
/-! ### data read off the heap -/
section
variable {X : Cx} {W : WX} {P F0 : Hp} {F F' : Fz} {σ : L2.St} {H H' : Hp} {s : S} {Q : VK} {K : PySem.W.Frag} {v : V} {x : D} {pins : List (Addr × Obj)} {sh : Shared}
mutual
theorem Rp.dp (l : Sub F.hp H) : ∀ {v : V} {d : D}, d.plain = true → Rp K F v d → Dp K H v d
  | _, _, _, .non => .non
  | _, _, _, .bl b => .bl b
  | _, _, _, .int i => .int i
  | _, _, _, .str x => .str x
  | _, .list ds, h, .lst q r => .lst (.inl (rd_sub l q)) (RpAll.dp l (by simpa [PyData.plain] using h) r)
  | _, .tuple ds, h, .tup q r => .tup (sqT_sub l q) (RpAll.dp l (by simpa [PyData.plain] using h) r)
theorem RpAll.dp (l : Sub F.hp H) : ∀ {v : List V} {d : List D}, PyData.plainAll d = true → RpAll K F v d → DpAll K H v d
  | _, _, _, .nil => .nil
  | _, _ :: _, h, .cons q r => by
    have h' := (Bool.and_eq_true_iff.mp (show (PyData.plain _ && PyData.plainAll _) = true by simpa [PyData.plainAll] using h))
    exact .cons (Rp.dp l h'.1 q) (RpAll.dp l h'.2 r)
end
theorem Bor.dp (l : Sub F.hp H) {d : D} (hp : d.plain = true) (h : Bor K F H v d) : Dp K H v d := by
  rcases h with h | ⟨a, o, rfl, hf, e, h⟩
  · exact h.dp l hp
  · cases h with
    | lst r => exact .lst (SqL.of e) (r.dp l (by simpa [PyData.plain] using hp))
    | dic r => simp [PyData.plain] at hp
    | dit r => simp [PyData.plain] at hp
theorem Bor.reads {d : D} {u : Value} (I : Inv X pins σ H sh) (l : Sub F.hp H) (hp : d.plain = true) (h : Bor X.K F H v d) (r : RelV v u) : ∃ as, Reads sh.heap u d as := Dp.reads I d v u (h.dp l hp) r
def okD (d : D) : Bool := d.plain && decide (d.depth ≤ 60)
theorem okD.pl {d : D} (h : okD d = true) : d.plain = true := (Bool.and_eq_true_iff.mp h).1
theorem okD.dep {d : D} (h : okD d = true) : d.depth ≤ 60 := of_decide_eq_true (Bool.and_eq_true_iff.mp h).2
/-! ### == and != -/
def eqD (x y : D) : Option Sl := if okD x = true ∧ okD y = true then some (.d (.bool (PyData.eqv x y))) else none
def neD (x y : D) : Option Sl := if okD x = true ∧ okD y = true then some (.d (.bool (!PyData.eqv x y))) else none
theorem o_eq (hu : X.A.units + 64 < cLine) : OpR X (compareOp .Eq) (rD X.K eqD) := by
  rintro pins s σ H x y v u Q I rx ry ⟨P, F0, F, σ', st, dx, dy, r, sr, b1, b2, e, q⟩
  unfold eqD at e
  split at e
  · rename_i h
    cases e
    obtain ⟨as, r1⟩ := b1.reads I sr.fH (okD.pl h.1) rx
    obtain ⟨bs, r2⟩ := b2.reads I sr.fH (okD.pl h.2) ry
    have := okD.dep h.1
    refine SeqAt.eq_plain r1 r2 (okD.pl h.1) (okD.pl h.2) (by omega) ⟨.bl _, H, I, rfl, q _ F H (.refl F) sr (.bl _)⟩
  · cases e
theorem o_ne (hu : X.A.units + 64 < cLine) : OpR X (compareOp .NotEq) (rD X.K neD) := by
  rintro pins s σ H x y v u Q I rx ry ⟨P, F0, F, σ', st, dx, dy, r, sr, b1, b2, e, q⟩
  unfold neD at e
  split at e
  · rename_i h
    cases e
    obtain ⟨as, r1⟩ := b1.reads I sr.fH (okD.pl h.1) rx
    obtain ⟨bs, r2⟩ := b2.reads I sr.fH (okD.pl h.2) ry
    have := okD.dep h.1
    refine SeqAt.ne_plain r1 r2 (okD.pl h.1) (okD.pl h.2) (by omega) ⟨.bl _, H, I, rfl, q _ F H (.refl F) sr (.bl _)⟩
  · cases e
/-! ### <, <=, >, >= -/
def noneD : D → Bool
  | .none => true
  | _ => false
theorem noneD_ne {x : D} (h : noneD x = false) : x ≠ .none := fun z => by rw [z] at h; cases h
def ltD (x y : D) : Option Sl := match x, y with
  | .int i, .int j => some (.d (.bool (decide (i < j))))
  | .str i, .str j => some (.d (.bool (decide (i.cps.toList < j.cps.toList))))
  | x, y => if PySem.W.alike x y = true ∧ okD x = true ∧ okD y = true ∧ noneD x = false then some (.d (.bool (PySem.W.dataLt x y))) else none
def intD (f : Int → Int → Bool) (x y : D) : Option Sl := match x, y with
  | .int i, .int j => some (.d (.bool (f i j)))
  | _, _ => none
theorem o_int {op : CmpOp} {f : Int → Int → Bool} (h : OpR X (compareOp op) (rI0 fun i j => .bl (f i j))) : OpR X (compareOp op) (rD X.K (intD f)) := by
  rintro pins s σ H x y v u Q I rx ry ⟨P, F0, F, σ', st, dx, dy, r, sr, b1, b2, e, q⟩
  unfold intD at e
  split at e
  · cases e
    refine h pins s σ H x y v u Q I rx ry ⟨_, _, b1.int, b2.int, q _ F H (.refl F) sr (.bl _)⟩
  · cases e
theorem o_le : OpR X (compareOp .LtE) (rD X.K (intD fun i j => decide (i ≤ j))) := o_int op_le
theorem o_gt : OpR X (compareOp .Gt) (rD X.K (intD fun i j => decide (j < i))) := o_int op_gt
theorem o_ge : OpR X (compareOp .GtE) (rD X.K (intD fun i j => decide (j ≤ i))) := o_int op_ge
theorem o_lt (hu : X.A.units + 64 < cLine) : OpR X (compareOp .Lt) (rD X.K ltD) := by
  rintro pins s σ H x y v u Q I rx ry ⟨P, F0, F, σ', st, dx, dy, r, sr, b1, b2, e, q⟩
  unfold ltD at e
  split at e
  · cases e
    exact op_lt pins s σ H x y v u Q I rx ry ⟨_, _, b1.int, b2.int, q _ F H (.refl F) sr (.bl _)⟩
  · cases e
    exact op_lt_str pins s σ H x y v u Q I rx ry ⟨_, _, b1.str, b2.str, q _ F H (.refl F) sr (.bl _)⟩
  · split at e
    · rename_i h
      cases e
      obtain ⟨as, r1⟩ := b1.reads I sr.fH (okD.pl h.2.1) rx
      obtain ⟨bs, r2⟩ := b2.reads I sr.fH (okD.pl h.2.2.1) ry
      have := okD.dep h.2.1
      exact PySem.W.rcLt_alike _ _ X.A s v u as bs r1 r2 h.1 (noneD_ne h.2.2.2) (by omega) X.prog X.w X.xe _ ⟨.bl _, H, I, rfl, q _ F H (.refl F) sr (.bl _)⟩
    · cases e
/-! ### in, not in -/
def memD (x c : D) : Option Bool := match c with
  | .list ys => if PyData.plainAll ys = true ∧ okD x = true then some (ys.any fun y => PyData.eqv y x) else none
  | .tuple ys => if PyData.plainAll ys = true ∧ okD x = true then some (ys.any fun y => PyData.eqv y x) else none
  | .str z => match x with
    | .str y => match y.cps.toList with
      | [c] => some (decide (c ∈ z.cps.toList))
      | _ => none
    | _ => none
  | _ => none
def inD (x c : D) : Option Sl := (memD x c).map fun b => .d (.bool b)
def notInD (x c : D) : Option Sl := (memD x c).map fun b => .d (.bool !b)
theorem str_one {y : Str} {c : Nat} (h : y.cps.toList = [c]) : y = ⟨#[c]⟩ := by
  obtain ⟨a⟩ := y
  have h1 : a.toList = [c] := h
  have h2 : a = #[c] := by
    apply Array.toList_inj.mp
    rw [h1]
  rw [h2]
theorem o_in (hu : X.A.units + 64 < cLine) : OpR X (compareOp .In) (rD X.K inD) := by
  rintro pins s σ H x y v u Q I rx ry ⟨P, F0, F, σ', st, dx, dy, r, sr, b1, b2, e, q⟩
  unfold inD memD at e
  split at e
  · split at e
    · rename_i h
      cases e
      obtain ⟨as, r1⟩ := b1.reads I sr.fH (okD.pl h.2) rx
      obtain ⟨bs, r2⟩ := b2.reads I sr.fH (by simpa [PyData.plain] using h.1) ry
      have := okD.dep h.2
      exact SeqAt.in_list_data r2 r1 h.1 (okD.pl h.2) (by omega) ⟨.bl _, H, I, rfl, q _ F H (.refl F) sr (.bl _)⟩
    · cases e
  · split at e
    · rename_i h
      cases e
      obtain ⟨as, r1⟩ := b1.reads I sr.fH (okD.pl h.2) rx
      obtain ⟨bs, r2⟩ := b2.reads I sr.fH (by simpa [PyData.plain] using h.1) ry
      have := okD.dep h.2
      exact SeqAt.in_tuple_data r2 r1 h.1 (okD.pl h.2) (by omega) ⟨.bl _, H, I, rfl, q _ F H (.refl F) sr (.bl _)⟩
    · cases e
  · split at e
    · split at e
      · rename_i c hc
        cases e
        have e2 := b1.str
        rw [str_one hc] at e2
        exact op_in_sign pins s σ H x y v u Q I rx ry ⟨c, _, e2, b2.str, q _ F H (.refl F) sr (.bl _)⟩
      · cases e
    · cases e
  · cases e
theorem o_notIn (hu : X.A.units + 64 < cLine) : OpR X (compareOp .NotIn) (rD X.K notInD) := by
  rintro pins s σ H x y v u Q I rx ry ⟨P, F0, F, σ', st, dx, dy, r, sr, b1, b2, e, q⟩
  unfold notInD memD at e
  split at e
  · split at e
    · rename_i h
      cases e
      obtain ⟨as, r1⟩ := b1.reads I sr.fH (okD.pl h.2) rx
      obtain ⟨bs, r2⟩ := b2.reads I sr.fH (by simpa [PyData.plain] using h.1) ry
      have := okD.dep h.2
      exact SeqAt.notIn_list_data r2 r1 h.1 (okD.pl h.2) (by omega) ⟨.bl _, H, I, rfl, q _ F H (.refl F) sr (.bl _)⟩
    · cases e
  · split at e
    · rename_i h
      cases e
      obtain ⟨as, r1⟩ := b1.reads I sr.fH (okD.pl h.2) rx
      obtain ⟨bs, r2⟩ := b2.reads I sr.fH (by simpa [PyData.plain] using h.1) ry
      have := okD.dep h.2
      exact SeqAt.notIn_tuple_data r2 r1 h.1 (okD.pl h.2) (by omega) ⟨.bl _, H, I, rfl, q _ F H (.refl F) sr (.bl _)⟩
    · cases e
  · split at e
    · split at e
      · rename_i c hc
        cases e
        have e2 := b1.str
        rw [str_one hc] at e2
        exact op_notIn_sign pins s σ H x y v u Q I rx ry ⟨c, _, e2, b2.str, q _ F H (.refl F) sr (.bl _)⟩
      · cases e
    · cases e
  · cases e
/-! ### + - * // % ** -/
def addD (x y : D) : Option Sl := match x, y with
  | .int i, .int j => some (.d (.int (i + j)))
  | .str i, .str j => if i.length + j.length ≤ sizeLine then some (.d (.str (i ++ j))) else none
  | .tuple i, .tuple j => if i.length + j.length ≤ sizeLine then some (.d (.tuple (i ++ j))) else none
  | .list i, .list j => if i.length + j.length ≤ sizeLine then some (.o (.list (i ++ j))) else none
  | _, _ => none
def arD (C : Int → Int → Bool) (f : Int → Int → Int) (x y : D) : Option Sl := match x, y with
  | .int i, .int j => if C i j = true then some (.d (.int (f i j))) else none
  | _, _ => none
theorem o_ar {op : Operator} {C : Int → Int → Prop} {C' : Int → Int → Bool} {f : Int → Int → Int} (h : OpR X (binaryOp op) (rI C fun i j => .int (f i j))) (hC : ∀ i j, C' i j = true → C i j) : OpR X (binaryOp op) (rD X.K (arD C' f)) := by
  rintro pins s σ H x y v u Q I rx ry ⟨P, F0, F, σ', st, dx, dy, r, sr, b1, b2, e, q⟩
  unfold arD at e
  split at e
  · split at e
    · rename_i hc
      cases e
      refine h pins s σ H x y v u Q I rx ry ⟨_, _, b1.int, b2.int, hC _ _ hc, q _ F H (.refl F) sr (.int _)⟩
    · cases e
  · cases e
def subD : D → D → Option Sl := arD (fun _ _ => true) fun i j => i - j
def mulD : D → D → Option Sl := arD (fun i j => decide (i.natAbs.log2 + j.natAbs.log2 < 1000000)) fun i j => i * j
def modD : D → D → Option Sl := arD (fun _ j => decide (0 < j)) fun i j => i % j
def fdivD : D → D → Option Sl := arD (fun _ j => decide (0 < j ∧ j.natAbs.log2 < 9000)) fun i j => i / j
def powD : D → D → Option Sl := arD (fun i j => decide (0 ≤ j ∧ j ≤ 1000000 ∧ i.natAbs < 2 ^ 64)) fun i j => i ^ j.toNat
theorem o_sub : OpR X (binaryOp .Sub) (rD X.K subD) := by
  rintro pins s σ H x y v u Q I rx ry ⟨P, F0, F, σ', st, dx, dy, r, sr, b1, b2, e, q⟩
  unfold subD arD at e
  split at e
  · rw [if_pos rfl] at e
    cases e
    refine op_sub pins s σ H x y v u Q I rx ry ⟨_, _, b1.int, b2.int, q _ F H (.refl F) sr (.int _)⟩
  · cases e
theorem o_mul : OpR X (binaryOp .Mult) (rD X.K mulD) := o_ar op_mulW fun i j h => (show i.natAbs.log2 + j.natAbs.log2 < 1000000 from of_decide_eq_true h)
theorem o_mod : OpR X (binaryOp .Mod) (rD X.K modD) := o_ar op_mod fun i j h => of_decide_eq_true h
theorem o_fdiv : OpR X (binaryOp .FloorDiv) (rD X.K fdivD) := o_ar op_fdivW fun i j h => (show 0 < j ∧ j.natAbs.log2 < 9000 from of_decide_eq_true h)
theorem o_pow : OpR X (binaryOp .Pow) (rD X.K powD) := o_ar op_pow fun i j h => (show 0 ≤ j ∧ j ≤ 1000000 ∧ i.natAbs < 2 ^ 64 from of_decide_eq_true h)
theorem o_add : OpR X (binaryOp .Add) (rD X.K addD) := by
  rintro pins s σ H x y v u Q I rx ry ⟨P, F0, F, σ', st, dx, dy, r, sr, b1, b2, e, q⟩
  unfold addD at e
  split at e
  · cases e
    exact op_add pins s σ H x y v u Q I rx ry ⟨_, _, b1.int, b2.int, q _ F H (.refl F) sr (.int _)⟩
  · split at e
    · rename_i hz
      cases e
      exact op_add_str pins s σ H x y v u Q I rx ry ⟨_, _, b1.str, b2.str, hz, q _ F H (.refl F) sr (.str _)⟩
    · cases e
  · split at e
    · rename_i hz
      cases e
      obtain ⟨a, xs, e1, h1, ra⟩ := b1.tuple sr.fH
      obtain ⟨b, ys, e2, h2, rb⟩ := b2.tuple sr.fH
      have la := ra.length
      have lb := rb.length
      refine op_catA pins s σ H x y v u Q I rx ry ⟨a, b, xs, ys, e1, e2, h1, h2, by omega, fun hx => ?_, fun hx hy => ?_, fun hx hy p hp => ?_⟩
      · subst hx
        cases ra
        refine q (.ref b) F H (.refl F) sr ?_
        have z := b2
        rcases z with z | ⟨_, _, _, _, _, z⟩
        · rw [e2] at z
          exact z
        · cases z
      · subst hy
        cases rb
        refine q (.ref a) F H (.refl F) sr ?_
        rw [List.append_nil]
        have z := b1
        rcases z with z | ⟨_, _, _, _, _, z⟩
        · rw [e1] at z
          exact z
        · cases z
      · obtain ⟨l2, st2⟩ := sr.alloc_d (o := .tup (xs ++ ys)) hp
        exact q (.ref p) _ _ l2 st2 (.tup (SqT.of Fz.put_same) ((ra.append rb).le l2))
    · cases e
  · split at e
    · rename_i hz
      cases e
      obtain ⟨a, xs, e1, h1, ra⟩ := b1.list sr.fH
      obtain ⟨b, ys, e2, h2, rb⟩ := b2.list sr.fH
      have la := ra.length
      have lb := rb.length
      subst e1
      subst e2
      cases rx
      cases ry
      obtain ⟨z, its, n, r, e⟩ := h1.ok I.hok
      obtain ⟨z2, its2, n2, r2, e2⟩ := h2.ok I.hok
      have hl := r.length
      have hl2 := r2.length
      refine PySem.P.add_list e e2 ?_ (by rw [List.size_toArray, List.size_toArray]; omega)
      have ea : its.toArray ++ its2.toArray = (its ++ its2).toArray := by simp
      rw [ea]
      obtain ⟨st2, rv⟩ := sr.alloc_o (o := .lst (xs ++ ys)) I.fresh (.lst (ra.append rb))
      exact ⟨.ref _, _, I.lnew (t' := s.toks) (r.append r2) (by rw [List.length_append]; omega), rfl, q _ F _ (.refl F) st2 rv⟩
    · cases e
  · cases e
end
end Dy
end
section
set_option Elab.async false
set_option linter.all false
set_option maxRecDepth 100000
set_option maxHeartbeats 4000000
namespace Dy
open PySem PySem.Spec PyProof.Rows L2
variable [LawI] [Ph]
section
variable {X : Cx} {W : WX} {a b : Expr} {oa ob : Opd} {P F0 : Hp} {F F' : Fz} {σ : L2.St} {H H' : Hp} {s : S} {Q : VK} {K : PySem.W.Frag} {v : V} {x : D} {pins : List (Addr × Obj)} {sh : Shared}
/-! ### items by place -/
theorem RpAll.atI {vs : List V} {ds : List D} {i : Int} {d : D} (r : RpAll K F vs ds) (e : L2.atI ds i = some d) : ∃ v, L2.atI vs i = some v ∧ Rp K F v d := by
  unfold L2.atI at e ⊢
  rw [r.length]
  cases h : ixN ds.length i with
  | none => rw [h] at e; cases e
  | some j =>
    rw [h] at e
    exact r.get (i := j) e
def ixD (x y : D) : Option Sl := match y with
  | .int i => match x with
    | .list xs => (L2.atI xs i).map .d
    | .tuple xs => (L2.atI xs i).map .d
    | .str z => if z.length ≤ sizeLine then (L2.atI z.cps.toList i).map fun c => .d (.str ⟨#[c]⟩) else none
    | _ => none
  | _ => none
theorem map_d {o : Option D} {r : Sl} (h : o.map Sl.d = some r) : ∃ d, o = some d ∧ r = .d d := by
  cases o with
  | none => cases h
  | some d => cases h; exact ⟨d, rfl, rfl⟩
theorem i_ix : IxR X (rD X.K ixD) := by
  rintro value slice pins s σ H x y v u Q I rx ry ⟨P, F0, F, σ', st, dx, dy, r, sr, b1, b2, e, q⟩ hs
  unfold ixD at e
  split at e
  · split at e
    · obtain ⟨d, e1, rfl⟩ := map_d e
      obtain ⟨a, vs, e2, h1, ra⟩ := b1.list sr.fH
      obtain ⟨w, e3, rp⟩ := ra.atI e1
      exact ix_list value slice pins s σ H x y v u Q I rx ry ⟨a, vs, _, w, e2, b2.int, .inl h1, e3, q w F H (.refl F) sr rp⟩ hs
    · obtain ⟨d, e1, rfl⟩ := map_d e
      obtain ⟨a, vs, e2, h1, ra⟩ := b1.tuple sr.fH
      obtain ⟨w, e3, rp⟩ := ra.atI e1
      exact ix_tup value slice pins s σ H x y v u Q I rx ry ⟨a, vs, _, w, e2, b2.int, h1, e3, q w F H (.refl F) sr rp⟩ hs
    · split at e
      · rename_i z hz
        cases e1 : L2.atI z.cps.toList _ with
        | none => rw [e1] at e; cases e
        | some c =>
          rw [e1] at e
          cases e
          exact ix_str value slice pins s σ H x y v u Q I rx ry ⟨z, _, c, b1.str, b2.int, hz, e1, q _ F H (.refl F) sr (.str _)⟩ hs
      · cases e
    · cases e
  · cases e
/-! ### slices -/
def cutD (xs : List D) (lo hi : Option Int) : List D := (xs.drop (HT.sIx xs.length 0 lo)).take (HT.sIx xs.length xs.length hi - HT.sIx xs.length 0 lo)
theorem RpAll.cut {vs : List V} {ds : List D} (r : RpAll K F vs ds) (lo hi : Option Int) : RpAll K F (cutV vs lo hi) (cutD ds lo hi) := by
  unfold cutV cutD
  rw [r.length]
  exact (r.drop _).take _
def slD (x : D) (lo hi : Option Int) : Option Sl := match x with
  | .list xs => some (.o (.list (cutD xs lo hi)))
  | .tuple xs => some (.d (.tuple (cutD xs lo hi)))
  | .str z => if z.length ≤ sizeLine then some (.d (.str (cutS z lo hi))) else none
  | _ => none
/-- a part of a slice -/
def prtD (m : Option (M Sl)) : M (Option Int) := match m with
  | none => fun s => .ok none s
  | some m => fun s => (m s).bind fun r s => match r.val with
    | .int i => .ok (some i) s
    | _ => .bad
def sliceD (a : Opd) (lo hi : Option (M Sl)) : M Sl := match a with
  | .n i => fun s => pkS s i fun _ => (prtD lo s).bind fun l s => (prtD hi s).bind fun h s => pkS s i fun x => match slD x l h with
    | some r => .ok r s
    | none => .bad
  | .e m => fun s => (m s).bind fun x s => (prtD lo s).bind fun l s => (prtD hi s).bind fun h s => match slD x.val l h with
    | some r => .ok r s
    | none => .bad
def DP (X : Cx) (W : WX) : Option Expr → Option (M Sl) → Prop
  | none, none => True
  | some e, some m => DE X W e m
  | _, _ => False
def tPrt (K : PySem.W.Frag) (W : WX) : Option (M Sl) → TO
  | none => tNoPart
  | some m => tPart (tD K W m)
theorem DP.po : ∀ {e : Option Expr} {m : Option (M Sl)}, DP X W e m → PO X e (tPrt X.K W m)
  | none, none, _ => po_none
  | some _, some _, h => po_some h
  | none, some _, h => h.elim
  | some _, none, h => h.elim
theorem prt_ok {m : Option (M Sl)} {k : Option Int → S → Out Sl} (st : StRel K P F0 F σ H s) (h : Res K W P F0 F σ ((prtD m s).bind k) Q) :
    tPrt K W m σ H fun l H1 => ∃ F1 s1, F.le F1 ∧ StRel K P F0 F1 σ H1 s1 ∧ Res K W P F0 F1 σ (k l s1) Q := by
  cases m with
  | none => exact ⟨F, s, .refl F, st, h⟩
  | some m =>
    have h2 : Res K W P F0 F σ ((m s).bind fun r s => (match r.val with
      | .int i => Out.ok (some i) s
      | _ => .bad).bind k) Q := by
      have e : ((prtD (some m) s).bind k) = ((m s).bind fun r s => (match r.val with
        | .int i => Out.ok (some i) s
        | _ => .bad).bind k) := by
        show ((m s).bind _).bind k = _
        cases m s <;> rfl
      rw [← e]
      exact h
    refine tD_mono (tD.bind st h2) ?_
    rintro v H1 ⟨F1, s1, r, l1, st1, rv, q1⟩
    cases e : r.val with
    | int i =>
      rw [e] at q1
      have z := rv.bor
      rw [e] at z
      exact ⟨i, z.int, F1, s1, l1, st1, q1⟩
    | none => rw [e] at q1; exact q1.elim
    | bool _ => rw [e] at q1; exact q1.elim
    | str _ => rw [e] at q1; exact q1.elim
    | list _ => rw [e] at q1; exact q1.elim
    | tuple _ => rw [e] at q1; exact q1.elim
    | dict _ => rw [e] at q1; exact q1.elim
theorem tPrt_mono {m : Option (M Sl)} {Q Q' : Option Int → Hp → Prop} (h : tPrt K W m σ H Q) (i : ∀ v H, Q v H → Q' v H) : tPrt K W m σ H Q' := by
  cases m with
  | none => exact i _ _ h
  | some m => exact tD_mono h fun v H1 ⟨j, e, q⟩ => ⟨j, e, i _ _ q⟩
def rSlD (K : PySem.W.Frag) : V → Option Int → Option Int → Hp → VK → Prop := fun v lo hi H Q => ∃ P F0 F σ s dx r, StRel K P F0 F σ H s ∧ Bor K F H v dx ∧ slD dx lo hi = some r ∧ ∀ w F' H', F.le F' → StRel K P F0 F' σ H' s → RV K P F' σ H' s w r → Q w H'
theorem cutV_all {vs : List V} {lo hi : Option Int} (h : HT.sIx vs.length 0 lo = 0 ∧ HT.sIx vs.length vs.length hi = vs.length) : cutV vs lo hi = vs := by
  unfold cutV
  rw [h.1, h.2]
  simp
theorem cutD_all {vs : List D} {lo hi : Option Int} (h : HT.sIx vs.length 0 lo = 0 ∧ HT.sIx vs.length vs.length hi = vs.length) : cutD vs lo hi = vs := by
  unfold cutD
  rw [h.1, h.2]
  simp
theorem s_sl : SlR X (rSlD X.K) := by
  rintro pins s σ H x v vl vu lo hi sl Q I rx hs pl pu ⟨P, F0, F, σ', st, dx, r, sr, b1, e, q⟩
  unfold slD at e
  split at e
  · cases e
    obtain ⟨a, vs, e2, h1, ra⟩ := b1.list sr.fH
    refine sl_list pins s σ H x v vl vu lo hi sl Q I rx hs pl pu ⟨a, vs, e2, .inl h1, fun p hp => ?_⟩
    obtain ⟨st2, rv⟩ := sr.alloc_o (o := .lst (cutV vs lo hi)) hp (.lst (ra.cut lo hi))
    exact q (.ref p) F _ (.refl F) st2 rv
  · cases e
    obtain ⟨a, vs, e2, h1, ra⟩ := b1.tuple sr.fH
    refine sl_tupA pins s σ H x v vl vu lo hi sl Q I rx hs pl pu ⟨a, vs, e2, h1, fun hw => ?_, fun hw p hp => ?_⟩
    · refine q (.ref a) F H (.refl F) sr ?_
      rw [ra.length] at hw
      rw [cutD_all hw]
      rcases b1 with z | ⟨_, _, _, _, _, z⟩
      · rw [e2] at z
        exact z
      · cases z
    · obtain ⟨l2, st2⟩ := sr.alloc_d (o := .tup (cutV vs lo hi)) hp
      exact q (.ref p) _ _ l2 st2 (.tup (SqT.of Fz.put_same) ((ra.cut lo hi).le l2))
  · split at e
    · rename_i z hz
      cases e
      exact sl_str pins s σ H x v vl vu lo hi sl Q I rx hs pl pu ⟨z, b1.str, hz, q _ F H (.refl F) sr (.str _)⟩
    · cases e
  · cases e
theorem d_slice {lo hi : Option Expr} {ml mh : Option (M Sl)} {p2 pos : Pos} (ha : OO X W a oa) (hl : DP X W lo ml) (hh : DP X W hi mh) : DE X W (.Subscript a (.Slice lo hi none p2) pos) (sliceD oa ml mh) := by
  refine PE.weaken (pe_slice s_sl ha.pe hl.po hh.po) ?_
  rintro σ H Q ⟨P, F0, F, s, st, q⟩
  cases oa with
  | n i =>
    obtain ⟨v, x, h1, h2, h3⟩ := pkS_ok st q
    refine ⟨v, h1, ?_⟩
    refine tPrt_mono (prt_ok st h3) ?_
    rintro l H1 ⟨F1, s1, l1, st1, q1⟩
    refine tPrt_mono (prt_ok st1 q1) ?_
    rintro h H2 ⟨F2, s2, l2, st2, q2⟩
    obtain ⟨v', x', k1, k2, k3⟩ := pkS_ok st2 q2
    rw [h1] at k1
    cases k1
    split at k3
    · rename_i r e
      exact ⟨P, F0, F2, σ, s2, x', r, st2, k2, e, k3⟩
    · exact k3.elim
  | e m =>
    refine tD_mono (tD.bind st q) ?_
    rintro v H1 ⟨F1, s1, r, l1, st1, rv, q1⟩
    obtain ⟨F2, l2, st2, rp⟩ := rv.freeze st1
    refine tPrt_mono (prt_ok st2 (Res.le l2 q1)) ?_
    rintro l H2 ⟨F3, s3, l3, st3, q3⟩
    refine tPrt_mono (prt_ok st3 q3) ?_
    rintro h H3 ⟨F4, s4, l4, st4, q4⟩
    split at q4
    · rename_i r' e
      exact ⟨P, F0, F4, σ, s4, r.val, r', st4, .inl (rp.le (l3.trans l4)), e, q4⟩
    · exact q4.elim
/-! ### one operand: -x, calls of built-ins -/
def lift1 (g : D → Option Sl) (x : D) (s : S) : Out Sl := match g x with
  | some r => .ok r s
  | none => .bad
def r1D (K : PySem.W.Frag) (g : D → Option Sl) (v : V) (H : Hp) (Q : VK) : Prop := ∃ P F0 F σ s dx r, StRel K P F0 F σ H s ∧ Bor K F H v dx ∧ g dx = some r ∧ ∀ w F' H', F.le F' → StRel K P F0 F' σ H' s → RV K P F' σ H' s w r → Q w H'
theorem lift1_ok {g : D → Option Sl} {dx : D} (st : StRel K P F0 F σ H s) (h1 : Bor K F H v dx) (h : Res K W P F0 F σ (lift1 g dx s) Q) : r1D K g v H Q := by
  unfold lift1 at h
  split at h
  · rename_i r e
    exact ⟨P, F0, F, σ, s, dx, r, st, h1, e, h⟩
  · exact h.elim
theorem opd1_lift {g : D → Option Sl} (st : StRel K P F0 F σ H s) (h : Res K W P F0 F σ (opd1 oa (lift1 g) s) Q) : tOpd K W oa σ H fun v H1 => r1D K g v H1 Q := by
  refine tOpd_mono (opd1_ok st h) ?_
  rintro v H1 ⟨F1, s1, x, l1, st1, bo, q1⟩
  exact lift1_ok st1 bo q1
def negD : D → Option Sl
  | .int i => some (.d (.int (-i)))
  | _ => none
theorem d_neg {pos : Pos} (ha : OO X W a oa) : DE X W (.UnaryOp .USub a pos) (opd1 oa (lift1 negD)) := by
  refine PE.weaken (pe_un un_neg ha.pe) ?_
  rintro σ H Q ⟨P, F0, F, s, st, q⟩
  refine tOpd_mono (opd1_lift st q) ?_
  rintro v H1 ⟨P, F0, F, σ', s, dx, r, st, bo, e, q⟩
  unfold negD at e
  split at e
  · cases e
    exact ⟨_, bo.int, q _ F H1 (.refl F) st (.int _)⟩
  · cases e
/-- a call of a built-in with one operand -/
def C1 (X : Cx) (f : Value) (g : D → Option Sl) : Prop := CallR X f fun vs H Q => ∃ v, vs = [v] ∧ r1D X.K g v H Q
theorem d_call1 {id : String} {g : D → Option Sl} {x : Str} {p pos : Pos} (hc : C1 X (.builtin id) g) (hg : Gl X x) (hm : X.mg x = none) (hv : bootBuiltins x = some (.builtin id)) (ha : OO X W a oa) (hn : x ≠ "__name__" := by decide) (hdb : (x == ("__debug__" : Str)) = false := by decide)
    (he : starEach [a] X.env = (false, eval a X.env) :: starEach [] X.env := by rfl) : DE X W (.Call (.Name x p) [a] [] pos) (opd1 oa (lift1 g)) := by
  refine PE.weaken (pe_callB hc hg hm hv (pa_cons ha.pe pa_nil he) hn hdb he) ?_
  rintro σ H Q ⟨P, F0, F, s, st, q⟩
  refine tOpd_mono (opd1_lift st q) ?_
  rintro v H1 z
  exact ⟨v, rfl, z⟩
theorem d_callT1 {T : String} {g : D → Option Sl} {x : Str} {p pos : Pos} (hc : C1 X (.type T) g) (hg : Gl X x) (hm : X.mg x = none) (hv : bootBuiltins x = some (.type T)) (ha : OO X W a oa) (hn : x ≠ "__name__" := by decide) (hdb : (x == ("__debug__" : Str)) = false := by decide)
    (he : starEach [a] X.env = (false, eval a X.env) :: starEach [] X.env := by rfl) : DE X W (.Call (.Name x p) [a] [] pos) (opd1 oa (lift1 g)) := by
  refine PE.weaken (pe_callTy hc hg hm hv (pa_cons ha.pe pa_nil he) hn hdb he) ?_
  rintro σ H Q ⟨P, F0, F, s, st, q⟩
  refine tOpd_mono (opd1_lift st q) ?_
  rintro v H1 z
  exact ⟨v, rfl, z⟩
/-! ### len, abs, int -/
def lenD : D → Option Sl
  | .list xs => some (.d (.int xs.length))
  | .tuple xs => some (.d (.int xs.length))
  | .str z => if z.length ≤ sizeLine then some (.d (.int z.length)) else none
  | _ => none
theorem c_len : C1 X (.builtin "len") lenD := by
  rintro pins s σ H xs us Q I r ⟨v, rfl, P, F0, F, σ', st, dx, rr, sr, bo, e, q⟩
  unfold lenD at e
  split at e
  · cases e
    obtain ⟨a, vs, e2, h1, ra⟩ := bo.list sr.fH
    exact call_len_seq pins s σ H _ us Q I r ⟨a, vs, by rw [e2], .inl (.inl h1), by rw [ra.length]; exact q _ F H (.refl F) sr (.int _)⟩
  · cases e
    obtain ⟨a, vs, e2, h1, ra⟩ := bo.tuple sr.fH
    exact call_len_seq pins s σ H _ us Q I r ⟨a, vs, by rw [e2], .inr h1, by rw [ra.length]; exact q _ F H (.refl F) sr (.int _)⟩
  · split at e
    · rename_i z hz
      cases e
      exact call_len_str pins s σ H _ us Q I r ⟨z, by rw [bo.str], hz, q _ F H (.refl F) sr (.int _)⟩
    · cases e
  · cases e
def absD : D → Option Sl
  | .int i => some (.d (.int (if i < 0 then -i else i)))
  | _ => none
theorem c_abs : C1 X (.builtin "abs") absD := by
  rintro pins s σ H xs us Q I r ⟨v, rfl, P, F0, F, σ', st, dx, rr, sr, bo, e, q⟩
  unfold absD at e
  split at e
  · cases e
    exact call_abs pins s σ H _ us Q I r ⟨_, by rw [bo.int], q _ F H (.refl F) sr (.int _)⟩
  · cases e
def toIntD : D → Option Sl
  | .int i => some (.d (.int i))
  | .bool b => some (.d (.int (if b then 1 else 0)))
  | _ => none
theorem c_int : C1 X (.type "int") toIntD := by
  rintro pins s σ H xs us Q I r ⟨v, rfl, P, F0, F, σ', st, dx, rr, sr, bo, e, q⟩
  unfold toIntD at e
  split at e
  · cases e
    exact call_int1 pins s σ H _ us Q I r (.inl ⟨_, by rw [bo.int], q _ F H (.refl F) sr (.int _)⟩)
  · cases e
    exact call_int1 pins s σ H _ us Q I r (.inr ⟨_, by rw [bo.bl], q _ F H (.refl F) sr (.int _)⟩)
  · cases e
/-! ### all, any, sum, max, min, sorted -/
def boolsOf : List D → Option (List Bool)
  | [] => some []
  | .bool b :: r => (boolsOf r).map (b :: ·)
  | _ => none
theorem boolsOf_eq : ∀ {ds : List D} {bs : List Bool}, boolsOf ds = some bs → ds = bs.map .bool
  | [], _, e => by cases e; rfl
  | d :: r, bs, e => by
    cases d with
    | bool b =>
      have e : (boolsOf r).map (b :: ·) = some bs := e
      cases h : boolsOf r with
      | none => rw [h] at e; cases e
      | some cs =>
        rw [h] at e
        cases e
        rw [boolsOf_eq h]
        rfl
    | _ => cases e
theorem boolsOf_map : ∀ bs : List Bool, boolsOf (bs.map .bool) = some bs
  | [] => rfl
  | b :: r => by
    show (boolsOf (r.map .bool)).map (b :: ·) = _
    rw [boolsOf_map r]
    rfl
def allD : D → Option Sl
  | .list xs => (boolsOf xs).map fun bs => .d (.bool (bs.all id))
  | _ => none
def anyD : D → Option Sl
  | .list xs => (boolsOf xs).map fun bs => .d (.bool (bs.any id))
  | _ => none
theorem c_all (hc : X.calm = true) : C1 X (.builtin "all") allD := by
  rintro pins s σ H xs us Q I r ⟨v, rfl, P, F0, F, σ', st, dx, rr, sr, bo, e, q⟩
  unfold allD at e
  split at e
  · rename_i ds
    cases h : boolsOf ds with
    | none => rw [h] at e; cases e
    | some bs =>
      rw [h] at e
      cases e
      obtain ⟨a, vs, e2, h1, ra⟩ := bo.list sr.fH
      rw [boolsOf_eq h] at ra
      rw [ra.bools] at h1
      exact cr_all hc pins s σ H _ us Q I r ⟨a, bs, by rw [e2], .inl h1, q _ F H (.refl F) sr (.bl _)⟩
  · cases e
theorem c_any (hc : X.calm = true) : C1 X (.builtin "any") anyD := by
  rintro pins s σ H xs us Q I r ⟨v, rfl, P, F0, F, σ', st, dx, rr, sr, bo, e, q⟩
  unfold anyD at e
  split at e
  · rename_i ds
    cases h : boolsOf ds with
    | none => rw [h] at e; cases e
    | some bs =>
      rw [h] at e
      cases e
      obtain ⟨a, vs, e2, h1, ra⟩ := bo.list sr.fH
      rw [boolsOf_eq h] at ra
      rw [ra.bools] at h1
      exact cr_any hc pins s σ H _ us Q I r ⟨a, bs, by rw [e2], .inl h1, q _ F H (.refl F) sr (.bl _)⟩
  · cases e
def intsOf : List D → Option (List Int)
  | [] => some []
  | .int b :: r => (intsOf r).map (b :: ·)
  | _ => none
theorem intsOf_eq : ∀ {ds : List D} {bs : List Int}, intsOf ds = some bs → ds = bs.map .int
  | [], _, e => by cases e; rfl
  | d :: r, bs, e => by
    cases d with
    | int b =>
      have e : (intsOf r).map (b :: ·) = some bs := e
      cases h : intsOf r with
      | none => rw [h] at e; cases e
      | some cs =>
        rw [h] at e
        cases e
        rw [intsOf_eq h]
        rfl
    | _ => cases e
theorem intsOf_map : ∀ bs : List Int, intsOf (bs.map .int) = some bs
  | [] => rfl
  | b :: r => by
    show (intsOf (r.map .int)).map (b :: ·) = _
    rw [intsOf_map r]
    rfl
def sumD : D → Option Sl
  | .list xs => (intsOf xs).map fun bs => .d (.int bs.sum)
  | _ => none
theorem c_sum (hc : X.calm = true) : C1 X (.builtin "sum") sumD := by
  rintro pins s σ H xs us Q I r ⟨v, rfl, P, F0, F, σ', st, dx, rr, sr, bo, e, q⟩
  unfold sumD at e
  split at e
  · rename_i ds
    cases h : intsOf ds with
    | none => rw [h] at e; cases e
    | some bs =>
      rw [h] at e
      cases e
      obtain ⟨a, vs, e2, h1, ra⟩ := bo.list sr.fH
      rw [intsOf_eq h] at ra
      rw [ra.ints] at h1
      exact cr_sum hc pins s σ H _ us Q I r ⟨a, bs, by rw [e2], .inl h1, q _ F H (.refl F) sr (.int _)⟩
  · cases e
def alikes (xs : List D) : Bool := xs.all fun x => !noneD x && xs.all fun y => PySem.W.alike x y
theorem alikes_ok {xs : List D} (h : alikes xs = true) : PySem.W.AlikeAll xs := by
  unfold alikes at h
  rw [List.all_eq_true] at h
  refine ⟨fun x hx y hy => ?_, fun x hx => ?_⟩
  · have z := (Bool.and_eq_true_iff.mp (h x hx)).2
    rw [List.all_eq_true] at z
    exact z y hy
  · have z := (Bool.and_eq_true_iff.mp (h x hx)).1
    exact noneD_ne (by simpa using z)
def maxD1 : D → Option Sl
  | .list (x :: xs) => if alikes (x :: xs) = true ∧ okD (.list (x :: xs)) = true then some (.d (PySem.W.maxD x xs)) else none
  | _ => none
def minD1 : D → Option Sl
  | .list (x :: xs) => if alikes (x :: xs) = true ∧ okD (.list (x :: xs)) = true then some (.d (PySem.W.minD x xs)) else none
  | _ => none
theorem RpAll.getV : ∀ {vs : List V} {ds : List D} {i : Nat} {v : V}, RpAll K F vs ds → vs[i]? = some v → ∃ d, ds[i]? = some d ∧ Rp K F v d
  | _, _, 0, _, .cons h _, e => by
    have e := Option.some.inj (show some _ = some _ from e)
    subst e
    exact ⟨_, rfl, h⟩
  | _, _, i + 1, _, .cons _ r, e => RpAll.getV (i := i) r e
  | _, _, _, _, .nil, e => by simp at e
theorem Vals.getU : ∀ {xs : List V} {us : List Value} {i : Nat} {u : Value}, Vals xs us → us[i]? = some u → ∃ x, xs[i]? = some x ∧ RelV x u
  | _, _, 0, _, .cons r _, e => by
    have e := Option.some.inj (show some _ = some _ from e)
    subst e
    exact ⟨_, rfl, r⟩
  | _, _, i + 1, _, .cons _ t, e => Vals.getU (i := i) t e
  | _, _, _, _, .nil, e => by simp at e
theorem plain_all {xs : List D} {x : D} (h : PyData.plainAll xs = true) (hx : x ∈ xs) : x.plain = true := by
  induction xs with
  | nil => cases hx
  | cons y ys ih =>
    rw [PyData.plainAll, Bool.and_eq_true] at h
    rcases List.mem_cons.mp hx with rfl | hx
    · exact h.1
    · exact ih h.2 hx
/-- the best item of a list, read back -/
theorem best_ok {a : Addr} {vs : List V} {x : D} {xs : List D} {its : List Value} {as : List Addr} {d : D} {i : Nat} {u : Value} {h' : Heap} {tk : Nat} {bs : List Addr} (I : Inv X pins σ H sh) (ra : RpAll X.K F vs (x :: xs)) (rv : Vals vs its) (fH : Sub F.hp H) (hp : PyData.plainAll (x :: xs) = true)
    (hu : its.toArray[i]? = some u) (r : Reads h' u d bs) (k : ∀ b o, sh.heap.get? b = some o → h'.get? b = some o) : ∃ w, RelV w u ∧ Rp X.K F w d := by
  have hu' : its[i]? = some u := by simpa using hu
  obtain ⟨w, e1, rw1⟩ := Vals.getU rv hu'
  obtain ⟨d', e2, rp⟩ := ra.getV e1
  have pl : d'.plain = true := plain_all hp (List.mem_of_getElem? e2)
  obtain ⟨cs, r2⟩ := Bor.reads I fH pl (.inl rp) rw1
  have e3 := SeqAt.plain_unique d' d u _ _ pl (PySem.W.reads_keeps k r2) r
  subst e3
  exact ⟨w, rw1, rp⟩
theorem depth_list (xs : List D) : (PyData.list xs).depth = PyData.depthAll xs + 1 := by simp [PyData.depth]
theorem c_max (hc : X.calm = true) (hu : X.A.units + 64 < cLine) : C1 X (.builtin "max") maxD1 := by
  rintro pins s σ H xs us Q I r ⟨v, rfl, P, F0, F, σ', st, dx, rr, sr, bo, e, q⟩
  unfold maxD1 at e
  split at e
  · split at e
    · rename_i y ys h
      cases e
      have hp : PyData.plainAll (y :: ys) = true := by simpa [PyData.plain] using okD.pl h.2
      have hd := okD.dep h.2
      rw [depth_list] at hd
      obtain ⟨a, vs, rfl, h1, ra⟩ := bo.list sr.fH
      obtain ⟨u, rfl, rx⟩ := vals1 r
      cases rx
      obtain ⟨its, rv, pl, hz⟩ := I.list (.inl h1)
      obtain ⟨bs, r2⟩ := Dp.readsAll I _ _ _ (ra.dp sr.fH hp) rv
      refine PySem.W.max_list_data (vs := its.toArray) (as := bs) (I.ok.hd hc) pl.isList (by simpa using r2) (alikes_ok h.1) (by omega) fun i w h' tk cs e1 e2 k => ?_
      obtain ⟨z, z1, z2⟩ := best_ok (tk := tk) (as := bs) (a := a) I ra rv sr.fH hp e1 e2 k
      exact ⟨z, H, I.kept k, z1, q z F H (.refl F) sr z2⟩
    · cases e
  · cases e
theorem c_min (hc : X.calm = true) (hu : X.A.units + 64 < cLine) : C1 X (.builtin "min") minD1 := by
  rintro pins s σ H xs us Q I r ⟨v, rfl, P, F0, F, σ', st, dx, rr, sr, bo, e, q⟩
  unfold minD1 at e
  split at e
  · split at e
    · rename_i y ys h
      cases e
      have hp : PyData.plainAll (y :: ys) = true := by simpa [PyData.plain] using okD.pl h.2
      have hd := okD.dep h.2
      rw [depth_list] at hd
      obtain ⟨a, vs, rfl, h1, ra⟩ := bo.list sr.fH
      obtain ⟨u, rfl, rx⟩ := vals1 r
      cases rx
      obtain ⟨its, rv, pl, hz⟩ := I.list (.inl h1)
      obtain ⟨bs, r2⟩ := Dp.readsAll I _ _ _ (ra.dp sr.fH hp) rv
      refine PySem.W.min_list_data (vs := its.toArray) (as := bs) (I.ok.hd hc) pl.isList (by simpa using r2) (alikes_ok h.1) (by omega) fun i w h' tk cs e1 e2 k => ?_
      obtain ⟨z, z1, z2⟩ := best_ok (tk := tk) (as := bs) (a := a) I ra rv sr.fH hp e1 e2 k
      exact ⟨z, H, I.kept k, z1, q z F H (.refl F) sr z2⟩
    · cases e
  · cases e
end
end Dy
end
section
set_option Elab.async false
set_option linter.all false
set_option maxRecDepth 100000
set_option maxHeartbeats 4000000
namespace Dy
open PySem PySem.Spec PyProof.Rows L2
variable [LawI] [Ph]
section
variable {X : Cx} {W : WX} {a b : Expr} {oa ob : Opd} {P F0 : Hp} {F F' : Fz} {σ : L2.St} {H H' : Hp} {s : S} {Q : VK} {K : PySem.W.Frag} {v : V} {x : D} {pins : List (Addr × Obj)} {sh : Shared}
/-! ### sorted, tuple, list -/
def sortD (xs : List D) : List D := xs.mergeSort (PySem.W.dataLe false fun d => d)
def tupNe : D → Bool
  | .tuple (_ :: _) => true
  | _ => false
def notTup : D → Bool
  | .tuple _ => false
  | .none => false
  | _ => true
def sortedD : D → Option Sl
  | .list xs => if xs.all (fun x => xs.all fun y => PySem.W.alike x y) = true ∧ (xs.all tupNe = true ∨ xs.all notTup = true) ∧ okD (.list xs) = true then some (.o (.list (sortD xs))) else none
  | _ => none
theorem depth_mem {xs : List D} {x : D} (h : x ∈ xs) : x.depth ≤ PyData.depthAll xs := by
  induction xs with
  | nil => cases h
  | cons y ys ih =>
    rw [PyData.depthAll]
    rcases List.mem_cons.mp h with rfl | h
    · exact Nat.le_max_left _ _
    · exact Nat.le_trans (ih h) (Nat.le_max_right _ _)
theorem each_of {R : Value → D → Prop} (h : ∀ v d w, RelV w v → Rp K F w d → R v d) : ∀ {vs : List V} {ds : List D} {us : List Value}, RpAll K F vs ds → Vals vs us → PySem.W.EachIs R us ds
  | _, _, _, .nil, .nil => .nil
  | _, _, _, .cons r rs, .cons q qs => .cons (h _ _ _ q r) (each_of h rs qs)
theorem of_each : ∀ {us : List Value} {ds : List D}, PySem.W.EachIs (fun v d => ∃ w, RelV w v ∧ Rp K F w d) us ds → ∃ vs, Vals vs us ∧ RpAll K F vs ds
  | _, _, .nil => ⟨[], .nil, .nil⟩
  | _, _, .cons ⟨w, h1, h2⟩ t => by
    obtain ⟨vs, q1, q2⟩ := of_each t
    exact ⟨w :: vs, .cons h1 q1, .cons h2 q2⟩
theorem sortD_len (xs : List D) : (sortD xs).length = xs.length := List.length_mergeSort xs
theorem each_reads (I : Inv X pins σ H sh) (l : Sub F.hp H) : ∀ {vs : List V} {ds : List D} {us : List Value}, PyData.plainAll ds = true → RpAll X.K F vs ds → Vals vs us → PySem.W.EachIs (fun v d => ∃ as, Reads sh.heap v d as) us ds
  | _, _, _, _, .nil, .nil => .nil
  | _, _ :: _, _, hp, .cons h t, .cons q1 q2 => by
    have hp' : _ ∧ _ := Bool.and_eq_true_iff.mp (show (PyData.plain _ && PyData.plainAll _) = true by simpa [PyData.plainAll] using hp)
    exact .cons (Bor.reads I l hp'.1 (.inl h) q1) (each_reads I l hp'.2 t q2)
theorem c_sorted (hu : X.A.units + 64 < cLine) : C1 X (.builtin "sorted") sortedD := by
  rintro pins s σ H xs us Q I r ⟨v, rfl, P, F0, F, σ', st, dx, rr, sr, bo, e, q⟩
  unfold sortedD at e
  split at e
  · split at e
    · rename_i ds h
      cases e
      have hp : PyData.plainAll ds = true := by simpa [PyData.plain] using okD.pl h.2.2
      have hd := okD.dep h.2.2
      rw [depth_list] at hd
      obtain ⟨a, vs, rfl, h1, ra⟩ := bo.list sr.fH
      obtain ⟨u, rfl, rx⟩ := vals1 r
      cases rx
      obtain ⟨its, rv, pl, hz⟩ := I.list (.inl h1)
      have er : PySem.W.EachIs (fun v d => ∃ as, Reads s.heap v d as) its ds := by
        exact each_reads I sr.fH hp ra rv
      refine PySem.W.sorted_data (R := fun v d => ∃ w, RelV w v ∧ Rp X.K F w d) (enc := fun d => d) (bs := ds) pl.isList (each_of (fun v d w h1 h2 => ⟨w, h1, h2⟩) ra rv) er ?_ ?_ (by rw [← ra.length]; exact hz) (fun b hb => ?_) fun out hlen ho => ?_
      · intro d hd d' hd'
        rw [List.map_id'] at hd hd'
        have z := List.all_eq_true.mp h.1 d hd
        exact List.all_eq_true.mp z d' hd'
      · rw [List.map_id']
        rcases h.2.1 with z | z
        · refine .inl fun d hd => ?_
          have w := List.all_eq_true.mp z d hd
          unfold tupNe at w
          split at w
          · exact ⟨_, _, rfl⟩
          · cases w
        · refine .inr fun d hd => ?_
          have w := List.all_eq_true.mp z d hd
          refine ⟨fun e => ?_, fun xs e => ?_⟩
          · rw [e] at w
            cases w
          · rw [e] at w
            cases w
      · have := depth_mem hb
        omega
      · obtain ⟨ws, w1, w2⟩ := of_each ho
        obtain ⟨c, hc⟩ := sortedAll_at s.heap its (List.toArray out)
        have hfr : H (s.heap.objs.size + 1) = none := I.hok.fresh (Nat.le_succ _)
        obtain ⟨st2, rv2⟩ := sr.alloc_o (o := .lst ws) hfr (.lst w2)
        have hlw : ws.length ≤ sizeLine := by
          have e1 := w1.length
          have e2 := ra.length
          omega
        exact ⟨.ref _, _, I.laid (o := .lst ws) (t' := s.toks) (fun b o q => sortedAll_old q) (Nat.le_succ _) (show ObjOk X.prog X.w _ _ _ (.lst ws) from ⟨hlw, out, c, w1, hc⟩), rfl, q _ F _ (.refl F) st2 rv2⟩
    · cases e
  · cases e
def tupleD : D → Option Sl
  | .list xs => some (.d (.tuple xs))
  | .tuple xs => some (.d (.tuple xs))
  | _ => none
theorem c_tuple : C1 X (.type "tuple") tupleD := by
  rintro pins s σ H xs us Q I r ⟨v, rfl, P, F0, F, σ', st, dx, rr, sr, bo, e, q⟩
  unfold tupleD at e
  split at e
  · cases e
    obtain ⟨a, vs, rfl, h1, ra⟩ := bo.list sr.fH
    refine call_tuple_of pins s σ H _ us Q I r ⟨a, vs, rfl, .inl ⟨.inl h1, fun p hp => ?_⟩⟩
    obtain ⟨l2, st2⟩ := sr.alloc_d (o := .tup vs) hp
    exact q (.ref p) _ _ l2 st2 (.tup (SqT.of Fz.put_same) (ra.le l2))
  · cases e
    obtain ⟨a, vs, rfl, h1, ra⟩ := bo.tuple sr.fH
    refine call_tuple_of pins s σ H _ us Q I r ⟨a, vs, rfl, .inr ⟨h1, q _ F H (.refl F) sr ?_⟩⟩
    rcases bo with z | ⟨_, _, _, _, _, z⟩
    · exact z
    · cases z
  · cases e
def listD : D → Option Sl
  | .list xs => some (.o (.list xs))
  | .tuple xs => some (.o (.list xs))
  | _ => none
theorem c_list : C1 X (.type "list") listD := by
  rintro pins s σ H xs us Q I r ⟨v, rfl, P, F0, F, σ', st, dx, rr, sr, bo, e, q⟩
  unfold listD at e
  split at e
  · cases e
    obtain ⟨a, vs, rfl, h1, ra⟩ := bo.list sr.fH
    refine call_list_of pins s σ H _ us Q I r ⟨a, vs, rfl, .inl (.inl h1), fun p hp => ?_⟩
    obtain ⟨st2, rv2⟩ := sr.alloc_o (o := .lst vs) hp (.lst ra)
    exact q _ F _ (.refl F) st2 rv2
  · cases e
    obtain ⟨a, vs, rfl, h1, ra⟩ := bo.tuple sr.fH
    refine call_list_of pins s σ H _ us Q I r ⟨a, vs, rfl, .inr h1, fun p hp => ?_⟩
    obtain ⟨st2, rv2⟩ := sr.alloc_o (o := .lst vs) hp (.lst ra)
    exact q _ F _ (.refl F) st2 rv2
  · cases e
/-! ### isinstance -/
def isaD (f : D → Bool) (x : D) : Option Sl := if x.plain = true then some (.d (.bool (f x))) else none
def Isa (X : Cx) (T : String) (f : D → Bool) : Prop := ∀ (s : Shared) (u : Value) (d : D) (as : List Addr) (Q : Value → Shared → Prop), Reads s.heap u d as → (∀ tk, s.toks ≤ tk → Q (.bool (f d)) { s with toks := tk }) → wpAny (model X.prog X.w) X.A (call (.builtin "isinstance") [u, .type T]) Q X.xe s
theorem isa_tuple : Isa X "tuple" (fun d => d.isTuple) := fun s u d as Q r h => PySem.W.isinstance_tuple_data r h
theorem isa_int : Isa X "int" (fun d => d.isInt) := fun s u d as Q r h => PySem.W.isinstance_int_data r h
theorem isa_bool : Isa X "bool" (fun d => d.isBool) := fun s u d as Q r h => PySem.W.isinstance_bool_data r h
theorem isa_str : Isa X "str" (fun d => d.isStr) := fun s u d as Q r h => PySem.W.isinstance_str_data r h
theorem isa_list : Isa X "list" (fun d => d.isList) := fun s u d as Q r h => PySem.W.isinstance_list_data r h
theorem d_isa {T : String} {f : D → Bool} {y : Str} {p q pos : Pos} (hi : Isa X T f) (hg : Gl X "isinstance") (hm : X.mg "isinstance" = none) (hg2 : Gl X y) (hm2 : X.mg y = none) (hv2 : bootBuiltins y = some (.type T)) (ha : OO X W a oa) (hn : y ≠ "__name__" := by decide) (hd : (y == ("__debug__" : Str)) = false := by decide)
    (he : starEach [a, .Name y q] X.env = (false, eval a X.env) :: starEach [.Name y q] X.env := by rfl) (he2 : starEach [.Name y q] X.env = (false, eval (.Name y q) X.env) :: starEach [] X.env := by rfl) (hpl : (backTo pos (starEach [.Name y q] X.env)).any (·.1) = false := by rfl) :
    DE X W (.Call (.Name "isinstance" p) [a, .Name y q] [] pos) (opd1 oa (lift1 (isaD f))) := by
  have hc : CallR X (.builtin "isinstance") (fun vs H Q => ∃ v, vs = [v, .ty T] ∧ r1D X.K (isaD f) v H Q) := by
    rintro pins s σ H xs us Q I r ⟨v, rfl, P, F0, F, σ', st, dx, rr, sr, bo, e, q⟩
    unfold isaD at e
    split at e
    · rename_i hp
      cases e
      cases r with
      | cons r1 r =>
        cases r with
        | cons r2 r =>
          cases r
          cases r2
          obtain ⟨as, rd⟩ := bo.reads I sr.fH hp r1
          exact hi s _ _ as _ rd fun tk _ => ⟨.bl _, H, I.tok tk, rfl, q _ F H (.refl F) sr (.bl _)⟩
    · cases e
  refine PE.weaken (pe_callB hc hg hm (by decide +kernel) (pa_cons ha.pe (pa_cons (pe_bltn hg2 hm2 hv2 (v := .ty T) rfl hn hd) pa_nil he2) he) (by decide) (by decide) he hpl) ?_
  rintro σ H Q ⟨P, F0, F, s, st, q⟩
  refine tOpd_mono (opd1_lift st q) ?_
  rintro v H1 z
  exact ⟨v, rfl, z⟩
/-! ### is -/
def isNonD (x : D) : Option Sl := match x with
  | .none => some (.d (.bool true))
  | .dict _ => none
  | _ => some (.d (.bool false))
def notNonD (x : D) : Option Sl := match x with
  | .none => some (.d (.bool false))
  | .dict _ => none
  | _ => some (.d (.bool true))
theorem Bor.non_iff (l : Sub F.hp H) (h : Bor K F H v x) (hd : ∀ r, x ≠ .dict r) : decide (v = .non) = noneD x := by
  cases x with
  | none => rw [h.non]; rfl
  | bool b => rw [h.bl]; rfl
  | int i => rw [h.int]; rfl
  | str i => rw [h.str]; rfl
  | list i => obtain ⟨a, vs, rfl, _⟩ := h.list l; rfl
  | tuple i => obtain ⟨a, vs, rfl, _⟩ := h.tuple l; rfl
  | dict r => exact absurd rfl (hd r)
theorem d_isN {j : Nat} {pos pos' : Pos} (ha : OO X W a oa) (h1 : behindInMarks .Is (.Constant .none j pos') = false := by first | exact nobehind _ (by decide) (by decide) | rfl) : DE X W (.Compare a [.Is] [.Constant .none j pos'] pos) (opd1 oa (lift1 isNonD)) := by
  refine PE.weaken (pe_cmp (pc_isN ha.pe) h1) ?_
  rintro σ H Q ⟨P, F0, F, s, st, q⟩
  refine tOpd_mono (opd1_lift st q) ?_
  rintro v H1 ⟨P, F0, F, σ', s, dx, r, st, bo, e, q⟩
  unfold isNonD at e
  split at e
  · cases e
    rw [bo.non]
    exact q _ F H1 (.refl F) st (.bl _)
  · cases e
  · rename_i h1 h2
    cases e
    rw [bo.non_iff st.fH (fun r z => h2 r z)]
    have : noneD dx = false := by
      cases dx <;> first | rfl | exact absurd rfl h1
    rw [this]
    exact q _ F H1 (.refl F) st (.bl _)
theorem d_notN {j : Nat} {pos pos' : Pos} (ha : OO X W a oa) (h1 : behindInMarks .IsNot (.Constant .none j pos') = false := by first | exact nobehind _ (by decide) (by decide) | rfl) : DE X W (.Compare a [.IsNot] [.Constant .none j pos'] pos) (opd1 oa (lift1 notNonD)) := by
  refine PE.weaken (pe_cmp (pc_notN ha.pe) h1) ?_
  rintro σ H Q ⟨P, F0, F, s, st, q⟩
  refine tOpd_mono (opd1_lift st q) ?_
  rintro v H1 ⟨P, F0, F, σ', s, dx, r, st, bo, e, q⟩
  unfold notNonD at e
  split at e
  · cases e
    rw [bo.non]
    exact q _ F H1 (.refl F) st (.bl _)
  · cases e
  · rename_i h1 h2
    cases e
    rw [bo.non_iff st.fH (fun r z => h2 r z)]
    have : noneD dx = false := by
      cases dx <;> first | rfl | exact absurd rfl h1
    rw [this]
    exact q _ F H1 (.refl F) st (.bl _)
def isBD (x y : D) : Option Sl := match x, y with
  | .bool p, .bool q => some (.d (.bool (decide (p = q))))
  | _, _ => none
def notBD (x y : D) : Option Sl := match x, y with
  | .bool p, .bool q => some (.d (.bool (!decide (p = q))))
  | _, _ => none
theorem o_isB : OpR X (compareOp .Is) (rD X.K isBD) := by
  rintro pins s σ H x y v u Q I rx ry ⟨P, F0, F, σ', st, dx, dy, r, sr, b1, b2, e, q⟩
  unfold isBD at e
  split at e
  · cases e
    exact op_is_bl pins s σ H x y v u Q I rx ry ⟨_, _, b1.bl, b2.bl, q _ F H (.refl F) sr (.bl _)⟩
  · cases e
theorem o_notB : OpR X (compareOp .IsNot) (rD X.K notBD) := by
  rintro pins s σ H x y v u Q I rx ry ⟨P, F0, F, σ', st, dx, dy, r, sr, b1, b2, e, q⟩
  unfold notBD at e
  split at e
  · cases e
    exact op_isnot_bl pins s σ H x y v u Q I rx ry ⟨_, _, b1.bl, b2.bl, q _ F H (.refl F) sr (.bl _)⟩
  · cases e
/-! ### two operands: max, min -/
def C2 (X : Cx) (f : Value) (g : D → D → Option Sl) : Prop := CallR X f fun vs H Q => ∃ v u, vs = [v, u] ∧ rD X.K g v u H Q
theorem d_call2 {id : String} {g : D → D → Option Sl} {x : Str} {p pos : Pos} (hc : C2 X (.builtin id) g) (hg : Gl X x) (hm : X.mg x = none) (hv : bootBuiltins x = some (.builtin id)) (ha : OO X W a oa) (hb : OO X W b ob) (hn : x ≠ "__name__" := by decide) (hdb : (x == ("__debug__" : Str)) = false := by decide)
    (he : starEach [a, b] X.env = (false, eval a X.env) :: starEach [b] X.env := by rfl) (he2 : starEach [b] X.env = (false, eval b X.env) :: starEach [] X.env := by rfl) (hpl : (backTo pos (starEach [b] X.env)).any (·.1) = false := by rfl) : DE X W (.Call (.Name x p) [a, b] [] pos) (opd2 oa ob (lift2 g)) := by
  refine PE.weaken (pe_callB hc hg hm hv (pa_cons ha.pe (pa_cons hb.pe pa_nil he2) he) hn hdb he hpl) ?_
  rintro σ H Q ⟨P, F0, F, s, st, q⟩
  refine tOpd_mono (opd2_ok st q) fun v H1 z1 => tOpd_mono z1 ?_
  rintro u H2 ⟨F2, s2, x, y, l, st2, b1, b2, q⟩
  exact ⟨v, u, rfl, lift2_ok st2 b1 b2 q⟩
def max2D : D → D → Option Sl := arD (fun _ _ => true) fun i j => if j > i then j else i
def min2D : D → D → Option Sl := arD (fun _ _ => true) fun i j => if j < i then j else i
theorem c_max2 (hc : X.calm = true) : C2 X (.builtin "max") max2D := by
  rintro pins s σ H xs us Q I r ⟨v, u, rfl, P, F0, F, σ', st, dx, dy, rr, sr, b1, b2, e, q⟩
  unfold max2D arD at e
  split at e
  · rw [if_pos rfl] at e
    cases e
    exact call_max2 hc pins s σ H _ us Q I r ⟨_, _, by rw [b1.int, b2.int], q _ F H (.refl F) sr (.int _)⟩
  · cases e
theorem c_min2 (hc : X.calm = true) : C2 X (.builtin "min") min2D := by
  rintro pins s σ H xs us Q I r ⟨v, u, rfl, P, F0, F, σ', st, dx, dy, rr, sr, b1, b2, e, q⟩
  unfold min2D arD at e
  split at e
  · rw [if_pos rfl] at e
    cases e
    exact call_min2 hc pins s σ H _ us Q I r ⟨_, _, by rw [b1.int, b2.int], q _ F H (.refl F) sr (.int _)⟩
  · cases e
/-! ### what a for walks -/
theorem PI.or {tg e : Expr} {t u : TI} (h1 : PI X tg e t) (h2 : PI X tg e u) : PI X tg e (fun σ H R => t σ H R ∨ u σ H R) := ⟨fun pins s σ H R I q => q.elim (h1.run pins s σ H R I) (h2.run pins s σ H R I)⟩
def charsD (z : Str) : List D := z.cps.toList.map fun c => .str ⟨#[c]⟩
def itD (m : M Sl) : M (List D) := fun s => (m s).bind fun r s => match r.val with
  | .list xs => .ok xs s
  | .tuple xs => .ok xs s
  | .str z => .ok (charsD z) s
  | _ => .bad
theorem tD.bindI {m : M Sl} {k : Sl → S → Out (List D)} {R : It → Hp → Prop} (st : StRel K P F0 F σ H s) (h : ResI K W P F0 F σ ((m s).bind k) R) :
    tD K W m σ H fun v H1 => ∃ F1 s1 r, F.le F1 ∧ StRel K P F0 F1 σ H1 s1 ∧ RV K P F1 σ H1 s1 v r ∧ ResI K W P F0 F1 σ (k r s1) R := by
  have lei : ∀ {F' : Fz} {out : Out (List D)}, F.le F' → ResI K W P F0 F σ out R → ResI K W P F0 F' σ out R := fun {F'} {out} l h => by
    cases out with
    | ok r s => exact fun J G H' lG st => h J G H' (l.trans lG) st
    | exc c s => exact fun G H' lG st => h G H' (l.trans lG) st
    | bad => exact h
  refine ⟨P, F0, F, s, st, ?_⟩
  cases e : m s with
  | ok r s1 =>
    rw [e] at h
    exact fun v F1 H1 l1 st1 rv1 => ⟨F1, s1, r, l1, st1, rv1, lei l1 h⟩
  | exc c s1 =>
    rw [e] at h
    exact h
  | bad =>
    rw [e] at h
    exact h
theorem feeds_list {a : Addr} {vs : List V} {ds : List D} (h : Rd F.hp a (.lst vs)) (r : RpAll K F vs ds) : Feeds K P F (Itl K a) ds := fun i F1 H1 l hs _ => by
  have h1 : Rd H1 a (.lst vs) := rd_sub hs (rd_le l.hp h)
  refine ⟨fun hi => ⟨vs, .inl h1, ?_⟩, fun x hx => ?_⟩
  · rw [r.length]; exact hi
  · obtain ⟨v, hv, rp⟩ := r.get hx
    refine ⟨⟨vs, v, .inl h1, hv⟩, fun w H2 y => ?_⟩
    obtain ⟨e, y⟩ := y
    have z := y vs (.inl h1)
    rw [hv] at z
    cases z
    exact .inl ⟨e, rp.le l⟩
end
end Dy
end
section
set_option Elab.async false
set_option linter.all false
set_option maxRecDepth 100000
set_option maxHeartbeats 4000000
namespace Dy
open PySem PySem.Spec PyProof.Rows L2 RZ
variable [LawI] [Ph]
section
variable {X : Cx} {W : WX} {a b : Expr} {oa ob : Opd} {P F0 : Hp} {F F' : Fz} {σ : L2.St} {H H' : Hp} {s s1 : S} {Q : VK} {K : PySem.W.Frag} {v : V} {x : D} {pins : List (Addr × Obj)} {sh : Shared}
theorem tD.run {m : M Sl} {r : Sl} (st : StRel K P F0 F σ H s) (e : m s = .ok r s1) : tD K W m σ H fun v H1 => ∃ F1, F.le F1 ∧ StRel K P F0 F1 σ H1 s1 ∧ RV K P F1 σ H1 s1 v r :=
  ⟨P, F0, F, s, st, by rw [e]; exact fun v F1 H1 l1 st1 rv1 => ⟨F1, l1, st1, rv1⟩⟩
theorem feeds_tup {a : Addr} {vs : List V} {ds : List D} (h : SqT K F.hp a vs) (r : RpAll K F vs ds) : Feeds K P F (Itt K a) ds := fun i F1 H1 l hs _ => by
  have h1 : SqT K H1 a vs := sqT_sub hs (sqT_le l.hp h)
  refine ⟨fun hi => ⟨vs, h1, ?_⟩, fun x hx => ?_⟩
  · rw [r.length]; exact hi
  · obtain ⟨v, hv, rp⟩ := r.get hx
    refine ⟨⟨vs, v, h1, hv⟩, fun w H2 y => ?_⟩
    obtain ⟨e, y⟩ := y
    have z := y vs h1
    rw [hv] at z
    cases z
    exact .inl ⟨e, rp.le l⟩
theorem feeds_str {z : Str} : Feeds K P F (Its z) (charsD z) := fun i F1 H1 l hs _ => by
  refine ⟨fun hi => ?_, fun x hx => ?_⟩
  · show z.cps.size ≤ i
    simpa [charsD] using hi
  · unfold charsD at hx
    rw [List.getElem?_map] at hx
    cases e : z.cps.toList[i]? with
    | none => rw [e] at hx; cases hx
    | some c =>
      rw [e] at hx
      cases hx
      have e' : z.cps[i]? = some c := by simpa using e
      refine ⟨(Array.getElem?_eq_some_iff.mp e').1, fun w H2 y => ?_⟩
      obtain ⟨e1, c', e2, rfl⟩ := y
      rw [e'] at e2
      cases e2
      exact .inl ⟨e1, .str _⟩
theorem di_iter {tg e : Expr} {m : M Sl} (h : DE X W e m) : DI X W tg e (itD m) := by
  refine PI.weaken (PI.or (pi_list h) (PI.or (pi_tup h) (pi_str h))) ?_
  rintro σ H R ⟨P, F0, F, s, st, q⟩
  unfold itD at q
  cases em : m s with
  | bad =>
    rw [em] at q
    exact q.elim
  | exc c s1 =>
    rw [em] at q
    refine .inl ⟨P, F0, F, s, st, ?_⟩
    rw [em]
    exact q
  | ok r s1 =>
    rw [em] at q
    have q : ResI X.K W P F0 F σ (match r.val with
      | .list xs => Out.ok xs s1
      | .tuple xs => .ok xs s1
      | .str z => .ok (charsD z) s1
      | _ => .bad) R := q
    split at q
    · rename_i xs ev
      refine .inl (tD_mono (tD.run st em) ?_)
      rintro v H1 ⟨F1, l1, st1, rv⟩
      obtain ⟨F2, l2, st2, rp⟩ := rv.freeze st1
      rw [ev] at rp
      cases rp with
      | lst hq ra => exact ⟨_, rfl, ⟨_, .inl (rd_sub st2.fH hq)⟩, q _ F2 H1 (l1.trans l2) st2 (feeds_list hq ra)⟩
    · rename_i xs ev
      refine .inr (.inl (tD_mono (tD.run st em) ?_))
      rintro v H1 ⟨F1, l1, st1, rv⟩
      obtain ⟨F2, l2, st2, rp⟩ := rv.freeze st1
      rw [ev] at rp
      cases rp with
      | tup hq ra => exact ⟨_, rfl, ⟨_, sqT_sub st2.fH hq⟩, q _ F2 H1 (l1.trans l2) st2 (feeds_tup hq ra)⟩
    · rename_i z ev
      refine .inr (.inr (tD_mono (tD.run st em) ?_))
      rintro v H1 ⟨F1, l1, st1, rv⟩
      obtain ⟨F2, l2, st2, rp⟩ := rv.freeze st1
      rw [ev] at rp
      exact ⟨z, rp.str_inv, q _ F2 H1 (l1.trans l2) st2 feeds_str⟩
    · exact q.elim
/-! ### range -/
def rngL (lo : Int) (n : Nat) : List D := (List.range n).map fun i => .int (lo + (i : Nat))
theorem feeds_rng {lo : Int} {n : Nat} : Feeds K P F (Itr lo n) (rngL lo n) := fun i F1 H1 l hs _ => by
  refine ⟨fun hi => ?_, fun x hx => ?_⟩
  · show n ≤ i
    simpa [rngL] using hi
  · unfold rngL at hx
    rw [List.getElem?_map] at hx
    by_cases hi : i < n
    · rw [List.getElem?_range hi] at hx
      cases hx
      refine ⟨hi, fun w H2 y => ?_⟩
      obtain ⟨e1, rfl⟩ := y
      exact .inl ⟨e1, .int _⟩
    · rw [List.getElem?_eq_none (by simpa using hi)] at hx
      cases hx
theorem ResI.le {out : Out (List D)} {R : It → Hp → Prop} (l : F.le F') (h : ResI K W P F0 F σ out R) : ResI K W P F0 F' σ out R := by
  cases out with
  | ok r s => exact fun J G H' lG st => h J G H' (l.trans lG) st
  | exc c s => exact fun G H' lG st => h G H' (l.trans lG) st
  | bad => exact h
def fitsR (j : Int) : Bool := decide (-(2 ^ 62) ≤ j ∧ j < 2 ^ 62)
def rng1D (m : M Sl) : M (List D) := fun s => (m s).bind fun r s => match r.val with
  | .int j => if fitsR j = true then .ok (rngL 0 j.toNat) s else .bad
  | _ => .bad
def rng2D (m n : M Sl) : M (List D) := fun s => (m s).bind fun r s => (n s).bind fun t s => match r.val, t.val with
  | .int i, .int j => if fitsR i = true ∧ fitsR j = true then .ok (rngL i (j - i).toNat) s else .bad
  | _, _ => .bad
theorem fitsR_ok {j : Int} (h : fitsR j = true) : -(2 ^ 62) ≤ j ∧ j < 2 ^ 62 := of_decide_eq_true h
theorem di_range1 {tg : Expr} {p pos : Pos} {m : M Sl} (hg : Gl X "range") (hm : X.mg "range" = none) (ha : DE X W a m) (hs : starEach [a] X.env = [(false, eval a X.env)] := by rfl) (he : starEach [a] X.env = (false, eval a X.env) :: starEach [] X.env := by rfl) : DI X W tg (.Call (.Name "range" p) [a] [] pos) (rng1D m) := by
  refine PI.weaken (pi_range1 hg hm (pa_cons ha pa_nil he) hs) ?_
  rintro σ H R ⟨P, F0, F, s, st, q⟩
  refine tD_mono (tD.bindI st q) ?_
  rintro v H1 ⟨F1, s1, r, l1, st1, rv, q1⟩
  split at q1
  · rename_i j ej
    split at q1
    · rename_i hj
      have z := rv.bor
      rw [ej] at z
      obtain ⟨h1, h2⟩ := fitsR_ok hj
      exact ⟨j, by rw [z.int], h1, h2, q1 _ F1 H1 (.refl _) st1 feeds_rng⟩
    · exact q1.elim
  · exact q1.elim
theorem di_range2 {tg : Expr} {p pos : Pos} {m n : M Sl} (hg : Gl X "range") (hm : X.mg "range" = none) (ha : DE X W a m) (hb : DE X W b n) (hs : starEach [a, b] X.env = [(false, eval a X.env), (false, eval b X.env)] := by rfl) (hs2 : starEach [b] X.env = [(false, eval b X.env)] := by rfl)
    (he : starEach [a, b] X.env = (false, eval a X.env) :: starEach [b] X.env := by rfl) (he2 : starEach [b] X.env = (false, eval b X.env) :: starEach [] X.env := by rfl) : DI X W tg (.Call (.Name "range" p) [a, b] [] pos) (rng2D m n) := by
  refine PI.weaken (pi_range2 hg hm (pa_cons ha (pa_cons hb pa_nil he2) he) hs hs2) ?_
  rintro σ H R ⟨P, F0, F, s, st, q⟩
  refine tD_mono (tD.bindI st q) ?_
  rintro v H1 ⟨F1, s1, r, l1, st1, rv, q1⟩
  obtain ⟨F2, l2, st2, rp⟩ := rv.freeze st1
  refine tD_mono (tD.bindI st2 (ResI.le l2 q1)) ?_
  rintro u H2 ⟨F3, s3, t, l3, st3, rv3, q3⟩
  split at q3
  · rename_i i j ei ej
    split at q3
    · rename_i hj
      have z := rv3.bor
      rw [ej] at z
      rw [ei] at rp
      obtain ⟨h1, h2⟩ := fitsR_ok hj.1
      obtain ⟨h3, h4⟩ := fitsR_ok hj.2
      exact ⟨i, j, by rw [rp.int_inv, z.int], ⟨h1, h2, h3, h4⟩, q3 _ F3 H2 (.refl _) st3 feeds_rng⟩
    · exact q3.elim
  · exact q3.elim
/-! ### zip, enumerate -/
def zipL : List D → List D → List D
  | x :: xs, y :: ys => .tuple [x, y] :: zipL xs ys
  | _, _ => []
theorem zipL_get : ∀ (xs ys : List D) (i : Nat), (zipL xs ys)[i]? = (match xs[i]?, ys[i]? with
    | some x, some y => some (.tuple [x, y])
    | _, _ => none)
  | [], ys, i => by simp [zipL]
  | x :: xs, [], i => by
    cases i <;> simp [zipL]
  | x :: xs, y :: ys, 0 => rfl
  | x :: xs, y :: ys, i + 1 => by
    rw [zipL, List.getElem?_cons_succ, List.getElem?_cons_succ, List.getElem?_cons_succ]
    exact zipL_get xs ys i
theorem zipL_len : ∀ (xs ys : List D), (zipL xs ys).length = min xs.length ys.length
  | [], ys => by simp [zipL]
  | x :: xs, [] => by simp [zipL]
  | x :: xs, y :: ys => by rw [zipL, List.length_cons, zipL_len xs ys]; simp only [List.length_cons]; omega
def zipD (m n : M Sl) : M (List D) := fun s => (m s).bind fun r s => (n s).bind fun t s => match r.val, t.val with
  | .list xs, .list ys => .ok (zipL xs ys) s
  | .tuple xs, .tuple ys => .ok (zipL xs ys) s
  | _, _ => .bad
theorem feeds_zip {a b : Addr} {vs us : List V} {ds es : List D} (h : Rd F.hp a (.lst vs)) (h' : Rd F.hp b (.lst us)) (r : RpAll K F vs ds) (r' : RpAll K F us es) : Feeds K P F (Itz K a b) (zipL ds es) := fun i F1 H1 l hs _ => by
  have h1 : Rd H1 a (.lst vs) := rd_sub hs (rd_le l.hp h)
  have h2 : Rd H1 b (.lst us) := rd_sub hs (rd_le l.hp h')
  have e1 := r.length
  have e2 := r'.length
  refine ⟨fun hi => ⟨vs, us, .inl h1, .inl h2, ?_⟩, fun x hx => ?_⟩
  · rw [zipL_len] at hi
    omega
  · rw [zipL_get] at hx
    cases q1 : ds[i]? with
    | none => rw [q1] at hx; cases hx
    | some d =>
      cases q2 : es[i]? with
      | none => rw [q1, q2] at hx; cases hx
      | some e =>
        rw [q1, q2] at hx
        cases hx
        obtain ⟨v, hv, rp⟩ := r.get q1
        obtain ⟨u, hu, rp'⟩ := r'.get q2
        refine ⟨⟨vs, us, v, u, .inl h1, .inl h2, hv, hu⟩, fun w H2 y => ?_⟩
        obtain ⟨T, x, y', rfl, hT, rfl, g1, g2⟩ := y
        have z1 := g1 vs (.inl h1)
        have z2 := g2 us (.inl h2)
        rw [hv] at z1
        rw [hu] at z2
        cases z1
        cases z2
        exact .inr ⟨T, _, _, hT, rfl, rfl, rfl, .cons (rp.le l) (.cons (rp'.le l) .nil)⟩
theorem feeds_zipT {a b : Addr} {vs us : List V} {ds es : List D} (h : SqT K F.hp a vs) (h' : SqT K F.hp b us) (r : RpAll K F vs ds) (r' : RpAll K F us es) : Feeds K P F (ItzT K a b) (zipL ds es) := fun i F1 H1 l hs _ => by
  have h1 : SqT K H1 a vs := sqT_sub hs (sqT_le l.hp h)
  have h2 : SqT K H1 b us := sqT_sub hs (sqT_le l.hp h')
  have e1 := r.length
  have e2 := r'.length
  refine ⟨fun hi => ⟨vs, us, h1, h2, ?_⟩, fun x hx => ?_⟩
  · rw [zipL_len] at hi
    omega
  · rw [zipL_get] at hx
    cases q1 : ds[i]? with
    | none => rw [q1] at hx; cases hx
    | some d =>
      cases q2 : es[i]? with
      | none => rw [q1, q2] at hx; cases hx
      | some e =>
        rw [q1, q2] at hx
        cases hx
        obtain ⟨v, hv, rp⟩ := r.get q1
        obtain ⟨u, hu, rp'⟩ := r'.get q2
        refine ⟨⟨vs, us, v, u, h1, h2, hv, hu⟩, fun w H2 y => ?_⟩
        obtain ⟨T, x, y', rfl, hT, rfl, g1, g2⟩ := y
        have z1 := g1 vs h1
        have z2 := g2 us h2
        rw [hv] at z1
        rw [hu] at z2
        cases z1
        cases z2
        exact .inr ⟨T, _, _, hT, rfl, rfl, rfl, .cons (rp.le l) (.cons (rp'.le l) .nil)⟩
theorem di_zip {elts : List Expr} {kk : Nat} {p pos tpos : Pos} {m n : M Sl} (hg : Gl X "zip") (hm : X.mg "zip" = none) (ha : DE X W a m) (hb : DE X W b n) (hs : starEach [a, b] X.env = (false, eval a X.env) :: starEach [b] X.env := by rfl) (hpl : (backTo pos (starEach [b] X.env)).any (·.1) = false := by rfl)
    (he2 : starEach [b] X.env = (false, eval b X.env) :: starEach [] X.env := by rfl) : DI X W (.Tuple elts kk tpos) (.Call (.Name "zip" p) [a, b] [] pos) (zipD m n) := by
  refine PI.weaken (pi_zipA hg hm (pa_cons ha (pa_cons hb pa_nil he2) hs) hs hpl) ?_
  rintro σ H R ⟨P, F0, F, s, st, q⟩
  refine tD_mono (tD.bindI st q) ?_
  rintro v H1 ⟨F1, s1, r, l1, st1, rv, q1⟩
  obtain ⟨F2, l2, st2, rp⟩ := rv.freeze st1
  refine tD_mono (tD.bindI st2 (ResI.le l2 q1)) ?_
  rintro u H2 ⟨F3, s3, t, l3, st3, rv3, q3⟩
  obtain ⟨F4, l4, st4, rp4⟩ := rv3.freeze st3
  have rp := rp.le (l3.trans l4)
  split at q3
  · rename_i xs ys ei ej
    rw [ei] at rp
    rw [ej] at rp4
    cases rp with
    | lst h r =>
      cases rp4 with
      | lst h' r' => exact ⟨_, _, _, _, rfl, .inl ⟨.inl (rd_sub st4.fH h), .inl (rd_sub st4.fH h'), q3 _ F4 H2 l4 st4 (feeds_zip h h' r r')⟩⟩
  · rename_i xs ys ei ej
    rw [ei] at rp
    rw [ej] at rp4
    cases rp with
    | tup h r =>
      cases rp4 with
      | tup h' r' => exact ⟨_, _, _, _, rfl, .inr ⟨sqT_sub st4.fH h, sqT_sub st4.fH h', q3 _ F4 H2 l4 st4 (feeds_zipT h h' r r')⟩⟩
  · exact q3.elim
/-! ### one's own objects written -/
theorem StRel.write (st : StRel K P F0 F σ H s) {i : Nat} {x x' : D} {a : Addr} {o' : HO} (e : s.env[i]? = some (.o x)) (ea : σ.getD i none = some (.ref a)) (h : ObD K F o' x') : StRel K P F0 F σ (upd H a o') { s with env := s.env.set i (.o x') } := by
  obtain ⟨a', e1, ow⟩ := st.slot i _ e
  rw [ea] at e1
  cases e1
  have lt : i < s.env.length := (List.getElem?_eq_some_iff.mp e).1
  obtain ⟨o0, eo, ro⟩ := ow.ob
  refine ⟨fun b u q => ?_, fun b u q => ?_, st.new, by simpa using st.len, fun j sl ej => ?_, fun j k y z b hjk ej ek => ?_, ?_, st.tb.write eo ro.nx, st.ph⟩
  · have hb : b ≠ a := fun z => by rw [z, ow.fr] at q; cases q
    rw [upd_ne hb]
    exact st.fH b u q
  · have hb : b ≠ a := fun z => by rw [z, ow.pr] at q; cases q
    rw [upd_ne hb]
    exact st.pH b u q
  · by_cases h1 : j = i
    · subst h1
      rw [List.getElem?_set_self lt] at ej
      cases ej
      exact ⟨a, ea, ow.fr, ow.pr, ow.dr, o', upd_same, h⟩
    · rw [List.getElem?_set_ne (Ne.symm h1)] at ej
      have q := st.slot j sl ej
      cases sl with
      | u => trivial
      | d x => exact q
      | o y =>
        obtain ⟨b, e2, w⟩ := q
        have hb : b ≠ a := fun z => st.sep i j x y a (Ne.symm h1) e ej ea (by rw [e2, z])
        obtain ⟨ob, e3, r⟩ := w.ob
        exact ⟨b, e2, w.fr, w.pr, w.dr, ob, by rw [upd_ne hb]; exact e3, r⟩
  · by_cases h1 : j = i
    · subst h1
      rw [List.getElem?_set_self lt] at ej
      cases ej
      rw [List.getElem?_set_ne hjk] at ek
      exact st.sep j k x z b hjk e ek
    · rw [List.getElem?_set_ne (Ne.symm h1)] at ej
      by_cases h2 : k = i
      · subst h2
        rw [List.getElem?_set_self lt] at ek
        cases ek
        exact st.sep j k y x b hjk ej e
      · rw [List.getElem?_set_ne (Ne.symm h2)] at ek
        exact st.sep j k y z b hjk ej ek
  · have q := st.dr
    show DrOk P F _ s.dr
    cases hst : s.dr with
    | none =>
      rw [hst] at q
      exact q
    | some r =>
      rw [hst] at q
      obtain ⟨d, w, c, q1, q2, q3, q4, q5⟩ := q
      obtain ⟨nd, nw⟩ := ow.dr d w q1
      exact ⟨d, w, c, q1, q2, by rw [upd_ne nd.symm]; exact q3, by rw [upd_ne nw.symm]; exact q4, q5⟩
def ownL (s : S) (i : Nat) (f : List D → Out Sl) : Out Sl := match s.env[i]? with
  | some (.o (.list xs)) => f xs
  | _ => .bad
theorem ownL_ok {i : Nat} {f : List D → Out Sl} (st : StRel K P F0 F σ H s) (h : Res K W P F0 F σ (ownL s i f) Q) : ∃ xs a vs, s.env[i]? = some (.o (.list xs)) ∧ σ[i]? = some (some (.ref a)) ∧ H a = some (.lst vs) ∧ RpAll K F vs xs ∧ Res K W P F0 F σ (f xs) Q := by
  unfold ownL at h
  split at h
  · rename_i xs e
    obtain ⟨a, e1, ow⟩ := st.slot i _ e
    obtain ⟨o, e2, r⟩ := ow.ob
    cases r with
    | lst r => exact ⟨xs, a, _, e, getD_some e1, e2, r, h⟩
  · exact h.elim
/-- name.append(e) -/
def appD (i : Nat) (m : M Sl) : M Sl := fun s => ownL s i fun _ => (m s).bind fun y s => ownL s i fun xs => if xs.length < sizeLine then .ok (.d .none) { s with env := s.env.set i (.o (.list (xs ++ [y.val]))) } else .bad
theorem d_append {o : Expr} {i : Nat} {m : M Sl} {apos cpos : Pos} (ho : PE X o (tVar i)) (ha : DE X W a m) (he : starEach [a] X.env = (false, eval a X.env) :: starEach [] X.env := by rfl)
    (hpe : ∀ {r : V → List V → Hp → VK → Prop} {to : TE} {t : TA}, MtR X "list.append" r → PE X o to → PA X [a] t → PE X (.Call (.Attribute o "append" apos) [a] [] cpos) (tBM X.K "list" r to t) := by intro r to t h1 h2 h3; exact pe_bm PySem.F.plainAttrs_list PySem.F.slot_list_append PySem.F.type_list_append h1 h2 h3) :
    DE X W (.Call (.Attribute o "append" apos) [a] [] cpos) (appD i m) := by
  refine PE.weaken (hpe mt_append ho (pa_cons ha pa_nil he)) ?_
  rintro σ H Q ⟨P, F0, F, s, st, q⟩
  obtain ⟨xs, a, vs, e1, e2, e3, r, q⟩ := ownL_ok st q
  refine ⟨_, e2, .inl ⟨rfl, vs, .inl (.inl e3)⟩, ?_⟩
  refine tD_mono (tD.bind st q) ?_
  rintro v H1 ⟨F1, s1, y, l1, st1, rv, q1⟩
  obtain ⟨F2, l2, st2, rp⟩ := rv.freeze st1
  obtain ⟨xs2, a2, vs2, k1, k2, k3, r2, q2⟩ := ownL_ok st2 (Res.le l2 q1)
  rw [e2] at k2
  cases k2
  split at q2
  · rename_i hz
    refine ⟨a, vs2, v, rfl, rfl, k3, by rw [r2.length]; exact hz, ?_⟩
    exact q2 .non F2 _ (.refl _) (st2.write k1 (getD_of e2) (.lst (r2.append (.cons rp .nil)))) .non
  · exact q2.elim
/-- name.pop(e) -/
def popD (i : Nat) (m : M Sl) : M Sl := fun s => ownL s i fun _ => (m s).bind fun y s => ownL s i fun xs => match y.val with
  | .int j => if -(2 ^ 63) ≤ j ∧ j < 2 ^ 63 then match seqIndex? j xs.length with
    | some k => match xs[k]? with
      | some z => .ok (.d z) { s with env := s.env.set i (.o (.list (xs.eraseIdx k))) }
      | none => .bad
    | none => .bad else .bad
  | _ => .bad
theorem d_pop {o : Expr} {i : Nat} {m : M Sl} {apos cpos : Pos} (ho : PE X o (tVar i)) (ha : DE X W a m) (he : starEach [a] X.env = (false, eval a X.env) :: starEach [] X.env := by rfl)
    (hpe : ∀ {r : V → List V → Hp → VK → Prop} {to : TE} {t : TA}, MtR X "list.pop" r → PE X o to → PA X [a] t → PE X (.Call (.Attribute o "pop" apos) [a] [] cpos) (tBM X.K "list" r to t) := by intro r to t h1 h2 h3; exact pe_bm PySem.F.plainAttrs_list PySem.F.slot_list_pop PySem.F.type_list_pop h1 h2 h3) :
    DE X W (.Call (.Attribute o "pop" apos) [a] [] cpos) (popD i m) := by
  refine PE.weaken (hpe mt_popAt ho (pa_cons ha pa_nil he)) ?_
  rintro σ H Q ⟨P, F0, F, s, st, q⟩
  obtain ⟨xs, a, vs, e1, e2, e3, r, q⟩ := ownL_ok st q
  refine ⟨_, e2, .inl ⟨rfl, vs, .inl (.inl e3)⟩, ?_⟩
  refine tD_mono (tD.bind st q) ?_
  rintro v H1 ⟨F1, s1, y, l1, st1, rv, q1⟩
  obtain ⟨xs2, a2, vs2, k1, k2, k3, r2, q2⟩ := ownL_ok st1 q1
  rw [e2] at k2
  cases k2
  split at q2
  · rename_i j ej
    split at q2
    · rename_i hj
      split at q2
      · rename_i k ek
        split at q2
        · rename_i z ez
          have b := rv.bor
          rw [ej] at b
          obtain ⟨w, e5, rp⟩ := r2.get ez
          refine ⟨a, vs2, j, k, w, rfl, by rw [b.int], k3, hj.1, hj.2, by rw [r2.length]; exact ek, e5, ?_⟩
          exact q2 w F1 _ (.refl _) (st1.write k1 (getD_of e2) (.lst (r2.eraseIdx k))) rp
        · exact q2.elim
      · exact q2.elim
    · exact q2.elim
  · exact q2.elim
/-! ### join -/
def strsOf : List D → Option (List Str)
  | [] => some []
  | .str b :: r => (strsOf r).map (b :: ·)
  | _ => none
theorem strsOf_eq : ∀ {ds : List D} {bs : List Str}, strsOf ds = some bs → ds = bs.map .str
  | [], _, e => by cases e; rfl
  | d :: r, bs, e => by
    cases d with
    | str b =>
      have e : (strsOf r).map (b :: ·) = some bs := e
      cases h : strsOf r with
      | none => rw [h] at e; cases e
      | some cs =>
        rw [h] at e
        cases e
        rw [strsOf_eq h]
        rfl
    | _ => cases e
theorem strsOf_map : ∀ bs : List Str, strsOf (bs.map .str) = some bs
  | [] => rfl
  | b :: r => by
    show (strsOf (r.map .str)).map (b :: ·) = _
    rw [strsOf_map r]
    rfl
def joinD (x y : D) : Option Sl := match x, y with
  | .str z, .list ds => match strsOf ds with
    | some ys => if (ys.map (·.length)).sum + ys.length * z.length ≤ 16777216 then some (.d (.str (Txt.join z ys))) else none
    | none => none
  | _, _ => none
theorem d_join {o : Expr} {m : M Sl} {apos cpos : Pos} (ho : DE X W o m) (ha : OO X W a ob) (hstr : ∀ s r s', m s = .ok r s' → ∃ z, r.val = .str z)
    (hpe : ∀ {to te : TE}, PE X o to → PE X a te → PE X (.Call (.Attribute o "join" apos) [a] [] cpos) (tM1 (fun x xs H Q => ∃ a p, ∃ ys : List Str, x = .str a ∧ xs = [.ref p] ∧ (SqL X.K H p (ys.map V.str) ∨ SqT X.K H p (ys.map V.str)) ∧ (ys.map (·.length)).sum + ys.length * a.length ≤ 16777216 ∧ Q (.str (Txt.join a ys)) H) to te) := by intro to te h1 h2; exact pe_join h1 h2) :
    DE X W (.Call (.Attribute o "join" apos) [a] [] cpos) (opd2 (.e m) ob (lift2 joinD)) := by
  refine PE.weaken (hpe ho ha.pe) ?_
  rintro σ H Q ⟨P, F0, F, s, st, q⟩
  have h2 : tD X.K W m σ H fun v H1 => (∃ z, v = .str z) ∧ tOpd X.K W ob σ H1 fun u H2 => rD X.K joinD v u H2 Q := by
    have q' : Res X.K W P F0 F σ (opd2 (.e m) ob (lift2 joinD) s) Q := q
    have z2 := opd2_ok st q
    obtain ⟨P', F0', F', s', st', rr⟩ := z2
    refine ⟨P', F0', F', s', st', ?_⟩
    cases em2 : m s' with
    | bad => rw [em2] at rr; exact rr
    | exc c s2 => rw [em2] at rr; exact rr
    | ok r2 s2 =>
      rw [em2] at rr
      intro v F1 H1 l1 st1 rv
      obtain ⟨z', ez'⟩ := hstr s' r2 s2 em2
      have b := rv.bor
      rw [ez'] at b
      refine ⟨⟨z', b.str⟩, tOpd_mono (rr v F1 H1 l1 st1 rv) ?_⟩
      rintro u H2 ⟨F2, s2, x, y, l, st2, b1, b2, q⟩
      exact lift2_ok st2 b1 b2 q
  refine tD_mono h2 ?_
  rintro v H1 ⟨hz, t⟩
  refine ⟨hz, tOpd_mono t ?_⟩
  rintro u H2 ⟨P, F0, F, σ', s, dx, dy, r, sr, b1, b2, e, q⟩
  unfold joinD at e
  split at e
  · rename_i z ds
    split at e
    · rename_i ys ey
      split at e
      · rename_i hh
        cases e
        obtain ⟨a, vs, rfl, h1, ra⟩ := b2.list sr.fH
        rw [strsOf_eq ey] at ra
        rw [ra.strs] at h1
        exact ⟨z, a, ys, b1.str, rfl, .inl (.inl h1), hh, q _ F H2 (.refl F) sr (.str _)⟩
      · cases e
    · cases e
  · cases e
theorem str_const {z : Str} : ∀ s r s', cD (.str z) s = .ok r s' → ∃ z, r.val = .str z := fun s r s' e => by cases e; exact ⟨z, rfl⟩
end
end Dy
end
section
set_option Elab.async false
set_option linter.all false
set_option maxRecDepth 100000
set_option maxHeartbeats 4000000
namespace Dy
open PySem PySem.Spec PyProof.Rows L2
variable [LawI] [Ph]
/-! ### enumerate of a tuple -/
theorem enumT_end {prog : Program} {w : World} {A : Around} {E : Value → Shared → Prop} {s : Shared} {e it a : Addr} {i : Nat} {items : Array Value} {k : Int} {old : Value} {Q : Option Value → Shared → Prop}
    (hh : A.handled = none) (he : IsEnum s.heap e it k old) (hit : s.heap.IsTupleIter it a i) (ht : s.heap.IsTuple a items) (hx : items[i]? = none)
    (hQ : ∀ h', Heap.ExtBut it s.heap h' → Q none { s with heap := h' }) : wpAny (model prog w) A (pyNext (.ref e)) Q E s := by
  have hT : s.TypeIs (.ref e) "enumerate" := ⟨_, he, rfl⟩
  unfold pyNext
  refine wpAny_bind (wpAny_attempt (wpAny_callSpecial?_slot (name := Str.ofString "__next__") hT F.slot_enumerate_next
    (wpAny_call_entry F.slot_enumerate_next hT F.entry_enumerate_next ?_ (F.args_enumerate_next_1 _))))
  show wpAny _ _ (field (.ref e) 2 >>= _) _ _ _
  refine wpAny_bind (wpAny_field he rfl (x := .ref it) rfl ?_)
  refine wpAny_bind (wpAny_nextOf_tuple_end (A := A.in1) hh hit ht hx fun h' x he' hx' => ?_)
  obtain ⟨o, ho, hc⟩ := hx'
  refine wpAny_bind (wpAny_isInstance (T := "StopIteration") (b := true) ⟨o, ho, hc⟩ isSubtype_stop ?_)
  exact wpAny_pure (hQ _ he')
set_option maxHeartbeats 1000000 in
theorem meets_enum1 {v : Value} {o : Obj} {H : Heap → Prop} (B : Begins v o H) :
    Meets (Builtin.«enumerate.__new__» ⟨[.type "enumerate", v], []⟩) (fun _ R s => H s.heap ∧
      R (.ok (.ret (.ref (s.heap.push o).objs.size))) { s with heap := (s.heap.push o).push { cls := .type "enumerate", data := .fields #[.none, .bool false, .ref s.heap.objs.size, rawInt 0, .none, .none] } }) :=
  .of_wp fun prog w A R s h => by
    obtain ⟨hp, g, d, tk, os⟩ := s; obtain ⟨h1, h⟩ := h
    have hsub := sub_enumerate
    have q1 : ∀ {A' : Around} {E : Value → Shared → Prop} {Q : Value → Shared → Prop}, Q (.ref hp.objs.size) ⟨hp.push o, g, d, tk, os⟩ → wpAny (model prog w) A' (pyIter v) Q E ⟨hp, g, d, tk, os⟩ :=
      fun q => B.iter prog w _ _ ⟨hp, g, d, tk, os⟩ _ h1 q
    wp_walk using q1
    refine wpAny_stack_any fun st => wpAny_pure ?_
    split
    · rename_i c _ _ _ _ _
      cases (c == Value.type "enumerate")
      · wp_walk using q1
        exact ⟨_, rfl, h⟩
      · wp_walk using q1
        exact ⟨_, rfl, h⟩
    · wp_walk using q1
      exact ⟨_, rfl, h⟩
theorem enum_begins1 {prog : Program} {w : World} {A : Around} {E : Value → Shared → Prop} {s : Shared} {v : Value} {o : Obj} {H : Heap → Prop} {Q : Value → Shared → Prop} (B : Begins v o H) (h1 : H s.heap)
    (h : ∀ h', IsEnum h' (s.heap.objs.size + 1) s.heap.objs.size 0 .none → h'.get? s.heap.objs.size = some o → h'.objs.size = s.heap.objs.size + 2 →
      (∀ b o, s.heap.get? b = some o → h'.get? b = some o) → Q (.ref (s.heap.objs.size + 1)) { s with heap := h' }) :
    wpAny (model prog w) A (call (.type "enumerate") [v]) Q E s := by
  refine callType_new F.called_enumerate (by decide) (F.typeCall_enumerate_1 _) (F.newCall_enumerate_1 _) (fun obj => F.args_object_init_2 obj _) F.entry_enumerate_new
    (meets_enum1 B) ⟨h1, ?_⟩
  have hz : (s.heap.push o).objs.size = s.heap.objs.size + 1 := Heap.size_push ..
  show _ ∧ _
  rw [hz]
  have he : IsEnum ((s.heap.push o).push { cls := .type "enumerate", data := .fields #[.none, .bool false, .ref s.heap.objs.size, rawInt 0, .none, .none] }) (s.heap.objs.size + 1) s.heap.objs.size 0 .none := by
    have := Heap.get?_push_size (s.heap.push o) (o := { cls := .type "enumerate", data := .fields #[.none, .bool false, .ref s.heap.objs.size, rawInt 0, .none, .none] }) rfl
    rw [hz] at this; exact this
  refine ⟨⟨_, he, rfl⟩, h _ he (Heap.get?_push_of_some _ (Heap.get?_push_size _ B.free)) (by rw [Heap.size_push, hz]) fun b o x => Heap.get?_push_of_some _ (Heap.get?_push_of_some _ x)⟩
def ItvE (K : PySem.W.Frag) (a : Addr) : It :=
  ⟨fun i H => ∃ (xs : List V) (x : V), SqT K H a xs ∧ xs[i]? = some x, fun i H v H' => ∃ T x, v = .ref T ∧ H T = none ∧ H' = upd H T (.tup [.int (i : Nat), x]) ∧ ∀ xs, SqT K H a xs → xs[i]? = some x, fun i H => ∃ xs : List V, SqT K H a xs ∧ xs.length ≤ i⟩
theorem turn_enumT {P : Program} {w : World} {K : PySem.W.Frag} {elts : List Expr} {kk : Nat} {tpos : Pos} (a e it : Addr) (hae : a ≠ e) (hai : a ≠ it) :
    Turn P w K (.Tuple elts kk tpos) (ItvE K a) [e, it] e (fun i h => (∃ old, IsEnum h e it ((i : Nat) : Int) old) ∧ h.IsTupleIter it a i ∧ e ≠ it) where
  mem := by simp
  obj := fun i h st b hb => by
    obtain ⟨⟨old, he⟩, ⟨o, ho, hc, hd⟩, _⟩ := st
    have e' : b = e ∨ b = it := by simpa using hb
    rcases e' with z | z
    · rw [z]; exact ⟨_, he, fun v q => nomatch q⟩
    · rw [z]; exact ⟨o, ho, fun v q => by rw [hd] at q; cases q⟩
  keep := fun i h h' st k => let ⟨⟨old, he⟩, hi, hne⟩ := st; ⟨⟨old, k e (by simp) _ he⟩, hi.at fun o q => k it (by simp) o q, hne⟩
  item := by
    intro X hP hw hK hc i pins s σ H E I hf st hg
    subst hP hw hK
    obtain ⟨⟨old, he⟩, hit, hne⟩ := st
    obtain ⟨xs, x, hq, hx⟩ := hg
    obtain ⟨its, rv, p, hz⟩ := I.tuple hq
    obtain ⟨u, hu, ru⟩ := rv.get hx
    have hel : e < s.heap.objs.size := Heap.lt_size he
    have hil : it < s.heap.objs.size := by obtain ⟨_, q, _⟩ := hit; exact Heap.lt_size q
    have hT : s.heap.IsTuple a its.toArray := p
    have D := Draws.tuple (prog := X.prog) (w := X.w) (A := X.A.in1) (I.ok.hd hc) it a hai its.toArray
    have hlt : i < its.toArray.size := by
      have := (List.getElem?_eq_some_iff.mp hu).1
      simpa using this
    refine wpAny_pyNext_enum_itemD D he ⟨hit, hT⟩ hlt hne (by simp only [List.mem_cons, List.not_mem_nil, or_false, not_or]; exact ⟨hne, Ne.symm hae⟩) fun u' h' tk hP' ho hst' hT' hsz hk => ?_
    have eu : u' = u := by
      have h1 : its.toArray[i]? = some u' := hP'
      have h2 : its.toArray[i]? = some u := by simpa using hu
      rw [h1] at h2
      cases h2
      rfl
    subst eu
    refine ⟨_, rfl, wpAny_letOwnedTupleGo_enum (s := { s with heap := h', toks := tk + 1 }) ho fun h'' he' sb => ?_⟩
    have hT2 : h''.get? s.heap.objs.size = some { cls := .type "tuple", data := .seq #[.int i tk, u'] } := (sb.2 _ (Nat.ne_of_gt hel)).trans hT'
    have new : ObjOk X.prog X.w (upd H s.heap.objs.size (.tup [.int (i : Nat), x])) h'' s.heap.objs.size (.tup [.int (i : Nat), x]) :=
      ⟨by show 2 ≤ sizeLine; decide, [.int i tk, u'], .cons ⟨_, rfl⟩ (.cons ru .nil), ⟨_, hT2, rfl, _, rfl⟩⟩
    have I1 : Inv X pins σ (upd H s.heap.objs.size (.tup [.int (i : Nat), x])) { s with heap := h'', toks := tk + 1 } :=
      I.turnedNew (ch := [e, it]) (fun b ob hb q => (sb.2 b (fun z => hb (by simp [z]))).trans (hk b ob (fun z => hb (by simp [z])) (fun z => hb (by simp [z])) q)) hf (Nat.le_refl _) new
    refine ⟨.ref s.heap.objs.size, _, I1, rfl, ⟨_, x, rfl, I.hok.fresh (Nat.le_refl _), rfl, fun ys hy => by rw [I.tuple_inj hy hq]; exact hx⟩, ⟨⟨u', ?_⟩, hst'.1.at fun o q => (sb.2 it (Ne.symm hne)).trans q, hne⟩, fun b hb => ?_⟩
    · have e1 : ((i + 1 : Nat) : Int) = (i : Int) + 1 := by omega
      rw [e1]; exact he'
    · have hb' : b < s.heap.objs.size := by
        have e' : b = e ∨ b = it := by simpa using hb
        rcases e' with z | z
        · rw [z]; exact hel
        · rw [z]; exact hil
      rw [upd_ne (Nat.ne_of_lt hb')]
      exact (hf b hb).1
  done := by
    intro X hP hw hK hc i pins s σ H E I hf st hg
    subst hP hw hK
    obtain ⟨⟨old, he⟩, hit, hne⟩ := st
    obtain ⟨xs, hq, hx⟩ := hg
    obtain ⟨its, rv, p, hz⟩ := I.tuple hq
    obtain ⟨f0, f1, f2, f3, f4, f5⟩ := hf it (by simp)
    have hl := rv.length
    have hT : s.heap.IsTuple a its.toArray := p
    exact enumT_end (I.ok.hd hc) he hit hT (by simp; omega) fun h' eb => ⟨rfl, I.turned (t' := s.toks) (fun b o hb q => eb b o hb q) f0 f1 f3 f4 f5⟩
  self := fun A i s Q E st h => let ⟨⟨_, he⟩, _⟩ := st; wpAny_pyIter_enum he h
def iEnumT (K : PySem.W.Frag) (ta : TA) : TI := fun σ H R => ta σ H fun vs H1 => ∃ a xs, vs = [.ref a] ∧ SqT K H1 a xs ∧ R (ItvE K a) H1
theorem pi_enumT {X : Cx} {e : Expr} {ta : TA} {p pos tpos : Pos} {elts : List Expr} {kk : Nat} (hg : Gl X "enumerate") (hm : X.mg "enumerate" = none) (ha : PA X [e] ta) (hs : starEach [e] X.env = [(false, eval e X.env)] := by rfl) :
    PI X (.Tuple elts kk tpos) (.Call (.Name "enumerate" p) [e] [] pos) (iEnumT X.K ta) := by
  refine ⟨fun pins s σ H R I h => ?_⟩
  refine Call_ (ld_blt I hg hm boot_enumerate (PyProof.Rows.callWith_type1 (thn (ha.run pos pins s σ H _ I h) fun us s1 ⟨vs, H1, I1, r1, q1⟩ => ?_) hs rfl))
  obtain ⟨a, xs, ex, hq, q⟩ := q1
  subst ex
  cases r1 with
  | cons r rr =>
    cases rr
    cases r
    obtain ⟨its, rv, p', hz⟩ := I1.tuple hq
    have hT : s1.heap.IsTuple a its.toArray := p'
    have hal : a < s1.heap.objs.size := p'.lt
    refine enum_begins1 (begins_tuple a its.toArray) hT fun h' he hit hsz hk => wpAny_pyIter_enum he ?_
    have I2 : Inv X pins σ H1 { s1 with heap := h' } := I1.kept (t' := s1.toks) hk
    refine ⟨s1.heap.objs.size + 1, [s1.heap.objs.size + 1, s1.heap.objs.size], _, _, H1, rfl, I2, turn_enumT a (s1.heap.objs.size + 1) s1.heap.objs.size (Nat.ne_of_lt (Nat.lt_succ_of_lt hal)) (Nat.ne_of_lt hal), ⟨⟨.none, he⟩, ⟨_, hit, rfl, rfl⟩, Nat.succ_ne_self _⟩, fun b hb => ?_, q⟩
    have e' : b = s1.heap.objs.size + 1 ∨ b = s1.heap.objs.size := by simpa using hb
    have hle : s1.heap.objs.size ≤ b := by
      rcases e' with z | z
      · rw [z]; exact Nat.le_succ _
      · rw [z]; exact Nat.le_refl _
    exact I1.fpOk hle (I1.hok.fresh hle)
section
variable {X : Cx} {W : WX} {a b : Expr} {oa ob : Opd} {P F0 : Hp} {F F' : Fz} {σ : L2.St} {H H' : Hp} {s s1 : S} {Q : VK} {K : PySem.W.Frag} {v : V} {x : D} {pins : List (Addr × Obj)} {sh : Shared}
def enumL : Nat → List D → List D
  | _, [] => []
  | k, x :: xs => .tuple [.int (k : Nat), x] :: enumL (k + 1) xs
theorem enumL_get : ∀ (xs : List D) (k i : Nat), (enumL k xs)[i]? = (xs[i]?).map fun x => .tuple [.int ((k + i : Nat) : Int), x]
  | [], k, i => by simp [enumL]
  | x :: xs, k, 0 => rfl
  | x :: xs, k, i + 1 => by
    rw [enumL, List.getElem?_cons_succ, List.getElem?_cons_succ, enumL_get xs (k + 1) i, show k + 1 + i = k + (i + 1) by omega]
theorem enumL_len : ∀ (xs : List D) (k : Nat), (enumL k xs).length = xs.length
  | [], _ => rfl
  | x :: xs, k => by rw [enumL, List.length_cons, enumL_len xs, List.length_cons]
def enumD (m : M Sl) : M (List D) := fun s => (m s).bind fun r s => match r.val with
  | .list xs => .ok (enumL 0 xs) s
  | .tuple xs => .ok (enumL 0 xs) s
  | _ => .bad
theorem feeds_enum {a : Addr} {vs : List V} {ds : List D} (h : Rd F.hp a (.lst vs)) (r : RpAll K F vs ds) : Feeds K P F (Ite K a) (enumL 0 ds) := fun i F1 H1 l hs _ => by
  have h1 : Rd H1 a (.lst vs) := rd_sub hs (rd_le l.hp h)
  refine ⟨fun hi => ⟨vs, .inl h1, by rw [enumL_len] at hi; rw [r.length]; exact hi⟩, fun x hx => ?_⟩
  rw [enumL_get] at hx
  cases q1 : ds[i]? with
  | none => rw [q1] at hx; cases hx
  | some d =>
    rw [q1] at hx
    cases hx
    obtain ⟨v, hv, rp⟩ := r.get q1
    refine ⟨⟨vs, v, .inl h1, hv⟩, fun w H2 y => ?_⟩
    obtain ⟨T, x, rfl, hT, rfl, g1⟩ := y
    have z1 := g1 vs (.inl h1)
    rw [hv] at z1
    cases z1
    exact .inr ⟨T, _, _, hT, rfl, rfl, rfl, .cons (by rw [Nat.zero_add]; exact .int _) (.cons (rp.le l) .nil)⟩
theorem feeds_enumT {a : Addr} {vs : List V} {ds : List D} (h : SqT K F.hp a vs) (r : RpAll K F vs ds) : Feeds K P F (ItvE K a) (enumL 0 ds) := fun i F1 H1 l hs _ => by
  have h1 : SqT K H1 a vs := sqT_sub hs (sqT_le l.hp h)
  refine ⟨fun hi => ⟨vs, h1, by rw [enumL_len] at hi; rw [r.length]; exact hi⟩, fun x hx => ?_⟩
  rw [enumL_get] at hx
  cases q1 : ds[i]? with
  | none => rw [q1] at hx; cases hx
  | some d =>
    rw [q1] at hx
    cases hx
    obtain ⟨v, hv, rp⟩ := r.get q1
    refine ⟨⟨vs, v, h1, hv⟩, fun w H2 y => ?_⟩
    obtain ⟨T, x, rfl, hT, rfl, g1⟩ := y
    have z1 := g1 vs h1
    rw [hv] at z1
    cases z1
    exact .inr ⟨T, _, _, hT, rfl, rfl, rfl, .cons (by rw [Nat.zero_add]; exact .int _) (.cons (rp.le l) .nil)⟩
theorem di_enum {elts : List Expr} {kk : Nat} {p pos tpos : Pos} {m : M Sl} (hg : Gl X "enumerate") (hm : X.mg "enumerate" = none) (ha : DE X W a m) (hs : starEach [a] X.env = [(false, eval a X.env)] := by rfl) (he : starEach [a] X.env = (false, eval a X.env) :: starEach [] X.env := by rfl) :
    DI X W (.Tuple elts kk tpos) (.Call (.Name "enumerate" p) [a] [] pos) (enumD m) := by
  refine PI.weaken (PI.or (pi_enum hg hm (pa_cons ha pa_nil he) hs) (pi_enumT hg hm (pa_cons ha pa_nil he) hs)) ?_
  rintro σ H R ⟨P, F0, F, s, st, q⟩
  unfold enumD at q
  cases em : m s with
  | bad =>
    rw [em] at q
    exact q.elim
  | exc c s1 =>
    rw [em] at q
    refine .inl ⟨P, F0, F, s, st, ?_⟩
    rw [em]
    exact q
  | ok r s1 =>
    rw [em] at q
    have q : ResI X.K W P F0 F σ (match r.val with
      | .list xs => Out.ok (enumL 0 xs) s1
      | .tuple xs => .ok (enumL 0 xs) s1
      | _ => .bad) R := q
    split at q
    · rename_i xs ev
      refine .inl (tD_mono (tD.run st em) ?_)
      rintro v H1 ⟨F1, l1, st1, rv⟩
      obtain ⟨F2, l2, st2, rp⟩ := rv.freeze st1
      rw [ev] at rp
      cases rp with
      | lst hq ra => exact ⟨_, _, rfl, .inl (rd_sub st2.fH hq), q _ F2 H1 (l1.trans l2) st2 (feeds_enum hq ra)⟩
    · rename_i xs ev
      refine .inr (tD_mono (tD.run st em) ?_)
      rintro v H1 ⟨F1, l1, st1, rv⟩
      obtain ⟨F2, l2, st2, rp⟩ := rv.freeze st1
      rw [ev] at rp
      cases rp with
      | tup hq ra => exact ⟨_, _, rfl, sqT_sub st2.fH hq, q _ F2 H1 (l1.trans l2) st2 (feeds_enumT hq ra)⟩
    · exact q.elim
end
end Dy
end
section
set_option Elab.async false
set_option linter.all false
set_option maxRecDepth 100000
set_option maxHeartbeats 4000000
namespace Dy
open PySem PySem.Spec PyProof.Rows L2
variable [LawI] [Ph]
/-! ### dicts with int and text keys -/
def keyOf : D → Option Key
  | .int i => some (.inl i)
  | .str x => some (.inr x)
  | _ => none
theorem keyOf_kD : ∀ k : Key, keyOf (kD k) = some k
  | .inl _ => rfl
  | .inr _ => rfl
theorem kD_of {d : D} {k : Key} (h : keyOf d = some k) : d = kD k := by
  unfold keyOf at h
  split at h
  · cases h; rfl
  · cases h; rfl
  · cases h
def valD (kvs : List (D × D)) (k : Key) : Option D := (kvs.find? fun p => decide (keyOf p.1 = some k)).map (·.2)
def putD (kvs : List (D × D)) (k : Key) (x : D) : List (D × D) := if (kvs.any fun p => decide (keyOf p.1 = some k)) = true then kvs.map (fun p => if keyOf p.1 = some k then (p.1, x) else p) else kvs ++ [(kD k, x)]
section
variable {X : Cx} {W : WX} {a b : Expr} {oa ob : Opd} {P F0 : Hp} {F F' : Fz} {σ : L2.St} {H H' : Hp} {s s1 : S} {Q : VK} {K : PySem.W.Frag} {v : V} {x : D} {pins : List (Addr × Obj)} {sh : Shared} {T : Ends}
theorem Rp.kD (k : Key) : Rp K F (kV k) (Dy.kD k) := by
  cases k with
  | inl i => exact .int i
  | inr x => exact .str x
theorem RpKV.find : ∀ {kvs : List (Key × V)} {ds : List (D × D)} {k : Key}, RpKV K F kvs ds → (∀ d, valD ds k = some d → ∃ v, valV kvs k = some v ∧ Rp K F v d) ∧ (valD ds k = none → valV kvs k = none)
  | _, _, k, .nil => ⟨fun d e => by simp [valD] at e, fun _ => rfl⟩
  | (k', v) :: kvs, (_, d) :: ds, k, .cons h r => by
    by_cases e : k' = k
    · subst e
      refine ⟨fun d' e1 => ?_, fun e1 => ?_⟩
      · simp only [valD, List.find?_cons, keyOf_kD, decide_true, Option.map_some, Option.some.injEq] at e1
        subst e1
        exact ⟨v, by simp [valV], h⟩
      · simp [valD, List.find?_cons, keyOf_kD] at e1
    · have e2 : decide (keyOf (Dy.kD k') = some k) = false := by
        rw [keyOf_kD]
        exact decide_eq_false fun z => e (Option.some.inj z)
      have e3 : decide (k' = k) = false := decide_eq_false e
      obtain ⟨h1, h2⟩ := RpKV.find (k := k) r
      refine ⟨fun d' e1 => ?_, fun e1 => ?_⟩
      · simp only [valD, List.find?_cons, e2] at e1
        obtain ⟨w, e4, rp⟩ := h1 d' e1
        exact ⟨w, by simp only [valV, List.find?_cons, e3]; exact e4, rp⟩
      · simp only [valD, List.find?_cons, e2] at e1
        simp only [valV, List.find?_cons, e3]
        exact h2 e1
theorem RpKV.any : ∀ {kvs : List (Key × V)} {ds : List (D × D)} {k : Key}, RpKV K F kvs ds → (kvs.any fun kv => decide (kv.1 = k)) = ds.any fun p => decide (keyOf p.1 = some k)
  | _, _, k, .nil => rfl
  | (k', v) :: kvs, (_, d) :: ds, k, .cons h r => by
    rw [List.any_cons, List.any_cons, RpKV.any r]
    congr 1
    rw [keyOf_kD]
    by_cases e : k' = k
    · subst e; simp
    · have e3 : decide (k' = k) = false := decide_eq_false e
      show decide (k' = k) = decide (some k' = some k)
      rw [e3]
      exact (decide_eq_false fun z => e (Option.some.inj z)).symm
theorem RpKV.repl : ∀ {kvs : List (Key × V)} {ds : List (D × D)} {k : Key} {v : V} {d : D}, RpKV K F kvs ds → Rp K F v d → RpKV K F (kvs.map fun kv => if kv.1 = k then (kv.1, v) else kv) (ds.map fun p => if keyOf p.1 = some k then (p.1, d) else p)
  | _, _, k, _, _, .nil, _ => .nil
  | (k', w) :: kvs, (_, e) :: ds, k, v, d, .cons h r, rp => by
    rw [List.map_cons, List.map_cons]
    by_cases q : k' = k
    · rw [if_pos q, if_pos (by rw [keyOf_kD, q])]
      exact .cons rp (RpKV.repl r rp)
    · rw [if_neg q, if_neg (by rw [keyOf_kD]; exact fun z => q (Option.some.inj z))]
      exact .cons h (RpKV.repl r rp)
theorem RpKV.snoc : ∀ {kvs : List (Key × V)} {ds : List (D × D)} {k : Key} {v : V} {d : D}, RpKV K F kvs ds → Rp K F v d → RpKV K F (kvs ++ [(k, v)]) (ds ++ [(Dy.kD k, d)])
  | _, _, _, _, _, .nil, rp => .cons rp .nil
  | _, _, _, _, _, .cons h r, rp => .cons h (RpKV.snoc r rp)
theorem RpKV.put {kvs : List (Key × V)} {ds : List (D × D)} {k : Key} {v : V} {d : D} (r : RpKV K F kvs ds) (rp : Rp K F v d) : RpKV K F (putK kvs k v) (putD ds k d) := by
  unfold putK putD
  rw [r.any]
  by_cases q : (ds.any fun p => decide (keyOf p.1 = some k)) = true
  · rw [if_pos q, if_pos q]
    exact r.repl rp
  · rw [if_neg q, if_neg q]
    exact r.snoc rp
theorem RpKV.keys : ∀ {kvs : List (Key × V)} {ds : List (D × D)}, RpKV K F kvs ds → RpAll K F (kvs.map fun kv => kV kv.1) (ds.map (·.1))
  | _, _, .nil => .nil
  | _, _, .cons h r => .cons (Rp.kD _) (RpKV.keys r)
theorem Bor.key {d : D} {k : Key} (h : Bor K F H v d) (e : keyOf d = some k) : v = kV k := by
  have := kD_of e
  subst this
  cases k with
  | inl i => exact h.int
  | inr x => exact h.str
/-- d[k] -/
def dgetD (x y : D) : Option Sl := match x with
  | .dict kvs => match keyOf y with
    | some k => if notTok kvs = true then (valD kvs k).map .d else none
    | none => none
  | _ => none
theorem d_dget {pos : Pos} (hu : X.A.units + 1 < cLine) (ha : OO X W a oa) (hb : OO X W b ob) (hs : NoSl b := by intro _ _; rfl) : DE X W (.Subscript a b pos) (opd2 oa ob (lift2 dgetD)) := by
  refine PE.weaken (pe_dget hu ha.pe hb.pe hs) ?_
  rintro σ H Q ⟨P, F0, F, s, st, q⟩
  refine tOpd_mono (opd2_ok st q) fun v H1 z1 => tOpd_mono z1 ?_
  rintro u H2 ⟨F2, s2, x, y, l, st2, b1, b2, q⟩
  unfold lift2 dgetD at q
  split at q
  · rename_i r e
    split at e
    · rename_i kvs
      split at e
      · rename_i k ek
        split at e
        · rename_i hn
          obtain ⟨d, e1, rfl⟩ := map_d e
          obtain ⟨a, ks, rfl, h1, r1⟩ := b1.dict st2.fH hn
          obtain ⟨w, e2, rp⟩ := (r1.find (k := k)).1 d e1
          exact ⟨a, w, rfl, .inl ⟨ks, k, h1, b2.key ek, e2.symm⟩, q w F2 H2 (.refl _) st2 rp⟩
        · cases e
      · cases e
    · cases e
  · exact q.elim
/-- k in d, k not in d -/
def dinD (y x : D) : Option Sl := match x with
  | .dict kvs => match keyOf y with
    | some k => if notTok kvs = true then some (.d (.bool (valD kvs k).isSome)) else none
    | none => none
  | _ => none
def dninD (y x : D) : Option Sl := match x with
  | .dict kvs => match keyOf y with
    | some k => if notTok kvs = true then some (.d (.bool (!(valD kvs k).isSome))) else none
    | none => none
  | _ => none
theorem RpKV.isSome {kvs : List (Key × V)} {ds : List (D × D)} {k : Key} (r : RpKV K F kvs ds) : (valV kvs k).isSome = (valD ds k).isSome := by
  obtain ⟨h1, h2⟩ := r.find (k := k)
  cases e : valD ds k with
  | none => rw [h2 e]; rfl
  | some d => obtain ⟨w, e2, _⟩ := h1 d e; rw [e2]; rfl
theorem d_din {pos : Pos} (hu : X.A.units + 1 < cLine) (ha : OO X W a oa) (hb : OO X W b ob) (h1 : behindInMarks .In b = false := by first | exact nobehind _ (by decide) (by decide) | rfl) : DE X W (.Compare a [.In] [b] pos) (opd2 oa ob (lift2 dinD)) := by
  refine PE.weaken (pe_cmp (pc_din hu ha.pe hb.pe) h1) ?_
  rintro σ H Q ⟨P, F0, F, s, st, q⟩
  refine tOpd_mono (opd2_ok st q) fun v H1 z1 => tOpd_mono z1 ?_
  rintro u H2 ⟨F2, s2, x, y, l, st2, b1, b2, q⟩
  unfold lift2 dinD at q
  split at q
  · rename_i r e
    split at e
    · split at e
      · rename_i k ek
        split at e
        · rename_i hn
          cases e
          obtain ⟨a, ks, rfl, h1, r1⟩ := b2.dict st2.fH hn
          refine ⟨a, _, rfl, .inl ⟨ks, k, h1, b1.key ek, rfl⟩, ?_⟩
          rw [r1.isSome]
          exact q _ F2 H2 (.refl _) st2 (.bl _)
        · cases e
      · cases e
    · cases e
  · exact q.elim
theorem d_dnin {pos : Pos} (hu : X.A.units + 1 < cLine) (ha : OO X W a oa) (hb : OO X W b ob) (h1 : behindInMarks .NotIn b = false := by first | exact nobehind _ (by decide) (by decide) | rfl) : DE X W (.Compare a [.NotIn] [b] pos) (opd2 oa ob (lift2 dninD)) := by
  refine PE.weaken (pe_cmp (pc_dnotin hu ha.pe hb.pe) h1) ?_
  rintro σ H Q ⟨P, F0, F, s, st, q⟩
  refine tOpd_mono (opd2_ok st q) fun v H1 z1 => tOpd_mono z1 ?_
  rintro u H2 ⟨F2, s2, x, y, l, st2, b1, b2, q⟩
  unfold lift2 dninD at q
  split at q
  · rename_i r e
    split at e
    · split at e
      · rename_i k ek
        split at e
        · rename_i hn
          cases e
          obtain ⟨a, ks, rfl, h1, r1⟩ := b2.dict st2.fH hn
          refine ⟨a, _, rfl, .inl ⟨ks, k, h1, b1.key ek, rfl⟩, ?_⟩
          rw [r1.isSome]
          exact q _ F2 H2 (.refl _) st2 (.bl _)
        · cases e
      · cases e
    · cases e
  · exact q.elim
/-- len(d), list(d) -/
def dlenD : D → Option Sl
  | .dict kvs => if notTok kvs = true then some (.d (.int kvs.length)) else none
  | _ => none
theorem c_dlen : C1 X (.builtin "len") dlenD := by
  rintro pins s σ H xs us Q I r ⟨v, rfl, P, F0, F, σ', st, dx, rr, sr, bo, e, q⟩
  unfold dlenD at e
  split at e
  · split at e
    · rename_i hn
      cases e
      obtain ⟨a, ks, rfl, h1, r1⟩ := bo.dict sr.fH hn
      obtain ⟨u, rfl, ru⟩ := vals1 r
      cases ru
      refine d_len I h1 fun t s' I' => ⟨.int ks.length, H, I', ⟨t, rfl⟩, ?_⟩
      rw [r1.length]
      exact q _ F H (.refl F) sr (.int _)
    · cases e
  · cases e
def dlistD : D → Option Sl
  | .dict kvs => if notTok kvs = true then some (.o (.list (kvs.map (·.1)))) else none
  | _ => none
theorem c_dlist (hc : X.calm = true) : C1 X (.type "list") dlistD := by
  rintro pins s σ H xs us Q I r ⟨v, rfl, P, F0, F, σ', st, dx, rr, sr, bo, e, q⟩
  unfold dlistD at e
  split at e
  · split at e
    · rename_i hn
      cases e
      obtain ⟨a, ks, rfl, h1, r1⟩ := bo.dict sr.fH hn
      refine call_listD hc pins s σ H _ us Q I r ⟨a, ks, rfl, h1, fun p hp => ?_⟩
      obtain ⟨st2, rv2⟩ := sr.alloc_o (o := .lst (ks.map fun kv => kV kv.1)) hp (.lst r1.keys)
      exact q _ F _ (.refl F) st2 rv2
    · cases e
  · cases e
/-! ### d[k] = v, d one's own -/
def ownK (s : S) (i : Nat) (f : List (D × D) → Out Fl) : Out Fl := match s.env[i]? with
  | some (.o (.dict xs)) => if notTok xs = true then f xs else .bad
  | _ => .bad
theorem ownK_ok {i : Nat} {f : List (D × D) → Out Fl} (st : StRel K P F0 F σ H s) (h : ResS K W P F0 F (ownK s i f) T) : ∃ xs a vs, s.env[i]? = some (.o (.dict xs)) ∧ σ[i]? = some (some (.ref a)) ∧ H a = some (.dK vs) ∧ RpKV K F vs xs ∧ ResS K W P F0 F (f xs) T := by
  unfold ownK at h
  split at h
  · rename_i xs e
    split at h
    · rename_i hn
      obtain ⟨a, e1, ow⟩ := st.slot i _ e
      obtain ⟨o, e2, r⟩ := ow.ob
      cases r with
      | dic r => exact ⟨xs, a, _, e, getD_some e1, e2, r, h⟩
      | dit r => cases hn
    · exact h.elim
  · exact h.elim
def dputS (i : Nat) (mk mv : M Sl) : M Fl := fun s => (mv s).bind fun x s => ownK s i fun _ => (mk s).bind fun y s => ownK s i fun kvs => match keyOf y.val with
  | some k => if kvs.length < sizeLine then .ok .nx { s with env := s.env.set i (.o (.dict (putD kvs k x.val))) } else .bad
  | none => .bad
theorem ds_dput {o k value : Expr} {i : Nat} {mk mv : M Sl} {pos pos' : Pos} (hu : X.A.units + 1 < cLine) (ho : PE X o (tVar i)) (hk : DE X W k mk) (hv : DE X W value mv) (hs : swapsWith value (some (.Subscript o k pos')) pos.line X.env = pure false := by rfl) :
    DS X W (.Assign [.Subscript o k pos'] value pos) (dputS i mk mv) := by
  refine PS.weaken (ps_dput hu ho hk hv hs) ?_
  rintro T σ H ⟨P, F0, F, s, st, q⟩
  refine tD_mono (tD.bindS st q) ?_
  rintro v H1 ⟨F1, s1, x, l1, st1, rv, q1⟩
  obtain ⟨F2, l2, st2, rp⟩ := rv.freeze st1
  obtain ⟨xs, a, vs, e1, e2, e3, r, q2⟩ := ownK_ok st2 (ResS.le l2 q1)
  refine ⟨_, e2, ?_⟩
  refine tD_mono (tD.bindS st2 q2) ?_
  rintro u H2 ⟨F3, s3, y, l3, st3, rv3, q3⟩
  obtain ⟨xs2, a2, vs2, k1, k2, k3, r2, q4⟩ := ownK_ok st3 q3
  rw [e2] at k2
  cases k2
  split at q4
  · rename_i kk ek
    split at q4
    · rename_i hz
      refine ⟨a, _, rfl, .inl ⟨vs2, kk, k3, rv3.bor.key ek, by rw [r2.length]; exact hz, rfl⟩, ?_⟩
      exact q4 σ F3 _ (.refl _) (st3.write k1 (getD_of e2) (.dic (r2.put (rp.le l3))))
    · exact q4.elim
  · exact q4.elim
/-! ### displays -/
def dnewD : M Sl := fun s => .ok (.o (.dict [])) s
theorem d_dnew {pos : Pos} : DE X W (.Dict [] [] pos) dnewD := by
  refine PE.weaken pe_dnewK ?_
  rintro σ H Q ⟨P, F0, F, s, st, q⟩ p hp
  obtain ⟨st2, rv⟩ := st.alloc_o (o := .dK []) (x := .dict []) hp (.dic .nil)
  exact q _ F _ (.refl _) st2 rv
/-- {k: v} -/
def disp1D (mk mv : M Sl) : M Sl := fun s => (mk s).bind fun y s => (mv s).bind fun x s => match keyOf y.val with
  | some k => .ok (.o (.dict [(kD k, x.val)])) s
  | none => .bad
theorem StRel.grow (st : StRel K P F0 F σ H s) {a : Addr} {o o' : HO} {y : D} (ow : Own K P F H a y) (ne : ∀ i y, s.env[i]? = some (.o y) → σ.getD i none ≠ some (.ref a)) (h : ObD K F o' x) :
    StRel K P F0 F σ (upd H a o') s ∧ Own K P F (upd H a o') a x := by
  obtain ⟨o0, eo, ro⟩ := ow.ob
  refine ⟨⟨fun b u q => ?_, fun b u q => ?_, st.new, st.len, fun j sl ej => ?_, st.sep, ?_, st.tb.write eo ro.nx, st.ph⟩, ⟨ow.fr, ow.pr, ow.dr, o', upd_same, h⟩⟩
  · have hb : b ≠ a := fun z => by rw [z, ow.fr] at q; cases q
    rw [upd_ne hb]
    exact st.fH b u q
  · have hb : b ≠ a := fun z => by rw [z, ow.pr] at q; cases q
    rw [upd_ne hb]
    exact st.pH b u q
  · have q := st.slot j sl ej
    cases sl with
    | u => trivial
    | d x => exact q
    | o x =>
      obtain ⟨b, e1, w⟩ := q
      have hb : b ≠ a := fun z => ne j x ej (by rw [e1, z])
      obtain ⟨ob, e2, r2⟩ := w.ob
      exact ⟨b, e1, w.fr, w.pr, w.dr, ob, by rw [upd_ne hb]; exact e2, r2⟩
  · have q := st.dr
    cases hst : s.dr with
    | none =>
      rw [hst] at q
      exact q
    | some r =>
      rw [hst] at q
      obtain ⟨d, w, c, q1, q2, q3, q4, q5⟩ := q
      obtain ⟨nd, nw⟩ := ow.dr d w q1
      exact ⟨d, w, c, q1, q2, by rw [upd_ne nd.symm]; exact q3, by rw [upd_ne nw.symm]; exact q4, q5⟩
theorem d_disp1 {k value : Expr} {mk mv : M Sl} {pos : Pos} (hk : DE X W k mk) (hv : DE X W value mv) : DE X W (.Dict [some k] [value] pos) (disp1D mk mv) := by
  refine PE.weaken (pe_disp (pps_cons hk hv pps_nil) rfl rfl (by simp) (by simp)) ?_
  rintro σ H Q ⟨P, F0, F, s, st, q⟩ p hp
  obtain ⟨st0, p', ep, ow0, ne0⟩ := st.alloc_o (o := .dK []) (x := .dict []) hp (.dic .nil)
  cases ep
  have stA := ow0.aside st0 upd_same ne0
  -- run under the new dict, kept aside
  refine ⟨_, _, F, s, stA, ?_⟩
  cases em : mk s with
  | bad =>
    unfold disp1D at q
    rw [em] at q
    exact q.elim
  | exc c s1 =>
    unfold disp1D at q
    rw [em] at q
    exact fun F' H' l st' => q F' H' l (StRel.back st0 ow0 upd_same l st').1
  | ok y s1 =>
    unfold disp1D at q
    rw [em] at q
    have q : Res X.K W P F0 F σ ((mv s1).bind fun x s => match keyOf y.val with
      | some k => Out.ok (Sl.o (.dict [(kD k, x.val)])) s
      | none => .bad) Q := q
    intro v1 F1 H1 l1 st1 rv1
    obtain ⟨F2, l2, st2, rp1⟩ := rv1.freeze st1
    refine ⟨_, _, F2, s1, st2, ?_⟩
    cases em2 : mv s1 with
    | bad =>
      rw [em2] at q
      exact q.elim
    | exc c s2 =>
      rw [em2] at q
      exact fun F' H' l st' => q F' H' (l1.trans (l2.trans l)) (StRel.back st0 ow0 upd_same (l1.trans (l2.trans l)) st').1
    | ok xx s2 =>
      rw [em2] at q
      have q : Res X.K W P F0 F σ (match keyOf y.val with
        | some k => Out.ok (Sl.o (.dict [(kD k, xx.val)])) s2
        | none => .bad) Q := q
      intro v2 F3 H3 l3 st3 rv3
      obtain ⟨F4, l4, st4, rp2⟩ := rv3.freeze st3
      have l04 := l1.trans (l2.trans (l3.trans l4))
      obtain ⟨st5, ow5, e5, ne5⟩ := StRel.back st0 ow0 upd_same l04 st4
      split at q
      · rename_i kk ek
        refine ⟨e5, [(kk, v2)], ?_, by simp, ?_⟩
        · have z := Bor.key (H := H3) (.inl rp1) ek
          rw [z]
          rfl
        · have hO : ObD X.K F4 (.dK (mergeK [] [(kk, v2)])) (.dict [(kD kk, xx.val)]) := .dic (.cons rp2 .nil)
          obtain ⟨st6, ow6⟩ := StRel.grow (o := .dK []) st5 ow5 ne5 hO
          exact q (.ref p) F4 _ l04 st6 ⟨p, rfl, ow6, ne5⟩
      · exact q.elim
end
end Dy
end
section
set_option Elab.async false
set_option linter.all false
set_option maxRecDepth 100000
set_option maxHeartbeats 4000000
namespace Dy
open PySem PySem.Spec PyProof.Rows L2
variable [LawI] [Ph]
section
variable {X : Cx} {W : WX} {a b : Expr} {oa ob : Opd} {P F0 : Hp} {F F' : Fz} {σ σ' : L2.St} {H H' : Hp} {s s1 s' : S} {Q : VK} {K : PySem.W.Frag} {v : V} {x : D} {pins : List (Addr × Obj)} {sh : Shared} {T : Ends} {d : Addr} {u o0 : HO} {od : Obj} {vs : List Nat}
theorem upd_id {H : Hp} {a : Addr} {o : HO} (h : H a = some o) : upd H a o = H := by
  funext b
  unfold upd
  split
  · rename_i e; rw [e, h]
  · rfl
/-! ### a lock on what is known to stay -/
theorem Own.noF (h : Own K P F H d x) (e : F.hp d = some u) : False := by
  have := h.fr
  rw [e] at this
  cases this
theorem DrOk.lock {q : Option Dr} (h : DrOk P F H q) (e : F.hp d = some u) (o1 o2 : HO) : DrOk (L2.upd P d o1) F (L2.upd H d o2) q := by
  cases q with
  | none => exact h
  | some r =>
    obtain ⟨a, w, c, q1, q2, q3, q4, q5, q6, q7, q8, q9⟩ := h
    have na : a ≠ d := fun z => by rw [z, e] at q6; cases q6
    have nw : w ≠ d := fun z => by rw [z, e] at q7; cases q7
    exact ⟨a, w, c, q1, q2, by rw [upd_ne na]; exact q3, by rw [upd_ne nw]; exact q4, q5, q6, q7, by rw [upd_ne na]; exact q8, by rw [upd_ne nw]; exact q9⟩
theorem StRel.enterL (st : StRel K P F0 F σ H s) (e : F.hp d = some u) (mu : Mut (some u)) (nx : NX u := by trivial) : StRel K (upd P d (.frz od u)) F.hp F σ (upd H d (.frz od u)) s := by
  have tbl : TbOk K P F (upd H d (.frz od u)) := by
    rcases st.fH d u e with q | ⟨_, od', q⟩
    · exact st.tb.write q nx
    · exact st.tb.write q trivial
  refine ⟨fun b o q => ?_, fun b o q => ?_, fun b q => .inl q, st.len, fun i sl q => ?_, st.sep, st.dr.lock e _ _, ⟨tbl.ok, fun b ps z => ?_, st.tb.nF⟩, st.ph⟩
  · by_cases hb : b = d
    · subst hb
      rw [e] at q
      cases q
      exact .inr ⟨⟨mu, nx⟩, od, upd_same⟩
    · rw [upd_ne hb]
      exact st.fH b o q
  · by_cases hb : b = d
    · subst hb
      rw [upd_same] at q ⊢
      exact q
    · rw [upd_ne hb] at q ⊢
      exact st.pH b o q
  · have z := st.slot i sl q
    cases sl with
    | u => trivial
    | d x => exact z
    | o y =>
      obtain ⟨b, e1, w⟩ := z
      have hb : b ≠ d := fun z => by subst z; exact w.noF e
      obtain ⟨ob, e2, r2⟩ := w.ob
      exact ⟨b, e1, w.fr, by rw [upd_ne hb]; exact w.pr, w.dr, ob, by rw [upd_ne hb]; exact e2, r2⟩
  · by_cases hb : b = d
    · subst hb
      rw [upd_same] at z
      cases z
    · rw [upd_ne hb] at z
      exact st.tb.nP b ps z
theorem updP_none {b : Addr} {o : HO} (q : upd P d o b = none) : P b = none ∧ b ≠ d := by
  have hb : b ≠ d := fun z => by
    subst z
    rw [upd_same] at q
    cases q
  rw [upd_ne hb] at q
  exact ⟨q, hb⟩
theorem StRel.leaveL (st : StRel K P F0 F σ H s) (e : F.hp d = some u) (e0 : H d = some o0) (l : F.le F') (st' : StRel K (upd P d (.frz od u)) F.hp F' σ' H' s') :
    StRel K P F0 F' σ' (upd H' d o0) s' ∧ H' d = some (.frz od u) := by
  have e' := l.hp d u e
  refine ⟨⟨fun b o q => ?_, fun b o q => ?_, fun b q => ?_, st'.len, fun i sl q => ?_, st'.sep, ?_, ⟨(st'.tb.write (o' := o0) (st'.pH d _ upd_same) trivial).ok, st.tb.nP, st'.tb.nF⟩, st'.ph⟩, st'.pH d _ upd_same⟩
  · by_cases hb : b = d
    · subst hb
      rw [upd_same]
      rw [e'] at q
      cases q
      have z := st.fH b _ e
      rw [e0] at z
      exact z
    · rw [upd_ne hb]
      exact st'.fH b o q
  · by_cases hb : b = d
    · subst hb
      rw [upd_same]
      have z := st.pH b o q
      rw [e0] at z
      exact z
    · rw [upd_ne hb]
      exact st'.pH b o (by rw [upd_ne hb]; exact q)
  · rcases st'.new b q with z | z
    · exact st.new b z
    · by_cases hb : b = d
      · subst hb
        exact st.new b (by rw [e]; simp)
      · exact .inr fun o1 e1 => z o1 (by rw [upd_ne hb]; exact e1)
  · have z := st'.slot i sl q
    cases sl with
    | u => trivial
    | d x => exact z
    | o y =>
      obtain ⟨b, e1, w⟩ := z
      obtain ⟨pb, hb⟩ := updP_none w.pr
      obtain ⟨ob, e2, r2⟩ := w.ob
      exact ⟨b, e1, w.fr, pb, w.dr, ob, by rw [upd_ne hb]; exact e2, r2⟩
  · have z := st'.dr
    cases hst : s'.dr with
    | none =>
      rw [hst] at z
      exact z
    | some r =>
      rw [hst] at z
      obtain ⟨a, w, c, q1, q2, q3, q4, q5, q6, q7, q8, q9⟩ := z
      obtain ⟨pa, na⟩ := updP_none q8
      obtain ⟨pw, nw⟩ := updP_none q9
      exact ⟨a, w, c, q1, q2, by rw [upd_ne na]; exact q3, by rw [upd_ne nw]; exact q4, q5, q6, q7, pa, pw⟩
theorem RV.leaveL {r : Sl} (h : RV K (upd P d (.frz od u)) F σ H s v r) : RV K P F σ (upd H d o0) s v r := by
  cases r with
  | u => exact h
  | d x => exact h
  | o x =>
    obtain ⟨b, rfl, w, ne⟩ := h
    obtain ⟨pb, hb⟩ := updP_none w.pr
    obtain ⟨ob, e2, r2⟩ := w.ob
    exact ⟨b, rfl, ⟨w.fr, pb, w.dr, ob, by rw [upd_ne hb]; exact e2, r2⟩, ne⟩
/-! ### the keys of a dict -/
def keysOf : D → Option (List D)
  | .dict kvs => if notTok kvs = true then some (kvs.map fun p => p.1) else none
  | _ => none
def retL (o : Option (List D)) (s : S) : Out (List D) := match o with
  | some l => .ok l s
  | none => .bad
def keysD (i : Nat) : M (List D) := fun s => (vD i s).bind fun r s => retL (keysOf r.val) s
theorem keysOf_ok {x : D} {items : List D} (h : keysOf x = some items) (rp : Rp K F v x) : ∃ d ks ds, v = .ref d ∧ F.hp d = some (.dK ks) ∧ RpKV K F ks ds ∧ items = ds.map (fun p => p.1) := by
  unfold keysOf at h
  split at h
  · rename_i kvs
    split at h
    · rename_i hn
      cases h
      cases rp with
      | dic h1 r => exact ⟨_, _, _, rfl, h1, r, rfl⟩
      | tok => cases hn
      | exn => cases hn
      | lam => cases hn
      | dit => cases hn
    · cases h
  · cases h
theorem retL_ok {o : Option (List D)} {items : List D} (h : retL o s = .ok items s1) : o = some items ∧ s = s1 := by
  cases o with
  | none => cases h
  | some l => cases h; exact ⟨rfl, rfl⟩
theorem keys_ok {i : Nat} {items : List D} (st : StRel K P F0 F σ H s) (h : keysD i s = .ok items s1) : ∃ F1 d ks ds, F.le F1 ∧ StRel K P F0 F1 σ H s1 ∧ σ[i]? = some (some (.ref d)) ∧ F1.hp d = some (.dK ks) ∧ RpKV K F1 ks ds ∧ items = ds.map (fun p => p.1) := by
  unfold keysD vD at h
  cases e : s.env[i]? with
  | none => rw [e] at h; cases h
  | some sl =>
    rw [e] at h
    cases sl with
    | u => cases h
    | d x =>
      obtain ⟨v, e1, rp⟩ := st.slot i _ e
      obtain ⟨e2, rfl⟩ := retL_ok h
      obtain ⟨d, ks, ds, rfl, h1, r, e3⟩ := keysOf_ok e2 rp
      exact ⟨F, d, ks, ds, .refl _, st, getD_some e1, h1, r, e3⟩
    | o x =>
      obtain ⟨F1, v, l, e1, st1, rp⟩ := st.freeze e
      obtain ⟨e2, rfl⟩ := retL_ok h
      obtain ⟨d, ks, ds, rfl, h1, r, e3⟩ := keysOf_ok e2 rp
      exact ⟨F1, d, ks, ds, l, st1, e1, h1, r, e3⟩
theorem retL_noexc {o : Option (List D)} {c : Str} (h : retL o s = .exc c s1) : False := by
  cases o <;> cases h
theorem keys_noexc {i : Nat} {c : Str} (h : keysD i s = .exc c s1) : False := by
  unfold keysD vD at h
  cases e : s.env[i]? with
  | none => rw [e] at h; cases h
  | some sl =>
    rw [e] at h
    cases sl with
    | u => cases h
    | d x => exact retL_noexc h
    | o x => exact retL_noexc h
theorem feeds_keys {ks : List (Key × V)} {ds : List (D × D)} (h : P d = some (.frz od (.dK ks))) (r : RpKV K F ks ds) : Feeds K P F (Itk d od ks) (ds.map fun p => p.1) := fun i F1 H1 l _ hp => by
  have h1 := hp d _ h
  have e1 : (ds.map fun p => p.1).length = ks.length := by rw [List.length_map, r.length]
  refine ⟨fun hi => ⟨h1, by omega⟩, fun y hy => ⟨⟨h1, by rw [← e1]; exact (List.getElem?_eq_some_iff.mp hy).1⟩, fun w H2 z => ?_⟩⟩
  obtain ⟨rfl, k, w', hk, rfl⟩ := z
  refine .inl ⟨rfl, ?_⟩
  obtain ⟨w2, e2, rp⟩ := r.keys.get hy
  rw [List.getElem?_map, hk] at e2
  cases e2
  exact rp.le l
theorem PE.or {e : Expr} {t u : TE} (h1 : PE X e t) (h2 : PE X e u) : PE X e (fun σ H Q => t σ H Q ∨ u σ H Q) := ⟨fun pins s σ H Q I q => q.elim (h1.run pins s σ H Q I) (h2.run pins s σ H Q I)⟩
theorem PS.or {e : Stmt} {t u : TS} (h1 : PS X e t) (h2 : PS X e u) : PS X e (fun D σ H => t D σ H ∨ u D σ H) := ⟨fun pins s σ H Q I q => q.elim (h1.run pins s σ H Q I) (h2.run pins s σ H Q I)⟩
theorem lcK_mono {g : TG} {tt : TT} {te : TE} {vs : List Nat} {σ : L2.St} {H : Hp} {Q Q' : VK} {i : Nat} (h : tLc (iKeys (tVar i)) g tt te vs σ H Q) (mono : ∀ v H, Q v H → Q' v H) : tLc (iKeys (tVar i)) g tt te vs σ H Q' := by
  obtain ⟨v, ev, d, o, ex, q⟩ := h
  refine ⟨v, ev, d, o, ex, ?_⟩
  rcases q with ⟨ks, h1, q⟩ | ⟨ks, h1, q⟩
  · refine .inl ⟨ks, h1, fun D hD => ?_⟩
    obtain ⟨W2, w0, turn⟩ := q D hD
    exact ⟨W2, w0, fun i n H2 w => (turn i n H2 w).imp (fun z => ⟨z.1, mono _ _ z.2⟩) id⟩
  · refine .inr ⟨ks, h1, fun D hD => ?_⟩
    obtain ⟨W2, w0, turn⟩ := q D hD
    exact ⟨W2, w0, fun i n H2 w => (turn i n H2 w).imp (fun z => ⟨z.1, mono _ _ z.2⟩) id⟩
/-- the reading of a list comprehension over keys, locked by itself or before -/
theorem lcK_ok {i : Nat} {g : D → S → Option S} {t : M Bool} {me : M Sl} {vs ws : List Nat} (hv : ∀ i ∈ ws, i ∈ vs) (st : StRel K P F0 F σ H s) (h : Res K W P F0 F σ (lcD (keysD i) g t me vs s) Q) :
    (∃ d u, H d = some u ∧ Mut (some u) ∧ ∀ od, tLc (iKeys (tVar i)) (tDG K ws g) (tDT K W0 t) (tD K W0 me) vs σ (upd H d (.frz od u)) fun v H' => H' d = some (.frz od u) ∧ Q v (upd H' d u)) ∨ tLc (iKeys (tVar i)) (tDG K ws g) (tDT K W0 t) (tD K W0 me) vs σ H Q := by
  unfold lcD at h
  cases e : keysD i s with
  | bad => rw [e] at h; exact h.elim
  | exc c s1 => exact (keys_noexc e).elim
  | ok items s1 =>
    rw [e] at h
    have h : Res K W P F0 F σ (match lcLoop g t me vs items [] (wipeS vs s1) with
      | .ok acc s3 => Out.ok (Sl.o (.list acc)) (backS vs s1 s3)
      | _ => .bad) Q := h
    obtain ⟨F1, d, ks, ds, l1, st1, ev, hF, r, rfl⟩ := keys_ok st e
    cases eL : lcLoop g t me vs (ds.map fun p => p.1) [] (wipeS vs s1) with
    | bad => rw [eL] at h; exact h.elim
    | exc c s3 => rw [eL] at h; exact h.elim
    | ok acc s3 =>
      rw [eL] at h
      have main : ∀ od o0, H d = some o0 → tLc (iKeys (tVar i)) (tDG K ws g) (tDT K W0 t) (tD K W0 me) vs σ (upd H d (.frz od (.dK ks))) fun v H' => H' d = some (.frz od (.dK ks)) ∧ Q v (upd H' d o0) := by
        intro od o0 e0
        have stL := st1.enterL (od := od) hF trivial
        refine ⟨_, ev, d, od, rfl, .inl ⟨ks, upd_same, fun Dd hD => ?_⟩⟩
        refine lc_turns (Qd := fun v H' => H' d = some (.frz od (.dK ks)) ∧ Q v (upd H' d o0)) hv stL (feeds_keys upd_same r) (fun acc' s3' v F2 H2 e2 l2 st2 rv => ?_) ⟨acc, s3, eL⟩ Dd hD
        rw [eL] at e2
        cases e2
        obtain ⟨st3, e3⟩ := st1.leaveL hF e0 l2 st2
        exact ⟨e3, h v F2 _ (l1.trans l2) st3 rv.leaveL⟩
      rcases st1.fH d _ hF with e0 | ⟨_, od, e0⟩
      · exact .inl ⟨d, _, e0, trivial, fun od => main od _ e0⟩
      · refine .inr ?_
        have z := main od _ e0
        rw [upd_id e0] at z
        refine lcK_mono z fun v H' qq => ?_
        have q2 := qq.2
        rw [upd_id qq.1] at q2
        exact q2
theorem setS_res {i : Nat} {m : M Sl} (q : ResS K W P F0 F (setS i m s) T) (hE : ∀ c s1, m s = .exc c s1 → False) : Res K W P F0 F σ (m s) (fun v H1 => T.nx (σ.set i (some v)) H1) := by
  unfold setS at q
  cases e : m s with
  | bad =>
    rw [e] at q
    exact q
  | exc c s1 => exact (hE c s1 e).elim
  | ok r s1 =>
    rw [e] at q
    intro v F1 H1 l1 st1 rv
    have q1 : ResS K W P F0 F (setE i r s1) T := q
    unfold setE at q1
    split at q1
    · rename_i hh
      exact q1 _ F1 H1 l1 (st1.set hh rv)
    · exact q1.elim
theorem lcK_noexc {i : Nat} {g : D → S → Option S} {t : M Bool} {me : M Sl} {c : Str} (h : lcD (keysD i) g t me vs s = .exc c s1) : False := by
  unfold lcD at h
  cases e : keysD i s with
  | bad => rw [e] at h; cases h
  | exc c s1 => exact keys_noexc e
  | ok items s2 =>
    rw [e] at h
    have h : (match lcLoop g t me vs items [] (wipeS vs s2) with
      | .ok acc s3 => Out.ok (Sl.o (.list acc)) (backS vs s2 s3)
      | _ => .bad) = .exc c s1 := h
    split at h <;> cases h
theorem d_lcK {elt tg iter : Expr} {ifs : List Expr} {scope : Scope} {own : List (Str × Nat)} {pos : Pos} {i : Nat} {g : D → S → Option S} {t : M Bool} {me : M Sl} {ws : List Nat} (hc : X.calm = true) (hN : X.N.Nodup) (hi : PE X iter (tVar i)) (ok : BlkOk X.N X.env.scope scope own)
    (hg : ∀ (s : Shared) (H : Hp) (C : Addr) (cl : List (Str × Addr)) (fp : List Addr), DG (X.blk s H scope (compEnvC scope cl C X.env) fp) tg ws g) (ht : ∀ (s : Shared) (H : Hp) (C : Addr) (cl : List (Str × Addr)) (fp : List Addr), DTs (X.blk s H scope (compEnvC scope cl C X.env) fp) W0 ifs t)
    (he : ∀ (s : Shared) (H : Hp) (C : Addr) (cl : List (Str × Addr)) (fp : List Addr), DE (X.blk s H scope (compEnvC scope cl C X.env) fp) W0 elt me) (hv : ∀ i ∈ ws, i ∈ own.map (·.2)) (hs : ∀ x, foldedSetIterable iter X.env x = pure x := by intro _; rfl) :
    DE X W (.ListComp elt [⟨tg, iter, ifs, 0⟩] scope pos) (lcD (keysD i) g t me (own.map (·.2))) := by
  have h := pe_lc (pos := pos) (g := tDG X.K ws g) (tt := tDT X.K W0 t) (te := tD X.K W0 me) hc hN (pi_keys hi) ok hg ht he hs
  refine PE.weaken (PE.or (pe_lock h) h) ?_
  rintro σ H Q ⟨P, F0, F, s, st, q⟩
  exact lcK_ok hv st q
theorem ds_setLcK {i j : Nat} {y : Str} {py : Pos} {elt tg iter : Expr} {ifs : List Expr} {scope : Scope} {own : List (Str × Nat)} {pos spos : Pos} {g : D → S → Option S} {t : M Bool} {me : M Sl} {ws : List Nat} (hc : X.calm = true) (hN : X.N.Nodup) (hy : X.N[i]? = some y) (hyl : X.env.scope.names.lookup y = some .local)
    (hsw : swapsWith (.ListComp elt [⟨tg, iter, ifs, 0⟩] scope pos) (some (.Name y py)) spos.line X.env = pure true) (hi : PE X iter (tVar j)) (ok : BlkOk X.N X.env.scope scope own)
    (hg : ∀ (s : Shared) (H : Hp) (C : Addr) (cl : List (Str × Addr)) (fp : List Addr), DG (X.blk s H scope (compEnvC scope cl C X.env) fp) tg ws g) (ht : ∀ (s : Shared) (H : Hp) (C : Addr) (cl : List (Str × Addr)) (fp : List Addr), DTs (X.blk s H scope (compEnvC scope cl C X.env) fp) W0 ifs t)
    (he : ∀ (s : Shared) (H : Hp) (C : Addr) (cl : List (Str × Addr)) (fp : List Addr), DE (X.blk s H scope (compEnvC scope cl C X.env) fp) W0 elt me) (hv : ∀ i ∈ ws, i ∈ own.map (·.2)) (hs : ∀ x, foldedSetIterable iter X.env x = pure x := by intro _; rfl) :
    DS X W (.Assign [.Name y py] (.ListComp elt [⟨tg, iter, ifs, 0⟩] scope pos) spos) (setS i (lcD (keysD j) g t me (own.map (·.2)))) := by
  have h := ps_setLc (g := tDG X.K ws g) (tt := tDT X.K W0 t) (te := tD X.K W0 me) hc hN hy hyl hsw (pi_keys hi) ok hg ht he hs
  refine PS.weaken (PS.or (ps_lock h) h) ?_
  rintro T σ H ⟨P, F0, F, s, st, q⟩
  refine (lcK_ok hv st (setS_res q fun _ _ => lcK_noexc)).imp id id
end
end Dy
end
section
set_option Elab.async false
set_option linter.all false
set_option maxRecDepth 100000
set_option maxHeartbeats 4000000
namespace Dy
open PySem PySem.Spec PyProof.Rows L2
variable [LawI] [Ph]
section
variable {X : Cx} {W : WX} {a b : Expr} {oa ob : Opd} {P F0 : Hp} {F F' : Fz} {σ σ' : L2.St} {H H' : Hp} {s s1 s' : S} {Q : VK} {K : PySem.W.Frag} {v : V} {x : D} {pins : List (Addr × Obj)} {sh : Shared} {T : Ends} {d : Addr} {u o0 : HO} {od : Obj} {vs : List Nat}
def dcLoop (g : D → S → Option S) (t : M Bool) (mk mv : M Sl) (vs : List Nat) : List D → List (D × D) → M (List (D × D))
  | [], acc, s => .ok acc s
  | x :: xs, acc, s => match g x s with
    | none => .bad
    | some s1 => match t s1 with
      | .ok true s2 => match mk s2 with
        | .ok y s3 => match mv s3 with
          | .ok z s4 => match keyOf y.val with
            | some k => if acc.length < sizeLine then dcLoop g t mk mv vs xs (putD acc k z.val) (wipeS vs s4) else .bad
            | none => .bad
          | _ => .bad
        | _ => .bad
      | .ok false s2 => dcLoop g t mk mv vs xs acc (wipeS vs s2)
      | _ => .bad
def dcD (mi : M (List D)) (g : D → S → Option S) (t : M Bool) (mk mv : M Sl) (vs : List Nat) : M Sl := fun s => (mi s).bind fun items s1 => match dcLoop g t mk mv vs items [] (wipeS vs s1) with
  | .ok acc s3 => .ok (.o (.dict acc)) (backS vs s1 s3)
  | _ => .bad
/-- the turns of a comprehension -/
theorem dc_turns {items : List D} {J : It} {g : D → S → Option S} {t : M Bool} {mk mv : M Sl} {vs ws : List Nat} {F1 : Fz} {H1 : Hp} {s1 : S} {Qd : V → Hp → Prop} (hv : ∀ i ∈ ws, i ∈ vs) (st1 : StRel K P F0 F1 σ H1 s1) (fd : Feeds K P F1 J items)
    (hend : ∀ acc s3 v F2 H2, dcLoop g t mk mv vs items [] (wipeS vs s1) = .ok acc s3 → F1.le F2 → StRel K P F0 F2 σ H2 (backS vs s1 s3) → RV K P F2 σ H2 (backS vs s1 s3) v (.o (.dict acc)) → Qd v H2)
    (hne : ∃ acc s3, dcLoop g t mk mv vs items [] (wipeS vs s1) = .ok acc s3) (Dd : Addr) (hD : H1 Dd = none) :
    ∃ W2 : Nat → Nat → Hp → Prop, (∃ m, W2 0 m (upd H1 Dd (.dK []))) ∧ ∀ i m H, W2 i m H → (J.stop i H ∧ Qd (.ref Dd) H) ∨ (J.go i H ∧ ∃ Nx : Hp → Prop, (∀ H', Nx H' → ∃ m', m' < m ∧ W2 (i + 1) m' H') ∧ ∀ x H', J.yld i H x H' → tDG K ws g x (L2.wipe σ vs) H' fun σ2 H2 => L2.wipe σ2 vs = L2.wipe σ vs ∧ tDT K W0 t σ2 H2 fun b H3 =>
      if b = true then tD K W0 mk σ2 H3 fun y H4 => tD K W0 mv σ2 H4 fun z H5 => ∃ kvs k, y = kV k ∧ H5 Dd = some (.dK kvs) ∧ kvs.length < sizeLine ∧ Nx (upd H5 Dd (.dK (putK kvs k z))) else Nx H3) := by
  obtain ⟨accE, sE, eE⟩ := hne
  -- the new list, kept aside
  obtain ⟨st2, _⟩ := st1.alloc_o (o := .dK []) (x := .dict []) hD (.dic .nil)
  have fr0 : F1.hp Dd = none := st1.none_F hD
  have pr0 : P Dd = none := st1.none_P hD
  have dr0 := st1.dr_ne hD
  have st3 := st2.wipe (vs := vs) out_wipe
  refine ⟨fun i n H2 => n = items.length - i ∧ i ≤ items.length ∧ ∃ F2 s2 acc av, F1.le F2 ∧ StRel K P F0 F2 (L2.wipe σ vs) H2 s2 ∧ Own K P F2 H2 Dd (.dict acc) ∧ H2 Dd = some (.dK av) ∧ RpKV K F2 av acc ∧
    (∀ i y, s2.env[i]? = some (.o y) → (L2.wipe σ vs).getD i none ≠ some (.ref Dd)) ∧ dcLoop g t mk mv vs items [] (wipeS vs s1) = dcLoop g t mk mv vs (items.drop i) acc s2, ⟨_, rfl, Nat.zero_le _, F1, _, [], [], .refl _, st3, ⟨fr0, pr0, dr0, _, upd_same, .dic .nil⟩, upd_same, .nil, ?_, rfl⟩, ?_⟩
  · intro i y ey
    exact (st1.wipe (vs := vs) (σ' := L2.wipe σ vs) out_wipe).own_ne hD i y ey
  rintro i n H2 ⟨rfl, hi, F2, s2, acc, av, l2, st4, ow, eD, rA, ne, eq⟩
  obtain ⟨f1, f2⟩ := fd i F2 H2 l2 st4.fH st4.pH
  by_cases hlt : i < items.length
  · obtain ⟨go, yl⟩ := f2 _ (List.getElem?_eq_getElem hlt)
    refine .inr ⟨go, fun H3 => ∃ F3 s3 acc av, F1.le F3 ∧ StRel K P F0 F3 (L2.wipe σ vs) H3 s3 ∧ Own K P F3 H3 Dd (.dict acc) ∧ H3 Dd = some (.dK av) ∧ RpKV K F3 av acc ∧
      (∀ i y, s3.env[i]? = some (.o y) → (L2.wipe σ vs).getD i none ≠ some (.ref Dd)) ∧ dcLoop g t mk mv vs items [] (wipeS vs s1) = dcLoop g t mk mv vs (items.drop (i + 1)) acc s3, fun H3 h3 => ⟨_, by omega, rfl, hlt, h3⟩, fun v H3 y => ?_⟩
    have stA := ow.aside st4 eD ne
    obtain ⟨F3, l3, st5, rp⟩ := (yl v H3 y).st stA
    rw [List.drop_eq_getElem_cons hlt, dcLoop] at eq
    cases e3 : g items[i] s2 with
    | none =>
      simp only [e3] at eq
      rw [eq] at eE
      cases eE
    | some s3 =>
      simp only [e3] at eq
      refine ⟨_, _, F3, s2, items[i], s3, st5, rp, e3, fun σ4 F4 H4 l4 st6 o4 => ⟨wipe_eq o4 hv, _, _, F4, s3, st6, ?_⟩⟩
      have o5 : Out' vs σ4 (L2.wipe σ vs) := (o4.mono hv).symm
      cases e4 : t s3 with
      | bad =>
        simp only [e4] at eq
        rw [eq] at eE
        cases eE
      | exc c s4 =>
        simp only [e4] at eq
        rw [eq] at eE
        cases eE
      | ok b s4 =>
        simp only [e4] at eq
        intro F5 H5 l5 st7
        have l25 := (l3.trans l4).trans l5
        cases b with
        | false =>
          rw [if_neg (by decide)]
          obtain ⟨st8, ow8, eD8, ne8⟩ := StRel.back st4 ow eD l25 (st7.wipe o5)
          exact ⟨F5, wipeS vs s4, acc, av, l2.trans l25, st8, ow8, eD8, rA.le l25, ne8, eq⟩
        | true =>
          rw [if_pos rfl]
          refine ⟨_, _, F5, s4, st7, ?_⟩
          cases e5 : mk s4 with
          | bad =>
            simp only [e5] at eq
            rw [eq] at eE
            cases eE
          | exc c s5 =>
            simp only [e5] at eq
            rw [eq] at eE
            cases eE
          | ok yv s5 =>
            simp only [e5] at eq
            intro v1 F6 H6 l6 st9 rv1
            obtain ⟨F7, l7, st10, rp1⟩ := rv1.freeze st9
            refine ⟨_, _, F7, s5, st10, ?_⟩
            cases e6 : mv s5 with
            | bad =>
              simp only [e6] at eq
              rw [eq] at eE
              cases eE
            | exc c s6 =>
              simp only [e6] at eq
              rw [eq] at eE
              cases eE
            | ok zv s6 =>
              simp only [e6] at eq
              intro v2 F8 H8 l8 st11 rv2
              cases e7 : keyOf yv.val with
              | none =>
                simp only [e7] at eq
                rw [eq] at eE
                cases eE
              | some kk =>
                simp only [e7] at eq
                by_cases hz : acc.length < sizeLine
                · rw [if_pos hz] at eq
                  obtain ⟨F9, l9, st12, rp2⟩ := rv2.freeze st11
                  have l29 := ((((l25.trans l6).trans l7).trans l8).trans l9)
                  obtain ⟨st8, ow8, eD8, ne8⟩ := StRel.back st4 ow eD l29 (st12.wipe o5)
                  have hO : ObD K F9 (.dK (putK av kk v2)) (.dict (putD acc kk zv.val)) := .dic ((rA.le l29).put rp2)
                  obtain ⟨st13, ow13⟩ := StRel.grow (o := .dK []) st8 ow8 ne8 hO
                  exact ⟨av, kk, Bor.key (H := H6) (.inl rp1) e7, eD8, by rw [rA.length]; exact hz, F9, wipeS vs s6, putD acc kk zv.val, putK av kk v2, l2.trans l29, st13, ow13, upd_same, (rA.le l29).put rp2, ne8, eq⟩
                · rw [if_neg hz] at eq
                  rw [eq] at eE
                  cases eE
  · refine .inl ⟨f1 (by omega), ?_⟩
    rw [List.drop_of_length_le (by omega), dcLoop] at eq
    have stB := StRel.backC (vs := vs) st1 l2 st4 out_wipe
    refine hend acc s2 _ F2 H2 eq l2 stB ⟨Dd, rfl, ow, fun j y ej => ?_⟩
    rcases StRel.back_at ej with ⟨_, z | ⟨_, z, _⟩⟩ | ⟨h1, h2⟩
    · cases z
    · cases z
    · rw [← getD_eq (wipe_out h1)]
      exact ne j y h2
/-- the reading of a comprehension -/
theorem dc_ok {mi : M (List D)} {g : D → S → Option S} {t : M Bool} {mk mv : M Sl} {vs ws : List Nat} (hv : ∀ i ∈ ws, i ∈ vs) {k : Sl → S → Out Sl} (st : StRel K P F0 F σ H s) (h : Res K W P F0 F σ ((dcD mi g t mk mv vs s).bind k) Q) :
    tDc (tDI K W mi) (tDG K ws g) (tDT K W0 t) (tD K W0 mk) (tD K W0 mv) vs σ H fun v H1 => ∃ F1 s1 r, F.le F1 ∧ StRel K P F0 F1 σ H1 s1 ∧ RV K P F1 σ H1 s1 v r ∧ Res K W P F0 F1 σ (k r s1) Q := by
  refine ⟨P, F0, F, s, st, ?_⟩
  unfold dcD at h
  cases e : mi s with
  | bad =>
    rw [e] at h
    exact h
  | exc c s1 =>
    rw [e] at h
    exact h
  | ok items s1 =>
    rw [e] at h
    intro J F1 H1 l1 st1 fd Dd hD
    have h : Res K W P F0 F σ ((match dcLoop g t mk mv vs items [] (wipeS vs s1) with
      | .ok acc s3 => Out.ok (Sl.o (.dict acc)) (backS vs s1 s3)
      | _ => .bad).bind k) Q := h
    cases eL : dcLoop g t mk mv vs items [] (wipeS vs s1) with
    | bad => rw [eL] at h; exact h.elim
    | exc c s3 => rw [eL] at h; exact h.elim
    | ok acc s3 =>
      rw [eL] at h
      refine dc_turns (Qd := fun v H1 => ∃ F1 s1 r, F.le F1 ∧ StRel K P F0 F1 σ H1 s1 ∧ RV K P F1 σ H1 s1 v r ∧ Res K W P F0 F1 σ (k r s1) Q) hv st1 fd (fun acc' s3' v F2 H2 e2 l2 st2 rv => ?_) ⟨acc, s3, eL⟩ Dd hD
      rw [eL] at e2
      cases e2
      exact ⟨F2, _, _, l1.trans l2, st2, rv, Res.le (l1.trans l2) h⟩
/-- name = {..} on one line, the name a local -/
theorem ps_setDc {i : Nat} {y : Str} {py : Pos} {kx vx tg iter : Expr} {ifs : List Expr} {scope : Scope} {own : List (Str × Nat)} {pos spos : Pos} {wi : TI} {g : TG} {tt : TT} {tk tv : TE} (hc : X.calm = true) (hN : X.N.Nodup) (hy : X.N[i]? = some y) (hyl : X.env.scope.names.lookup y = some .local)
    (hsw : swapsWith (.DictComp kx vx [⟨tg, iter, ifs, 0⟩] scope pos) (some (.Name y py)) spos.line X.env = pure true) (hi : PI X tg iter wi) (ok : BlkOk X.N X.env.scope scope own)
    (hg : ∀ (s : Shared) (H : Hp) (C : Addr) (cl : List (Str × Addr)) (fp : List Addr), PG (X.blk s H scope (compEnvC scope cl C X.env) fp) tg g) (ht : ∀ (s : Shared) (H : Hp) (C : Addr) (cl : List (Str × Addr)) (fp : List Addr), PTs (X.blk s H scope (compEnvC scope cl C X.env) fp) ifs tt)
    (hk : ∀ (s : Shared) (H : Hp) (C : Addr) (cl : List (Str × Addr)) (fp : List Addr), PE (X.blk s H scope (compEnvC scope cl C X.env) fp) kx tk)
    (he : ∀ (s : Shared) (H : Hp) (C : Addr) (cl : List (Str × Addr)) (fp : List Addr), PE (X.blk s H scope (compEnvC scope cl C X.env) fp) vx tv) (hs : ∀ x, foldedSetIterable iter X.env x = pure x := by intro _; rfl) :
    PS X (.Assign [.Name y py] (.DictComp kx vx [⟨tg, iter, ifs, 0⟩] scope pos) spos) (tAsg (tDc wi g tt tk tv (own.map (·.2))) (gName i)) := by
  refine ⟨fun pins s σ H D I h => ?_⟩
  rw [exec_Assign_Name_used _ _ _ _ hsw]
  refine wpAny_bind (wpAny_standAt (wpAny_bind ?_))
  show wpAny _ X.A (do let _ ← comprehension (.DictComp kx vx [⟨tg, iter, ifs, 0⟩] scope pos) scope X.env (firstIterPos [⟨tg, iter, ifs, 0⟩] pos) newDict false (eval iter X.env) (some (assign (.Name y py) X.env))) _ _ s
  have h : tDc wi g tt tk tv (own.map (·.2)) σ H (fun x H1 => gName i x σ H1 D.nx) := h
  refine wpAny_bind (thn (dc_core (Qf := fun _ s' => SP X pins D .next s') hc hN I hi ok hg ht hk he hs h fun L C s' m H' I' q hn f => ?_) fun _ s' hq => wpAny_pure (wpAny_pure hq))
  show wpAny _ _ (assign (.Name y py) X.env (.ref L)) _ _ _
  refine wpAny_assign_Name (store_ok2 (v := V.ref L) I' hN hy (.inl hyl) rfl (fun s2 I2 ⟨a, sb, ha⟩ => ?_) (.inr hyl))
  obtain ⟨f0, f1, f2, f3, f4, f5⟩ := f
  have haC : C ≠ a := by
    rcases ha with z | z
    · rw [z]; exact f1
    · exact fun e => f4 y a z e.symm
  refine ⟨m, hn.sameBut sb haC, fun h3 sb3 => ?_⟩
  exact ⟨_, H', I2.turned (t' := s2.toks) (fun b o hb e => (sb3.2 b hb).trans e) f0 f1 f3 f4 f5, q⟩
theorem sw_trueD {kx vx : Expr} {gs : List Comprehension} {scope : Scope} {pos py : Pos} {y : Str} {l : Nat} {env : Env} (hk : env.scope.kind = .function) (hy : env.scope.names.lookup y = some .local) (hl : (py.line == pos.line) = true)
    (ha : (scope.names.any fun (n, k) => n == y && (k == .local || k == .cell)) = false) : swapsWith (.DictComp kx vx gs scope pos) (some (.Name y py)) l env = pure true := by
  have ky : env.kindOf y = some .local := hy
  have hb : env.blockKind = .function := by unfold Env.blockKind; rw [hk]; rfl
  unfold swapsWith
  simp only [hb, ky, ha, Expr.pos, hl]
  rfl
theorem d_dc {kx vx tg iter : Expr} {ifs : List Expr} {scope : Scope} {own : List (Str × Nat)} {pos : Pos} {mi : M (List D)} {g : D → S → Option S} {t : M Bool} {mk mv : M Sl} {ws : List Nat} (hc : X.calm = true) (hN : X.N.Nodup) (hi : DI X W tg iter mi) (ok : BlkOk X.N X.env.scope scope own)
    (hg : ∀ (s : Shared) (H : Hp) (C : Addr) (cl : List (Str × Addr)) (fp : List Addr), DG (X.blk s H scope (compEnvC scope cl C X.env) fp) tg ws g) (ht : ∀ (s : Shared) (H : Hp) (C : Addr) (cl : List (Str × Addr)) (fp : List Addr), DTs (X.blk s H scope (compEnvC scope cl C X.env) fp) W0 ifs t)
    (hk : ∀ (s : Shared) (H : Hp) (C : Addr) (cl : List (Str × Addr)) (fp : List Addr), DE (X.blk s H scope (compEnvC scope cl C X.env) fp) W0 kx mk) (he : ∀ (s : Shared) (H : Hp) (C : Addr) (cl : List (Str × Addr)) (fp : List Addr), DE (X.blk s H scope (compEnvC scope cl C X.env) fp) W0 vx mv) (hv : ∀ i ∈ ws, i ∈ own.map (·.2)) (hs : ∀ x, foldedSetIterable iter X.env x = pure x := by intro _; rfl) :
    DE X W (.DictComp kx vx [⟨tg, iter, ifs, 0⟩] scope pos) (dcD mi g t mk mv (own.map (·.2))) := by
  refine PE.weaken (pe_dc (g := tDG X.K ws g) (tt := tDT X.K W0 t) (tk := tD X.K W0 mk) (tv := tD X.K W0 mv) hc hN hi ok hg ht hk he hs) ?_
  rintro σ H Q ⟨P, F0, F, s, st, q⟩
  refine tDc_mono (dc_ok hv (k := fun r s => .ok r s) st (by rw [Out.bind_ret]; exact q)) ?_
  rintro v H1 ⟨F1, s1, r, l1, st1, rv, q1⟩
  exact q1 v F1 H1 (.refl _) st1 rv
where
  tDc_mono {K : PySem.W.Frag} {m : M (List D)} {g : TG} {tt : TT} {tk tv : TE} {vs : List Nat} {σ : L2.St} {H : Hp} {Q Q' : VK} (h : tDc (tDI K W m) g tt tk tv vs σ H Q) (mono : ∀ v H, Q v H → Q' v H) : tDc (tDI K W m) g tt tk tv vs σ H Q' := by
    obtain ⟨P, F0, F, s, st, r⟩ := h
    refine ⟨P, F0, F, s, st, ?_⟩
    cases e : m s with
    | bad =>
      rw [e] at r
      exact r
    | exc c s1 =>
      rw [e] at r
      exact r
    | ok items s1 =>
      rw [e] at r
      intro J F' H' l st' fd D hD
      obtain ⟨W2, w0, turn⟩ := r J F' H' l st' fd D hD
      exact ⟨W2, w0, fun i n H2 w => (turn i n H2 w).imp (fun z => ⟨z.1, mono _ _ z.2⟩) id⟩
theorem ds_setDc {i : Nat} {y : Str} {py : Pos} {kx vx tg iter : Expr} {ifs : List Expr} {scope : Scope} {own : List (Str × Nat)} {pos spos : Pos} {mi : M (List D)} {g : D → S → Option S} {t : M Bool} {mk mv : M Sl} {ws : List Nat} (hc : X.calm = true) (hN : X.N.Nodup) (hy : X.N[i]? = some y) (hyl : X.env.scope.names.lookup y = some .local)
    (hsw : swapsWith (.DictComp kx vx [⟨tg, iter, ifs, 0⟩] scope pos) (some (.Name y py)) spos.line X.env = pure true) (hi : DI X W tg iter mi) (ok : BlkOk X.N X.env.scope scope own)
    (hg : ∀ (s : Shared) (H : Hp) (C : Addr) (cl : List (Str × Addr)) (fp : List Addr), DG (X.blk s H scope (compEnvC scope cl C X.env) fp) tg ws g) (ht : ∀ (s : Shared) (H : Hp) (C : Addr) (cl : List (Str × Addr)) (fp : List Addr), DTs (X.blk s H scope (compEnvC scope cl C X.env) fp) W0 ifs t)
    (hk : ∀ (s : Shared) (H : Hp) (C : Addr) (cl : List (Str × Addr)) (fp : List Addr), DE (X.blk s H scope (compEnvC scope cl C X.env) fp) W0 kx mk) (he : ∀ (s : Shared) (H : Hp) (C : Addr) (cl : List (Str × Addr)) (fp : List Addr), DE (X.blk s H scope (compEnvC scope cl C X.env) fp) W0 vx mv) (hv : ∀ i ∈ ws, i ∈ own.map (·.2)) (hs : ∀ x, foldedSetIterable iter X.env x = pure x := by intro _; rfl) :
    DS X W (.Assign [.Name y py] (.DictComp kx vx [⟨tg, iter, ifs, 0⟩] scope pos) spos) (setS i (dcD mi g t mk mv (own.map (·.2)))) := by
  refine PS.weaken (ps_setDc (g := tDG X.K ws g) (tt := tDT X.K W0 t) (tk := tD X.K W0 mk) (tv := tD X.K W0 mv) hc hN hy hyl hsw hi ok hg ht hk he hs) ?_
  rintro T σ H ⟨P, F0, F, s, st, q⟩
  have h2 : Res X.K W P F0 F σ (dcD mi g t mk mv (own.map (·.2)) s) (fun v H1 => T.nx (σ.set i (some v)) H1) := by
    unfold setS at q
    cases e : dcD mi g t mk mv (own.map (·.2)) s with
    | bad =>
      rw [e] at q
      exact q
    | exc c s1 =>
      rw [e] at q
      exact fun F' H' l st' => q σ F' H' l st'
    | ok r s1 =>
      rw [e] at q
      intro v F1 H1 l1 st1 rv
      have q1 : ResS X.K W P F0 F (setE i r s1) T := q
      unfold setE at q1
      split at q1
      · rename_i hh
        exact q1 _ F1 H1 l1 (st1.set hh rv)
      · exact q1.elim
  refine d_dc.tDc_mono (dc_ok hv (k := fun r s => .ok r s) st (by rw [Out.bind_ret]; exact h2)) ?_
  rintro v H1 ⟨F1, s1, r, l1, st1, rv, q1⟩
  exact q1 v F1 H1 (.refl _) st1 rv
theorem dcK_mono {g : TG} {tt : TT} {tk tv : TE} {vs : List Nat} {σ : L2.St} {H : Hp} {Q Q' : VK} {i : Nat} (h : tDc (iKeys (tVar i)) g tt tk tv vs σ H Q) (mono : ∀ v H, Q v H → Q' v H) : tDc (iKeys (tVar i)) g tt tk tv vs σ H Q' := by
  obtain ⟨v, ev, d, o, ex, q⟩ := h
  refine ⟨v, ev, d, o, ex, ?_⟩
  rcases q with ⟨ks, h1, q⟩ | ⟨ks, h1, q⟩
  · refine .inl ⟨ks, h1, fun D hD => ?_⟩
    obtain ⟨W2, w0, turn⟩ := q D hD
    exact ⟨W2, w0, fun i n H2 w => (turn i n H2 w).imp (fun z => ⟨z.1, mono _ _ z.2⟩) id⟩
  · refine .inr ⟨ks, h1, fun D hD => ?_⟩
    obtain ⟨W2, w0, turn⟩ := q D hD
    exact ⟨W2, w0, fun i n H2 w => (turn i n H2 w).imp (fun z => ⟨z.1, mono _ _ z.2⟩) id⟩
/-- the reading of a list comprehension over keys, locked by itself or before -/
theorem dcK_ok {i : Nat} {g : D → S → Option S} {t : M Bool} {mk mv : M Sl} {vs ws : List Nat} (hv : ∀ i ∈ ws, i ∈ vs) (st : StRel K P F0 F σ H s) (h : Res K W P F0 F σ (dcD (keysD i) g t mk mv vs s) Q) :
    (∃ d u, H d = some u ∧ Mut (some u) ∧ ∀ od, tDc (iKeys (tVar i)) (tDG K ws g) (tDT K W0 t) (tD K W0 mk) (tD K W0 mv) vs σ (upd H d (.frz od u)) fun v H' => H' d = some (.frz od u) ∧ Q v (upd H' d u)) ∨ tDc (iKeys (tVar i)) (tDG K ws g) (tDT K W0 t) (tD K W0 mk) (tD K W0 mv) vs σ H Q := by
  unfold dcD at h
  cases e : keysD i s with
  | bad => rw [e] at h; exact h.elim
  | exc c s1 => exact (keys_noexc e).elim
  | ok items s1 =>
    rw [e] at h
    have h : Res K W P F0 F σ (match dcLoop g t mk mv vs items [] (wipeS vs s1) with
      | .ok acc s3 => Out.ok (Sl.o (.dict acc)) (backS vs s1 s3)
      | _ => .bad) Q := h
    obtain ⟨F1, d, ks, ds, l1, st1, ev, hF, r, rfl⟩ := keys_ok st e
    cases eL : dcLoop g t mk mv vs (ds.map fun p => p.1) [] (wipeS vs s1) with
    | bad => rw [eL] at h; exact h.elim
    | exc c s3 => rw [eL] at h; exact h.elim
    | ok acc s3 =>
      rw [eL] at h
      have main : ∀ od o0, H d = some o0 → tDc (iKeys (tVar i)) (tDG K ws g) (tDT K W0 t) (tD K W0 mk) (tD K W0 mv) vs σ (upd H d (.frz od (.dK ks))) fun v H' => H' d = some (.frz od (.dK ks)) ∧ Q v (upd H' d o0) := by
        intro od o0 e0
        have stL := st1.enterL (od := od) hF trivial
        refine ⟨_, ev, d, od, rfl, .inl ⟨ks, upd_same, fun Dd hD => ?_⟩⟩
        refine dc_turns (Qd := fun v H' => H' d = some (.frz od (.dK ks)) ∧ Q v (upd H' d o0)) hv stL (feeds_keys upd_same r) (fun acc' s3' v F2 H2 e2 l2 st2 rv => ?_) ⟨acc, s3, eL⟩ Dd hD
        rw [eL] at e2
        cases e2
        obtain ⟨st3, e3⟩ := st1.leaveL hF e0 l2 st2
        exact ⟨e3, h v F2 _ (l1.trans l2) st3 rv.leaveL⟩
      rcases st1.fH d _ hF with e0 | ⟨_, od, e0⟩
      · exact .inl ⟨d, _, e0, trivial, fun od => main od _ e0⟩
      · refine .inr ?_
        have z := main od _ e0
        rw [upd_id e0] at z
        refine dcK_mono z fun v H' qq => ?_
        have q2 := qq.2
        rw [upd_id qq.1] at q2
        exact q2
theorem dcK_noexc {i : Nat} {g : D → S → Option S} {t : M Bool} {mk mv : M Sl} {c : Str} (h : dcD (keysD i) g t mk mv vs s = .exc c s1) : False := by
  unfold dcD at h
  cases e : keysD i s with
  | bad => rw [e] at h; cases h
  | exc c s1 => exact keys_noexc e
  | ok items s2 =>
    rw [e] at h
    have h : (match dcLoop g t mk mv vs items [] (wipeS vs s2) with
      | .ok acc s3 => Out.ok (Sl.o (.dict acc)) (backS vs s2 s3)
      | _ => .bad) = .exc c s1 := h
    split at h <;> cases h
theorem d_dcK {kx vx tg iter : Expr} {ifs : List Expr} {scope : Scope} {own : List (Str × Nat)} {pos : Pos} {i : Nat} {g : D → S → Option S} {t : M Bool} {mk mv : M Sl} {ws : List Nat} (hc : X.calm = true) (hN : X.N.Nodup) (hi : PE X iter (tVar i)) (ok : BlkOk X.N X.env.scope scope own)
    (hg : ∀ (s : Shared) (H : Hp) (C : Addr) (cl : List (Str × Addr)) (fp : List Addr), DG (X.blk s H scope (compEnvC scope cl C X.env) fp) tg ws g) (ht : ∀ (s : Shared) (H : Hp) (C : Addr) (cl : List (Str × Addr)) (fp : List Addr), DTs (X.blk s H scope (compEnvC scope cl C X.env) fp) W0 ifs t)
    (hk : ∀ (s : Shared) (H : Hp) (C : Addr) (cl : List (Str × Addr)) (fp : List Addr), DE (X.blk s H scope (compEnvC scope cl C X.env) fp) W0 kx mk) (he : ∀ (s : Shared) (H : Hp) (C : Addr) (cl : List (Str × Addr)) (fp : List Addr), DE (X.blk s H scope (compEnvC scope cl C X.env) fp) W0 vx mv) (hv : ∀ i ∈ ws, i ∈ own.map (·.2)) (hs : ∀ x, foldedSetIterable iter X.env x = pure x := by intro _; rfl) :
    DE X W (.DictComp kx vx [⟨tg, iter, ifs, 0⟩] scope pos) (dcD (keysD i) g t mk mv (own.map (·.2))) := by
  have h := pe_dc (pos := pos) (g := tDG X.K ws g) (tt := tDT X.K W0 t) (tk := tD X.K W0 mk) (tv := tD X.K W0 mv) hc hN (pi_keys hi) ok hg ht hk he hs
  refine PE.weaken (PE.or (pe_lock h) h) ?_
  rintro σ H Q ⟨P, F0, F, s, st, q⟩
  exact dcK_ok hv st q
theorem ds_setDcK {i j : Nat} {y : Str} {py : Pos} {kx vx tg iter : Expr} {ifs : List Expr} {scope : Scope} {own : List (Str × Nat)} {pos spos : Pos} {g : D → S → Option S} {t : M Bool} {mk mv : M Sl} {ws : List Nat} (hc : X.calm = true) (hN : X.N.Nodup) (hy : X.N[i]? = some y) (hyl : X.env.scope.names.lookup y = some .local)
    (hsw : swapsWith (.DictComp kx vx [⟨tg, iter, ifs, 0⟩] scope pos) (some (.Name y py)) spos.line X.env = pure true) (hi : PE X iter (tVar j)) (ok : BlkOk X.N X.env.scope scope own)
    (hg : ∀ (s : Shared) (H : Hp) (C : Addr) (cl : List (Str × Addr)) (fp : List Addr), DG (X.blk s H scope (compEnvC scope cl C X.env) fp) tg ws g) (ht : ∀ (s : Shared) (H : Hp) (C : Addr) (cl : List (Str × Addr)) (fp : List Addr), DTs (X.blk s H scope (compEnvC scope cl C X.env) fp) W0 ifs t)
    (hk : ∀ (s : Shared) (H : Hp) (C : Addr) (cl : List (Str × Addr)) (fp : List Addr), DE (X.blk s H scope (compEnvC scope cl C X.env) fp) W0 kx mk) (he : ∀ (s : Shared) (H : Hp) (C : Addr) (cl : List (Str × Addr)) (fp : List Addr), DE (X.blk s H scope (compEnvC scope cl C X.env) fp) W0 vx mv) (hv : ∀ i ∈ ws, i ∈ own.map (·.2)) (hs : ∀ x, foldedSetIterable iter X.env x = pure x := by intro _; rfl) :
    DS X W (.Assign [.Name y py] (.DictComp kx vx [⟨tg, iter, ifs, 0⟩] scope pos) spos) (setS i (dcD (keysD j) g t mk mv (own.map (·.2)))) := by
  have h := ps_setDc (g := tDG X.K ws g) (tt := tDT X.K W0 t) (tk := tD X.K W0 mk) (tv := tD X.K W0 mv) hc hN hy hyl hsw (pi_keys hi) ok hg ht hk he hs
  refine PS.weaken (PS.or (ps_lock h) h) ?_
  rintro T σ H ⟨P, F0, F, s, st, q⟩
  refine (dcK_ok hv st (setS_res q fun _ _ => dcK_noexc)).imp id id
end
end Dy
end
section
set_option Elab.async false
set_option linter.all false
set_option maxRecDepth 100000
set_option maxHeartbeats 4000000
namespace Dy
open PySem PySem.Spec PyProof.Rows L2
variable [LawI] [Ph]
section
variable {X : Cx} {W : WX} {a b : Expr} {oa ob : Opd} {P F0 : Hp} {F F' : Fz} {σ σ' : L2.St} {H H' : Hp} {s s1 s' : S} {Q : VK} {K : PySem.W.Frag} {v : V} {x : D} {pins : List (Addr × Obj)} {sh : Shared} {T : Ends} {d w c : Addr} {u o0 : HO} {od : Obj} {vs : List Nat}
/-! ### the draw's dict -/
def okKey (k : Str) : Bool := decide (k ≠ "cells") && decide (k ≠ "rest") && decide (k ≠ "turn")
theorem okKey_ne {k : Str} (h : okKey k = true) : k ≠ "cells" ∧ k ≠ "rest" ∧ k ≠ "turn" := by
  unfold okKey at h
  simp only [Bool.and_eq_true, decide_eq_true_eq] at h
  exact ⟨h.1.1, h.1.2, h.2⟩
def drAt (s : S) (i : Nat) : Option Dr := match s.env[i]? with
  | some (.d (.dict [(.none, .none)])) => match s.dr with
    | some r => if okKey r.key = true then some r else none
    | none => none
  | _ => none
theorem rpkv_no {kvs : List (Key × V)} {l : List (D × D)} (h : RpKV K F kvs l) (e : l = [(.none, .none)]) : False := by
  cases h with
  | nil => cases e
  | cons _ _ =>
    rename_i k _ _ _ _ _ _
    injection e with e1 _
    injection e1 with e2 _
    cases k <;> cases e2
theorem drAt_ok {i : Nat} {r : Dr} (st : StRel K P F0 F σ H s) (h : drAt s i = some r) : s.dr = some r ∧ okKey r.key = true ∧ ∃ d w c, σ[i]? = some (some (.ref d)) ∧ F.dr = some (d, w) ∧ d ≠ w ∧ H d = some (.dK (drKvs r w c)) ∧ H w = some (.lst (r.wide.map V.int)) ∧ Rd F.hp c (.lst (r.cells.map V.int)) ∧
    F.hp d = none ∧ F.hp w = none ∧ P d = none ∧ P w = none := by
  unfold drAt at h
  split at h
  · rename_i e
    split at h
    · rename_i q e2
      split at h
      · rename_i hk
        cases h
        refine ⟨e2, hk, ?_⟩
        have z := st.dr
        rw [e2] at z
        obtain ⟨d, w, c, z1, z2⟩ := z
        obtain ⟨v, e1, rp⟩ := st.slot i _ e
        cases rp with
        | dic h1 r => exact (rpkv_no r rfl).elim
        | tok h1 =>
          rw [z1] at h1
          cases h1
          exact ⟨d, w, c, getD_some e1, z1, z2⟩
      · cases h
    · cases h
  · cases h
theorem val_key {r : Dr} (h : okKey r.key = true) : valV (drKvs r w c) (.inr r.key) = some (.ref w) := by
  simp [valV, drKvs]
theorem val_cells {r : Dr} (h : okKey r.key = true) : valV (drKvs r w c) (.inr "cells") = some (.ref c) := by
  have := okKey_ne h
  simp [valV, drKvs, this.1]
theorem val_rest {r : Dr} (h : okKey r.key = true) : valV (drKvs r w c) (.inr "rest") = some (.int r.rest) := by
  have := okKey_ne h
  have e1 : ¬ (("cells" : Str) = "rest") := by decide +kernel
  simp [valV, drKvs, this.2.1, e1]
theorem val_turn {r : Dr} (h : okKey r.key = true) : valV (drKvs r w c) (.inr "turn") = some (.int r.turn) := by
  have := okKey_ne h
  have e1 : ¬ (("cells" : Str) = "turn") := by decide +kernel
  have e2 : ¬ (("rest" : Str) = "turn") := by decide +kernel
  simp [valV, drKvs, this.2.2, e1, e2]
theorem put_rest {r : Dr} (h : okKey r.key = true) (n : Int) : putK (drKvs r w c) (.inr "rest") (.int n) = drKvs { r with rest := n } w c := by
  have := okKey_ne h
  have e1 : ¬ (("cells" : Str) = "rest") := by decide +kernel
  have e2 : ¬ (("turn" : Str) = "rest") := by decide +kernel
  simp [putK, drKvs, this.2.1, e1, e2]
theorem put_turn {r : Dr} (h : okKey r.key = true) (n : Int) : putK (drKvs r w c) (.inr "turn") (.int n) = drKvs { r with turn := n } w c := by
  have := okKey_ne h
  have e1 : ¬ (("cells" : Str) = "turn") := by decide +kernel
  have e2 : ¬ (("rest" : Str) = "turn") := by decide +kernel
  simp [putK, drKvs, this.2.2, e1, e2]
/-- draw['rest'], draw['turn'], draw['cells'] -/
def drRest (i : Nat) : M Sl := fun s => match drAt s i with
  | some r => .ok (.d (.int r.rest)) s
  | none => .bad
def drTurn (i : Nat) : M Sl := fun s => match drAt s i with
  | some r => .ok (.d (.int r.turn)) s
  | none => .bad
def drCells (i : Nat) : M Sl := fun s => match drAt s i with
  | some r => .ok (.d (.list (r.cells.map .int))) s
  | none => .bad
theorem d_drRest {o : Expr} {i : Nat} {j} {p pos : Pos} (hu : X.A.units + 1 < cLine) (ho : PE X o (tVar i)) : DE X W (.Subscript o (.Constant (.str "rest") j p) pos) (drRest i) := by
  refine PE.weaken (pe_dget hu ho pe_str (by intro _ _; rfl)) ?_
  rintro σ H Q ⟨P, F0, F, s, st, q⟩
  unfold drRest at q
  split at q
  · rename_i r e
    obtain ⟨e1, hk, d, w, c, e2, e3, e4, e5, e6, e7, e8⟩ := drAt_ok st e
    exact ⟨_, e2, d, _, rfl, .inl ⟨_, .inr "rest", .inl e5, rfl, (val_rest hk).symm⟩, q _ F H (.refl _) st (.int _)⟩
  · exact q.elim
theorem d_drTurn {o : Expr} {i : Nat} {j} {p pos : Pos} (hu : X.A.units + 1 < cLine) (ho : PE X o (tVar i)) : DE X W (.Subscript o (.Constant (.str "turn") j p) pos) (drTurn i) := by
  refine PE.weaken (pe_dget hu ho pe_str (by intro _ _; rfl)) ?_
  rintro σ H Q ⟨P, F0, F, s, st, q⟩
  unfold drTurn at q
  split at q
  · rename_i r e
    obtain ⟨e1, hk, d, w, c, e2, e3, e4, e5, e6, e7, e8⟩ := drAt_ok st e
    exact ⟨_, e2, d, _, rfl, .inl ⟨_, .inr "turn", .inl e5, rfl, (val_turn hk).symm⟩, q _ F H (.refl _) st (.int _)⟩
  · exact q.elim
theorem d_drCells {o : Expr} {i : Nat} {j} {p pos : Pos} (hu : X.A.units + 1 < cLine) (ho : PE X o (tVar i)) : DE X W (.Subscript o (.Constant (.str "cells") j p) pos) (drCells i) := by
  refine PE.weaken (pe_dget hu ho pe_str (by intro _ _; rfl)) ?_
  rintro σ H Q ⟨P, F0, F, s, st, q⟩
  unfold drCells at q
  split at q
  · rename_i r e
    obtain ⟨e1, hk, d, w, c, e2, e3, e4, e5, e6, e7, e8⟩ := drAt_ok st e
    exact ⟨_, e2, d, _, rfl, .inl ⟨_, .inr "cells", .inl e5, rfl, (val_cells hk).symm⟩, q _ F H (.refl _) st (.lst e7 (.of_ints _))⟩
  · exact q.elim
/-- draw['wide'] != [] -/
def drMore (i : Nat) (key : Str) : M Sl := fun s => match drAt s i with
  | some r => if r.key = key then .ok (.d (.bool (decide (r.wide ≠ [])))) s else .bad
  | none => .bad
theorem plain_ints : ∀ ns : List Int, PyData.plainAll (ns.map .int) = true
  | [] => rfl
  | n :: ns => by simp [PyData.plainAll, PyData.plain, plain_ints ns]
theorem depth_ints : ∀ ns : List Int, PyData.depthAll (ns.map .int) ≤ 1
  | [] => by simp [PyData.depthAll]
  | n :: ns => by simp [PyData.depthAll, PyData.depth, depth_ints ns]
theorem okD_ints (ns : List Int) : okD (.list (ns.map .int)) = true := by
  unfold okD
  have := depth_ints ns
  rw [Bool.and_eq_true, decide_eq_true_eq]
  exact ⟨by rw [PyData.plain]; exact plain_ints ns, by rw [PyData.depth]; omega⟩
theorem ne_nil (ns : List Int) : neD (.list (ns.map .int)) (.list []) = some (.d (.bool (decide (ns ≠ [])))) := by
  unfold neD
  rw [if_pos ⟨okD_ints ns, okD_ints []⟩]
  cases ns <;> simp [PyData.eqv, PyData.eqvAll]
theorem d_drMore {o : Expr} {i : Nat} {j} {key : Str} {p pos pos1 pos2 : Pos} (hu : X.A.units + 1 < cLine) (hu2 : X.A.units + 64 < cLine) (ho : PE X o (tVar i)) : DE X W (.Compare (.Subscript o (.Constant (.str key) j p) pos) [.NotEq] [.List [] pos1] pos2) (drMore i key) := by
  refine PE.weaken (pe_cmpR (o_ne hu2) (pe_dget hu ho pe_str (by intro _ _; rfl)) (d_lst (W := W) (da_nil (W := W))) (nomark _)) ?_
  rintro σ H Q ⟨P, F0, F, s, st, q⟩
  unfold drMore at q
  split at q
  · rename_i r e
    split at q
    · rename_i ek
      obtain ⟨e1, hk, d, w, c, e2, e3, e4, e5, e6, e7, e8, e9, e10, e11⟩ := drAt_ok st e
      subst ek
      refine ⟨_, e2, d, _, rfl, .inl ⟨_, .inr r.key, .inl e5, rfl, (val_key hk).symm⟩, ⟨P, F0, F, s, st, ?_⟩⟩
      intro v F1 H1 l1 st1 rv
      obtain ⟨_, _, d', w', c', f2, f3, f4, f5, f6, f7, f8, f9, f10, f11⟩ := drAt_ok st1 e
      have z := l1.dr _ e3
      rw [f3] at z
      cases z
      exact ⟨P, F0, F1, σ, s, .list (r.wide.map .int), .list [], _, st1, .inr ⟨w, _, rfl, f9, f6, .lst (.of_ints _)⟩, rv.bor, ne_nil _, fun v' F2 H2 l2 st2 rv2 => q v' F2 H2 (l1.trans l2) st2 rv2⟩
    · exact q.elim
  · exact q.elim
/-- the draw's parts written -/
theorem StRel.drPut {r r' : Dr} (st : StRel K P F0 F σ H s) (e : s.dr = some r) (ed : F.dr = some (d, w)) (q : DrOk P F H' (some r')) (hH : ∀ b, b ≠ d → b ≠ w → H' b = H b) : StRel K P F0 F σ H' { s with dr := some r' } := by
  obtain ⟨p1, p2, p3, p4⟩ := st.drP ed
  have tb' : LamX.Tabs (lamTT K) H' := Tabs_write st.tb.ok fun b o eb nx => by
    have z := st.dr
    rw [e] at z
    obtain ⟨d', w', c, z1, z2, z3, z4, _⟩ := z
    rw [ed] at z1
    cases z1
    rw [hH b (fun y => by rw [y, z3] at eb; cases eb; exact nx trivial) (fun y => by rw [y, z4] at eb; cases eb; exact nx trivial)]
    exact eb
  refine ⟨fun b u z => ?_, fun b u z => ?_, st.new, st.len, fun j sl z => ?_, st.sep, q, ⟨tb', st.tb.nP, st.tb.nF⟩, st.ph⟩
  · rw [hH b (fun y => by rw [y, p3] at z; cases z) (fun y => by rw [y, p4] at z; cases z)]
    exact st.fH b u z
  · rw [hH b (fun y => by rw [y, p1] at z; cases z) (fun y => by rw [y, p2] at z; cases z)]
    exact st.pH b u z
  · have y := st.slot j sl z
    cases sl with
    | u => trivial
    | d x => exact y
    | o x =>
      obtain ⟨b, e1, ow⟩ := y
      obtain ⟨n1, n2⟩ := ow.dr d w ed
      obtain ⟨ob, e2, r2⟩ := ow.ob
      exact ⟨b, e1, ow.fr, ow.pr, ow.dr, ob, by rw [hH b n1 n2]; exact e2, r2⟩
/-- draw['wide'].pop(0) -/
def drPop (i : Nat) (key : Str) : M Sl := fun s => match drAt s i with
  | some r => if r.key = key then match r.wide with
    | n :: ns => .ok (.d (.int n)) { s with dr := some { r with wide := ns } }
    | [] => .bad else .bad
  | none => .bad
theorem d_drPop {o : Expr} {i : Nat} {j jj} {key : Str} {p pos pos1 apos cpos : Pos} (hu : X.A.units + 1 < cLine) (ho : PE X o (tVar i))
    (hpe : ∀ {r : V → List V → Hp → VK → Prop} {to : TE} {t : TA}, MtR X "list.pop" r → PE X (.Subscript o (.Constant (.str key) j p) pos) to → PA X [.Constant (.int 0) jj pos1] t → PE X (.Call (.Attribute (.Subscript o (.Constant (.str key) j p) pos) "pop" apos) [.Constant (.int 0) jj pos1] [] cpos) (tBM X.K "list" r to t) := by intro r to t h1 h2 h3; exact pe_bm PySem.F.plainAttrs_list PySem.F.slot_list_pop PySem.F.type_list_pop h1 h2 h3) :
    DE X W (.Call (.Attribute (.Subscript o (.Constant (.str key) j p) pos) "pop" apos) [.Constant (.int 0) jj pos1] [] cpos) (drPop i key) := by
  refine PE.weaken (hpe mt_popAt (pe_dget hu ho pe_str (by intro _ _; rfl)) (pa_cons pe_int pa_nil)) ?_
  rintro σ H Q ⟨P, F0, F, s, st, q⟩
  unfold drPop at q
  split at q
  · rename_i r e
    split at q
    · rename_i ek
      split at q
      · rename_i n ns ew
        obtain ⟨e1, hk, d, w, c, e2, e3, e4, e5, e6, e7, e8, e9, e10, e11⟩ := drAt_ok st e
        subst ek
        refine ⟨_, e2, d, _, rfl, .inl ⟨_, .inr r.key, .inl e5, rfl, (val_key hk).symm⟩, .inl ⟨rfl, _, .inl (.inl e6)⟩, ?_⟩
        refine ⟨w, _, 0, 0, .int n, rfl, rfl, e6, by decide, by decide, ?_, by rw [ew]; rfl, ?_⟩
        · rw [ew]
          simp only [seqIndex?, List.map_cons, List.length_cons]
          simp
        · refine q (.int n) F _ (.refl _) (st.drPut e1 e3 ⟨d, w, c, e3, e4, ?_, ?_, e7, e8, e9, e10, e11⟩ ?_) (.int _)
          · rw [upd_ne e4]
            exact e5
          · rw [upd_same, ew]
            rfl
          · intro b _ h2
            rw [upd_ne h2]
      · exact q.elim
    · exact q.elim
  · exact q.elim
/-- draw['rest'] = e, draw['turn'] = e -/
def drPutS (i : Nat) (f : Dr → Int → Dr) (m : M Sl) : M Fl := fun s => (m s).bind fun x s => match drAt s i with
  | some r => match x.val with
    | .int n => .ok .nx { s with dr := some (f r n) }
    | _ => .bad
  | none => .bad
theorem drPut_core {f : Dr → Int → Dr} {kk : Str} {i : Nat} {m : M Sl} (hf : ∀ r w c n, okKey r.key = true → putK (drKvs r w c) (.inr kk) (.int n) = drKvs (f r n) w c ∧ (f r n).wide = r.wide ∧ (f r n).cells = r.cells) (st : StRel K P F0 F σ H s) (q : ResS K W P F0 F (drPutS i f m s) T) :
    tD K W m σ H fun v H1 => ∃ d, σ[i]? = some (some (.ref d)) ∧ ∃ H2, DPut H1 d (.str kk) v H2 ∧ T.nx σ H2 := by
  refine tD_mono (tD.bindS st q) ?_
  rintro v H1 ⟨F1, s1, x, l1, st1, rv, q1⟩
  split at q1
  · rename_i r e
    split at q1
    · rename_i n ex
      obtain ⟨e1, hk, d, w, c, e2, e3, e4, e5, e6, e7, e8, e9, e10, e11⟩ := drAt_ok st1 e
      have ev := rv.bor
      rw [ex] at ev
      have ev := ev.int
      subst ev
      obtain ⟨g1, g2, g3⟩ := hf r w c n hk
      refine ⟨d, e2, _, .inl ⟨_, .inr kk, e5, rfl, ?_, rfl⟩, ?_⟩
      · show 4 < sizeLine
        decide
      · refine q1 σ F1 _ (.refl _) (st1.drPut e1 e3 ⟨d, w, c, e3, e4, ?_, ?_, by rw [g3]; exact e7, e8, e9, e10, e11⟩ ?_)
        · rw [upd_same, g1]
        · rw [upd_ne (Ne.symm e4), g2]
          exact e6
        · intro b h1 _
          rw [upd_ne h1]
    · exact q1.elim
  · exact q1.elim
theorem ds_drRest {o value : Expr} {i : Nat} {j} {m : M Sl} {p pos pos' : Pos} (hu : X.A.units + 1 < cLine) (ho : PE X o (tVar i)) (hv : DE X W value m) (hs : swapsWith value (some (.Subscript o (.Constant (.str "rest") j p) pos')) pos.line X.env = pure false := by rfl) :
    DS X W (.Assign [.Subscript o (.Constant (.str "rest") j p) pos'] value pos) (drPutS i (fun r n => { r with rest := n }) m) := by
  refine PS.weaken (ps_dput hu ho pe_str hv hs) ?_
  rintro T σ H ⟨P, F0, F, s, st, q⟩
  refine tD_mono (drPut_core (kk := "rest") (fun r w c n hk => ⟨put_rest hk n, rfl, rfl⟩) st q) ?_
  rintro v H1 ⟨d, e1, H2, g, t⟩
  exact ⟨_, e1, d, H2, rfl, g, t⟩
theorem ds_drTurn {o value : Expr} {i : Nat} {j} {m : M Sl} {p pos pos' : Pos} (hu : X.A.units + 1 < cLine) (ho : PE X o (tVar i)) (hv : DE X W value m) (hs : swapsWith value (some (.Subscript o (.Constant (.str "turn") j p) pos')) pos.line X.env = pure false := by rfl) :
    DS X W (.Assign [.Subscript o (.Constant (.str "turn") j p) pos'] value pos) (drPutS i (fun r n => { r with turn := n }) m) := by
  refine PS.weaken (ps_dput hu ho pe_str hv hs) ?_
  rintro T σ H ⟨P, F0, F, s, st, q⟩
  refine tD_mono (drPut_core (kk := "turn") (fun r w c n hk => ⟨put_turn hk n, rfl, rfl⟩) st q) ?_
  rintro v H1 ⟨d, e1, H2, g, t⟩
  exact ⟨_, e1, d, H2, rfl, g, t⟩
end
end Dy
end
section
set_option Elab.async false
set_option linter.all false
set_option maxRecDepth 100000
set_option maxHeartbeats 4000000
namespace Dy
open PySem PySem.Spec PyProof.Rows L2
variable [LawI] [Ph]
section
variable {X : Cx} {W : WX} {a b : Expr} {oa ob : Opd} {P F0 : Hp} {F F' : Fz} {σ σ' : L2.St} {H H' : Hp} {s s1 s' : S} {Q : VK} {K : PySem.W.Frag} {v : V} {x : D} {pins : List (Addr × Obj)} {sh : Shared} {T : Ends} {d w c : Addr} {u o0 : HO} {od : Obj} {vs : List Nat}
/-! ### the draw's dict is made -/
def ownInts (s : S) (j : Nat) : Option (List Int) := match s.env[j]? with
  | some (.o (.list ws)) => intsOf ws
  | _ => none
theorem ownInts_ok {j : Nat} {ns : List Int} (st : StRel K P F0 F σ H s) (h : ownInts s j = some ns) : s.env[j]? = some (.o (.list (ns.map .int))) ∧ ∃ a, σ[j]? = some (some (.ref a)) ∧ Own K P F H a (.list (ns.map .int)) ∧ H a = some (.lst (ns.map V.int)) := by
  unfold ownInts at h
  split at h
  · rename_i ws e
    have z := intsOf_eq h
    subst z
    obtain ⟨a, e1, ow⟩ := st.slot j _ e
    refine ⟨e, a, getD_some e1, ow, ?_⟩
    obtain ⟨o, e2, r⟩ := ow.ob
    cases r with
    | lst r => rw [e2, r.ints]
  · cases h
def listInts : D → Option (List Int)
  | .list cs => intsOf cs
  | _ => none
theorem listInts_ok {x : D} {cs : List Int} (h : listInts x = some cs) : x = .list (cs.map .int) := by
  unfold listInts at h
  split at h
  · rw [intsOf_eq h]
  · cases h
def mkDr2 (j : Nat) (key : Str) (r : Sl) (s1 : S) : Out Sl := match listInts r.val with
  | some cs => match ownInts s1 j with
    | some ws => match s1.dr with
      | none => .ok (.d tok) { env := s1.env.set j .u, dr := some ⟨key, ws, cs, 0, 0⟩ }
      | some _ => .bad
    | none => .bad
  | none => .bad
def mkDrD (j : Nat) (key : Str) (m : M Sl) : M Sl := fun s => match ownInts s j with
  | some _ => (m s).bind fun r s1 => mkDr2 j key r s1
  | none => .bad
theorem d_mkDr {key : Str} {o lc : Expr} {j : Nat} {m : M Sl} {j1 j2 j3 j4 j5 j6} {p1 p2 p3 p4 p5 p6 pos : Pos} (ho : PE X o (tVar j)) (hm : DE X W lc m) (hk : ∀ a b c d : V, mergeK [] [(Sum.inr key, a), (Sum.inr "cells", b), (Sum.inr "rest", c), (Sum.inr "turn", d)] = [(Sum.inr key, a), (Sum.inr "cells", b), (Sum.inr "rest", c), (Sum.inr "turn", d)] := by intro _ _ _ _; rfl) :
    DE X W (.Dict [some (.Constant (.str key) j1 p1), some (.Constant (.str "cells") j2 p2), some (.Constant (.str "rest") j3 p3), some (.Constant (.str "turn") j4 p4)] [o, lc, .Constant (.int 0) j5 p5, .Constant (.int 0) j6 p6] pos) (mkDrD j key m) := by
  refine PE.weaken (pe_disp (pps_cons pe_str ho (pps_cons pe_str hm (pps_cons pe_str pe_int (pps_cons pe_str pe_int pps_nil)))) rfl rfl (by simp) (by simp)) ?_
  rintro σ H Q ⟨P, F0, F, s, st, q⟩ p hp
  unfold mkDrD at q
  split at q
  · rename_i ws0 e0
    obtain ⟨_, a, e1, _, _⟩ := ownInts_ok st e0
    obtain ⟨st0, p', ep, ow0, ne0⟩ := st.alloc_o (o := .dK []) (x := .dict []) hp (.dic .nil)
    cases ep
    have stA := ow0.aside st0 upd_same ne0
    refine ⟨_, e1, ⟨_, _, F, s, stA, ?_⟩⟩
    cases em : m s with
    | bad =>
      rw [em] at q
      exact q.elim
    | exc c s1 =>
      rw [em] at q
      exact fun F' H' l st' => q F' H' l (StRel.back st0 ow0 upd_same l st').1
    | ok r s1 =>
      rw [em] at q
      have q : Res X.K W P F0 F σ (mkDr2 j key r s1) Q := q
      intro v1 F1 H1 l1 st1 rv1
      obtain ⟨F2, l2, st2, rp1⟩ := rv1.freeze st1
      have l02 := l1.trans l2
      obtain ⟨st3, ow3, e3, ne3⟩ := StRel.back st0 ow0 upd_same l02 st2
      refine ⟨e3, ?_⟩
      unfold mkDr2 at q
      split at q
      · rename_i cs ec
        split at q
        · rename_i ws ew
          split at q
          · rename_i edr
            have ec := listInts_ok ec
            rw [ec] at rp1
            obtain ⟨k1, a', k2, owa, k3⟩ := ownInts_ok st3 ew
            rw [e1] at k2
            cases k2
            cases rp1 with
            | lst hq ra =>
              rename_i c xs
              have hc := ra.ints
              subst hc
              have edF : F2.dr = none := by
                have z := st3.dr
                rw [edr] at z
                exact z
              have npa : p ≠ a := fun z => ne3 j _ k1 (by rw [getD_of e1, z])
              refine ⟨[(Sum.inr key, .ref a), (Sum.inr "cells", .ref c), (Sum.inr "rest", .int 0), (Sum.inr "turn", .int 0)], rfl, by simp, ?_⟩
              rw [hk]
              have le2 : F2.le ⟨F2.hp, some (p, a)⟩ := ⟨fun _ _ h => h, (fun z hz => by rw [edF] at hz; cases hz)⟩
              refine q (.ref p) ⟨F2.hp, some (p, a)⟩ _ ⟨fun b o z => l02.hp b o z, fun z hz => ?_⟩ ⟨fun b u z => ?_, fun b u z => ?_, st3.new, by simpa using st3.len, fun i sl ei => ?_, fun i k y z b hik ei ek => ?_, ?_, ⟨(st3.tb.write e3 trivial).ok, st3.tb.nP, st3.tb.nF⟩, Ph.mono _ _ le2 st3.ph⟩ (.tok rfl)
              · have := l02.dr z hz
                rw [edF] at this
                cases this
              · have hb : b ≠ p := fun y => by rw [y, ow3.fr] at z; cases z
                rw [upd_ne hb]
                exact st3.fH b u z
              · have hb : b ≠ p := fun y => by rw [y, ow3.pr] at z; cases z
                rw [upd_ne hb]
                exact st3.pH b u z
              · by_cases h1 : i = j
                · subst h1
                  rw [List.getElem?_set_self (List.getElem?_eq_some_iff.mp k1).1] at ei
                  cases ei
                  trivial
                · rw [List.getElem?_set_ne (Ne.symm h1)] at ei
                  have z := st3.slot i sl ei
                  cases sl with
                  | u => trivial
                  | d x =>
                    obtain ⟨u, z1, z2⟩ := z
                    exact ⟨u, z1, z2.le le2⟩
                  | o x =>
                    obtain ⟨b, z1, ow⟩ := z
                    have hb : b ≠ p := fun y => ne3 i x ei (by rw [z1, y])
                    have hb2 : b ≠ a := fun y => st3.sep i j x _ a h1 ei k1 (by rw [z1, y]) (getD_of e1)
                    obtain ⟨ob, z2, z3⟩ := ow.ob
                    exact ⟨b, z1, ow.fr, ow.pr, fun d' w' hdw => by cases hdw; exact ⟨hb, hb2⟩, ob, by rw [upd_ne hb]; exact z2, z3.le le2⟩
              · by_cases h1 : i = j
                · subst h1
                  rw [List.getElem?_set_self (List.getElem?_eq_some_iff.mp k1).1] at ei
                  cases ei
                · by_cases h2 : k = j
                  · subst h2
                    rw [List.getElem?_set_self (List.getElem?_eq_some_iff.mp k1).1] at ek
                    cases ek
                  · rw [List.getElem?_set_ne (Ne.symm h1)] at ei
                    rw [List.getElem?_set_ne (Ne.symm h2)] at ek
                    exact st3.sep i k y z b hik ei ek
              · exact ⟨p, a, c, rfl, npa, upd_same, by rw [upd_ne (Ne.symm npa)]; exact k3, hq, ow3.fr, owa.fr, ow3.pr, owa.pr⟩
          · exact q.elim
        · exact q.elim
      · exact q.elim
  · exact q.elim
end
end Dy
end
section
set_option Elab.async false
set_option linter.all false
set_option maxRecDepth 100000
set_option maxHeartbeats 4000000
namespace Dy
open PySem PySem.Spec PyProof.Rows L2
variable [LawI] [Ph]
section
variable {X : Cx} {W : WX} {a b c : Expr} {oa ob : Opd} {P F0 : Hp} {F F' : Fz} {σ σ' : L2.St} {H H' : Hp} {s s1 s' : S} {Q : VK} {K : PySem.W.Frag} {v : V} {x : D} {pins : List (Addr × Obj)} {sh : Shared} {T : Ends}
/-! ### a op b op c -/
def chainD (ma mb mc : M Sl) (g g' : D → D → Option Sl) : M Sl := fun s => (ma s).bind fun x s => (mb s).bind fun y s => match g x.val y.val with
  | some (.d (.bool true)) => (mc s).bind fun z s => lift2 g' y.val z.val s
  | some (.d (.bool false)) => .ok (.d (.bool false)) s
  | _ => .bad
theorem chain_ok {ma mb mc : M Sl} {g g' : D → D → Option Sl} (st : StRel K P F0 F σ H s) (q : Res K W P F0 F σ (chainD ma mb mc g g' s) Q) : tChain (rD K g) (rD K g') (tD K W ma) (tD K W mb) (tD K W mc) σ H Q := by
  unfold chainD at q
  refine tD_mono (tD.bind st q) ?_
  rintro v H1 ⟨F1, s1, x, l1, st1, rv1, q1⟩
  obtain ⟨F2, l2, st2, rp1⟩ := rv1.freeze st1
  refine tD_mono (tD.bind st2 (Res.le l2 q1)) ?_
  rintro u H2 ⟨F3, s3, y, l3, st3, rv3, q3⟩
  obtain ⟨F4, l4, st4, rp3⟩ := rv3.freeze st3
  split at q3
  · rename_i e
    refine ⟨P, F0, F4, σ, s3, _, _, _, st4, .inl (rp1.le (l3.trans l4)), .inl rp3, e, fun w F5 H5 l5 st5 rv5 => ?_⟩
    have ew := Rp.bl_inv rv5
    refine ⟨true, ew, ?_⟩
    rw [if_pos rfl]
    refine tD_mono (tD.bind st5 (Res.le (l4.trans l5) q3)) ?_
    rintro z H6 ⟨F6, s6, zz, l6, st6, rv6, q6⟩
    exact lift2_ok st6 (.inl (rp3.le (l5.trans l6))) rv6.bor q6
  · rename_i e
    refine ⟨P, F0, F4, σ, s3, _, _, _, st4, .inl (rp1.le (l3.trans l4)), .inl rp3, e, fun w F5 H5 l5 st5 rv5 => ?_⟩
    have ew := Rp.bl_inv rv5
    refine ⟨false, ew, ?_⟩
    rw [if_neg (by decide)]
    exact q3 _ F5 H5 (l4.trans l5) st5 (.bl _)
  · exact q3.elim
theorem d_chain {op op' : CmpOp} {ma mb mc : M Sl} {g g' : D → D → Option Sl} {pos : Pos} (ho : OpR X (compareOp op) (rD X.K g)) (ho' : OpR X (compareOp op') (rD X.K g')) (ha : DE X W a ma) (hb : DE X W b mb) (hc : DE X W c mc) (hm : lastMarks [op, op'] [b, c] = false := by with_unfolding_all rfl) :
    DE X W (.Compare a [op, op'] [b, c] pos) (chainD ma mb mc g g') := by
  refine PE.weaken (pe_chain ho ho' ha hb hc hm) ?_
  rintro σ H Q ⟨P, F0, F, s, st, q⟩
  exact chain_ok st q
theorem ofD_res {m : M Sl} {Q : Bool → Hp → Prop} (h : ResT K W P F0 F σ (ofD m s) Q) : Res K W P F0 F σ (m s) fun x H' => ∃ k, x = .bl k ∧ Q k H' := by
  unfold ofD at h
  cases e : m s with
  | ok r s1 =>
    rw [e] at h
    exact fun v F1 H1 l1 st1 rv1 => boolT_ok st1 rv1 (ResT.le l1 h)
  | exc c s1 =>
    rw [e] at h
    exact h
  | bad =>
    rw [e] at h
    exact h
theorem dt_chain {op op' : CmpOp} {ma mb mc : M Sl} {g g' : D → D → Option Sl} {pos : Pos} (ho : OpR X (compareOp op) (rD X.K g)) (ho' : OpR X (compareOp op') (rD X.K g')) (ha : DE X W a ma) (hb : DE X W b mb) (hc : DE X W c mc) (hm : lastMarks [op, op'] [b, c] = false := by with_unfolding_all rfl) :
    DT X W (.Compare a [op, op'] [b, c] pos) (ofD (chainD ma mb mc g g')) := by
  refine PT.weaken (pt_chain ho ho' ha hb hc hm) ?_
  rintro σ H Q ⟨P, F0, F, s, st, q⟩
  exact chain_ok st (ofD_res q)
/-! ### names of the top -/
theorem d_gInt {x : Str} {i : Int} {pos : Pos} (hg : Gl X x) (hm : ∃ t, X.mg x = some (.int i t)) (hd : (x == ("__debug__" : Str)) = false := by decide) : DE X W (.Name x pos) (cD (.int i)) := by
  obtain ⟨t, hm⟩ := hm
  exact d_const (pe_glob (v := .int i) hg hm ⟨t, rfl⟩ hd) fun _ => .int i
theorem d_gStr {x i : Str} {pos : Pos} (hg : Gl X x) (hm : ∃ t, X.mg x = some (.str i t)) (hd : (x == ("__debug__" : Str)) = false := by decide) : DE X W (.Name x pos) (cD (.str i)) := by
  obtain ⟨t, hm⟩ := hm
  exact d_const (pe_glob (v := .str i) hg hm ⟨t, rfl⟩ hd) fun _ => .str i
theorem d_gTup {x : Str} {p : Addr} {vs : List V} {ds : List D} {pos : Pos} (hg : Gl X x) (hm : X.mg x = some (.ref p)) (ht : ∀ H, SqT X.K H p vs) (hr : ∀ F, RpAll X.K F vs ds) (hd : (x == ("__debug__" : Str)) = false := by decide) : DE X W (.Name x pos) (cD (.tuple ds)) :=
  d_const (pe_glob (v := .ref p) hg hm rfl hd) fun F => .tup (ht F.hp) (hr F)
end
end Dy
end
section
set_option Elab.async false
set_option linter.all false
set_option maxRecDepth 100000
set_option maxHeartbeats 4000000
namespace Dy
open PySem PySem.Spec PyProof.Rows L2
variable [LawI] [Ph]
/-! ### for printed derivations -/
section
variable {X : Cx} {W : WX} {a b c : Expr} {oa ob : Opd} {P F0 : Hp} {F F' : Fz} {σ σ' : L2.St} {H H' : Hp} {s s1 s' : S} {Q : VK} {K : PySem.W.Frag} {v : V} {x : D} {pins : List (Addr × Obj)} {sh : Shared} {T : Ends}
theorem nv {x : Str} {pos : Pos} (i : Nat) (hN : X.N[i]? = some x := by rfl) (hv : Vis X.env.scope x := by first | exact .inl rfl | exact .inr (.inl rfl) | exact .inr (.inr rfl)) (hd : (x == ("__debug__" : Str)) = false := by decide) (hcd : (x == ("__classdict__" : Str)) = false := by decide) :
    PE X (.Name x pos) (tVar i) := pe_var hN hv hd hcd
theorem tk0 {X : Cx} : Takes X W0 := fun _ _ x => by
  obtain ⟨_, _, _, _, _, _, _, _, _, _, _, _, _, _, _, _, z⟩ := x
  exact z.elim
abbrev leD : D → D → Option Sl := intD fun i j => decide (i ≤ j)
abbrev gtD : D → D → Option Sl := intD fun i j => decide (j < i)
abbrev geD : D → D → Option Sl := intD fun i j => decide (j ≤ i)
/-- a def of the top, by its name -/
structure Has (P : Program) (w : World) (K : PySem.W.Frag) (mg : Str → Option Value) (base : Heap) (x : Str) (n k : Nat) (fx : FD) : Prop where
  ex : ∃ f fd ps, FnOkG P w K mg base (L2.CX P w) k f fd ps (spD K n fx) ∧ mg x = some (.ref f) ∧ PySem.W.keepIn K (.ref f) = true ∧ Binds K fd ps []
theorem d_callH {k j : Nat} {fx : FD} {n : Nat} {x : Str} {p pos : Pos} {e : Expr} {es : List Expr} {ms : M (List D)} (h : Has X.prog X.w X.K X.mg X.base x n k fx) (tk : Takes X W) (hr : RoomG j X.A) (hk : k ≤ j) (ha : DA X W (e :: es) ms) (hlen : ∀ s ds s', ms s = .ok ds s' → ds.length = n) (hg : Gl X x := by rfl)
    (hd : (x == ("__debug__" : Str)) = false := by decide)
    (he : starEach (e :: es) X.env = (false, eval e X.env) :: starEach es X.env := by rfl) (hpl : (backTo pos (starEach es X.env)).any (·.1) = false := by rfl) : DE X W (.Call (.Name x p) (e :: es) [] pos) (callD fx ms) := by
  obtain ⟨f, fd, ps, F, hm, hkp, hb⟩ := h.ex
  exact d_call F tk (hr.mono hk) hg hm hkp hb ha hlen hd he hpl
theorem d_callH0 {k j : Nat} {fx : FD} {x : Str} {p pos : Pos} (h : Has X.prog X.w X.K X.mg X.base x 0 k fx) (tk : Takes X W) (hr : RoomG j X.A) (hk : k ≤ j) (hg : Gl X x := by rfl) (hd : (x == ("__debug__" : Str)) = false := by decide) : DE X W (.Call (.Name x p) [] [] pos) (callD fx nilA) := by
  obtain ⟨f, fd, ps, F, hm, hkp, hb⟩ := h.ex
  exact d_call0 F tk (hr.mono hk) hg hm hkp hb hd
/-- a, b = x, y, one of the names captured: the pair is made and taken apart -/
theorem ds_parC {i j : Nat} {x y : Str} {px py pt pos : Pos} {kt k2 pt2} {ma mb : M Sl} (hc : X.calm = true) (hN : X.N.Nodup) (hi : X.N[i]? = some x) (hj : X.N[j]? = some y)
    (hx : Loc X.env.scope x) (hy : Loc X.env.scope y) (ha : DE X W a ma) (hb : DE X W b mb)
    (hw : swappedStores [.Tuple [.Name x px, .Name y py] kt pt] (.Tuple [a, b] k2 pt2) X.env = pure none)
    (hfx : X.fn x = true ∨ X.env.scope.names.lookup x = some .local := by first | exact .inl rfl | exact .inr rfl) (hfy : X.fn y = true ∨ X.env.scope.names.lookup y = some .local := by first | exact .inl rfl | exact .inr rfl)
    (hs : swapsWithSole [.Tuple [.Name x px, .Name y py] kt pt] (.Tuple [a, b] k2 pt2) pos.line X.env = pure false := by rfl)
    (h1 : (assignEach [.Tuple [.Name x px, .Name y py] kt pt] X.env).map (·.2) = [assign (.Tuple [.Name x px, .Name y py] kt pt) X.env] := by rfl)
    (he1 : starEach [a, b] X.env = (false, eval a X.env) :: starEach [b] X.env := by rfl) (he2 : starEach [b] X.env = (false, eval b X.env) :: starEach [] X.env := by rfl)
    (hn : (assignEach [.Name x px, .Name y py] X.env).length = 2 := by rfl) (hst : (assignEach [.Name x px, .Name y py] X.env).findIdx? (·.1) = none := by rfl)
    (h2 : (assignEach [.Name x px, .Name y py] X.env).map (·.2) = assign (.Name x px) X.env :: (assignEach [.Name y py] X.env).map (·.2) := by rfl)
    (h3 : (assignEach [.Name y py] X.env).map (·.2) = assign (.Name y py) X.env :: (assignEach [] X.env).map (·.2) := by rfl) :
    DS X W (.Assign [.Tuple [.Name x px, .Name y py] kt pt] (.Tuple [a, b] k2 pt2) pos) (parS i j ma mb) := by
  refine PS.weaken (ps_asg (pe_tup (pa_cons ha (pa_cons hb pa_nil he2) he1)) (pg_tup hc (pgs_cons (pg_name hN hi hx hfx) (pgs_cons (pg_name hN hj hy hfy) pgs_nil h3) h2) hn hst) hs hw h1) ?_
  rintro T σ H ⟨P, F0, F, s, st, q⟩
  refine tD_mono (tD.bindS st q) ?_
  rintro v H1 ⟨F1, s1, r, l1, st1, rv, q1⟩
  refine tD_mono (tD.bind2 st1 rv q1) ?_
  rintro u H2 ⟨F2, s2, r2, l2, st2, rv2, rv3, ne, q2⟩
  refine ⟨by show 2 ≤ sizeLine; decide, fun p hp => ⟨p, [v, u], rfl, SqT.of upd_same, rfl, v, [u], rfl, u, [], rfl, rfl, ?_⟩⟩
  split at q2
  · rename_i hh
    exact q2 _ F2 _ (.refl _) ((st2.set2 hh.1 hh.2.1 hh.2.2 rv2 rv3 ne).alloc hp)
  · exact q2.elim
end
def fxOf (k n : Nat) (m : M Fl) : FD := fun ds dr => if ds.length = k then runD n m ds dr else .bad
theorem has_D {P : Program} {w : World} {K : PySem.W.Frag} {mg : Str → Option Value} {base : Heap} {x : Str} {params : Arguments} {body : List Stmt} {scope : Scope} {f : Addr} {fd : FuncData} {N ps : List Str} {k n : Nat} {m : M Fl}
    (Fd : L2.FunD K x x params body scope [] [] f fd) (g : mg x = some (.ref f)) (Sc : FnScope N ps scope) (hN : N.length = ps.length + n)
    (hb : ∀ (kV doc pm : Value) (an : Option Addr) (cdv ct : Value) (us : List Value), us.length = ps.length → bindArgs (PySem.W.fnOf x x params body scope .none kV doc pm an cdv ct) ⟨us, []⟩ = pure (ps.zip us))
    (hbody : ∀ (cdv : Value) (A : Around) (outer : List Env) (s : Shared) (H : Hp) (E : XK), RoomG k (A.deeper (envOfC x scope s.heap.objs.size f cdv)) →
      DSs (cxOf (L2.CX P w) P w K mg base N x scope f cdv A outer s H E) (fun c d _ H => E c d H) body m) : Has P w K mg base x ps.length (k + 1) (fxOf ps.length n m) :=
  ⟨f, fd, ps, fn_D Fd Sc hN hbody fun ds dr h _ => by unfold fxOf; rw [if_pos h], g, Fd.kp, Fd.bindsN hb⟩
end Dy
end
section
set_option Elab.async false
set_option linter.all false
set_option maxRecDepth 100000
set_option maxHeartbeats 4000000
namespace Dy
open PySem PySem.Spec PyProof.Rows L2
variable [LawI] [Ph]
/-- the rounds of a while, more than enough -/
def FU : Nat := 1180591620717411303424
section
variable {X : Cx} {W : WX} {a b c : Expr} {oa ob : Opd} {P F0 : Hp} {F F' : Fz} {σ σ' : L2.St} {H H' : Hp} {s s1 s' : S} {Q : VK} {K : PySem.W.Frag} {v : V} {x : D} {pins : List (Addr × Obj)} {sh : Shared} {T : Ends}
theorem dt_pc {op : CmpOp} {t : TE} {m : M Sl} {pos : Pos} (h : PC X op a b t) (h1 : behindInMarks op b = false) (i : ∀ σ H Q, tD X.K W m σ H Q → t σ H Q) : DT X W (.Compare a [op] [b] pos) (ofD m) := by
  refine PT.weaken (pt_cmp h h1) ?_
  rintro σ H Q ⟨P, F0, F, s, st, q⟩
  exact i σ H _ ⟨P, F0, F, s, st, ofD_res q⟩
theorem dt_ofR {op : CmpOp} {r : R2} {ta tb : TE} {m : M Sl} {pos : Pos} (ho : OpR X (compareOp op) r) (ha : PE X a ta) (hb : PE X b tb) (hm : behindInMarks op b = false) (i : ∀ σ H Q, tD X.K W m σ H Q → tOp r ta tb σ H Q) : DT X W (.Compare a [op] [b] pos) (ofD m) := by
  refine PT.weaken (pt_cmpR ho ha hb hm) ?_
  rintro σ H Q ⟨P, F0, F, s, st, q⟩
  exact i σ H _ ⟨P, F0, F, s, st, ofD_res q⟩
theorem dt_isN {j : Nat} {pos pos' : Pos} (ha : OO X W a oa) (h1 : behindInMarks .Is (.Constant .none j pos') = false := by first | exact nobehind _ (by decide) (by decide) | rfl) : DT X W (.Compare a [.Is] [.Constant .none j pos'] pos) (ofD (opd1 oa (lift1 isNonD))) := by
  refine dt_pc (pc_isN ha.pe) h1 ?_
  rintro σ H Q ⟨P, F0, F, s, st, q⟩
  refine tOpd_mono (opd1_lift st q) ?_
  rintro v H1 ⟨P, F0, F, σ', s, dx, r, st, bo, e, q⟩
  unfold isNonD at e
  split at e
  · cases e
    rw [bo.non]
    exact q _ F H1 (.refl F) st (.bl _)
  · cases e
  · rename_i h1 h2
    cases e
    rw [bo.non_iff st.fH (fun r z => h2 r z)]
    have : noneD dx = false := by
      cases dx <;> first | rfl | exact absurd rfl h1
    rw [this]
    exact q _ F H1 (.refl F) st (.bl _)
theorem dt_notN {j : Nat} {pos pos' : Pos} (ha : OO X W a oa) (h1 : behindInMarks .IsNot (.Constant .none j pos') = false := by first | exact nobehind _ (by decide) (by decide) | rfl) : DT X W (.Compare a [.IsNot] [.Constant .none j pos'] pos) (ofD (opd1 oa (lift1 notNonD))) := by
  refine dt_pc (pc_notN ha.pe) h1 ?_
  rintro σ H Q ⟨P, F0, F, s, st, q⟩
  refine tOpd_mono (opd1_lift st q) ?_
  rintro v H1 ⟨P, F0, F, σ', s, dx, r, st, bo, e, q⟩
  unfold notNonD at e
  split at e
  · cases e
    rw [bo.non]
    exact q _ F H1 (.refl F) st (.bl _)
  · cases e
  · rename_i h1 h2
    cases e
    rw [bo.non_iff st.fH (fun r z => h2 r z)]
    have : noneD dx = false := by
      cases dx <;> first | rfl | exact absurd rfl h1
    rw [this]
    exact q _ F H1 (.refl F) st (.bl _)
theorem dt_din {pos : Pos} (hu : X.A.units + 1 < cLine) (ha : OO X W a oa) (hb : OO X W b ob) (h1 : behindInMarks .In b = false := by first | exact nobehind _ (by decide) (by decide) | rfl) : DT X W (.Compare a [.In] [b] pos) (ofD (opd2 oa ob (lift2 dinD))) := by
  refine dt_pc (pc_din hu ha.pe hb.pe) h1 ?_
  rintro σ H Q ⟨P, F0, F, s, st, q⟩
  refine tOpd_mono (opd2_ok st q) fun v H1 z1 => tOpd_mono z1 ?_
  rintro u H2 ⟨F2, s2, x, y, l, st2, b1, b2, q⟩
  unfold lift2 dinD at q
  split at q
  · rename_i r e
    split at e
    · split at e
      · rename_i k ek
        split at e
        · rename_i hn
          cases e
          obtain ⟨a, ks, rfl, h1, r1⟩ := b2.dict st2.fH hn
          refine ⟨a, _, rfl, .inl ⟨ks, k, h1, b1.key ek, rfl⟩, ?_⟩
          rw [r1.isSome]
          exact q _ F2 H2 (.refl _) st2 (.bl _)
        · cases e
      · cases e
    · cases e
  · exact q.elim
theorem dt_dnin {pos : Pos} (hu : X.A.units + 1 < cLine) (ha : OO X W a oa) (hb : OO X W b ob) (h1 : behindInMarks .NotIn b = false := by first | exact nobehind _ (by decide) (by decide) | rfl) : DT X W (.Compare a [.NotIn] [b] pos) (ofD (opd2 oa ob (lift2 dninD))) := by
  refine dt_pc (pc_dnotin hu ha.pe hb.pe) h1 ?_
  rintro σ H Q ⟨P, F0, F, s, st, q⟩
  refine tOpd_mono (opd2_ok st q) fun v H1 z1 => tOpd_mono z1 ?_
  rintro u H2 ⟨F2, s2, x, y, l, st2, b1, b2, q⟩
  unfold lift2 dninD at q
  split at q
  · rename_i r e
    split at e
    · split at e
      · rename_i k ek
        split at e
        · rename_i hn
          cases e
          obtain ⟨a, ks, rfl, h1, r1⟩ := b2.dict st2.fH hn
          refine ⟨a, _, rfl, .inl ⟨ks, k, h1, b1.key ek, rfl⟩, ?_⟩
          rw [r1.isSome]
          exact q _ F2 H2 (.refl _) st2 (.bl _)
        · cases e
      · cases e
    · cases e
  · exact q.elim
theorem dt_drMore {o : Expr} {i : Nat} {j} {key : Str} {p pos pos1 pos2 : Pos} (hu : X.A.units + 1 < cLine) (hu2 : X.A.units + 64 < cLine) (ho : PE X o (tVar i)) : DT X W (.Compare (.Subscript o (.Constant (.str key) j p) pos) [.NotEq] [.List [] pos1] pos2) (ofD (drMore i key)) := by
  refine dt_ofR (o_ne hu2) (pe_dget hu ho pe_str (by intro _ _; rfl)) (d_lst (W := W) (da_nil (W := W))) (nomark _) ?_
  rintro σ H Q ⟨P, F0, F, s, st, q⟩
  unfold drMore at q
  split at q
  · rename_i r e
    split at q
    · rename_i ek
      obtain ⟨e1, hk, d, w, c, e2, e3, e4, e5, e6, e7, e8, e9, e10, e11⟩ := drAt_ok st e
      subst ek
      refine ⟨_, e2, d, _, rfl, .inl ⟨_, .inr r.key, .inl e5, rfl, (val_key hk).symm⟩, ⟨P, F0, F, s, st, ?_⟩⟩
      intro v F1 H1 l1 st1 rv
      obtain ⟨_, _, d', w', c', f2, f3, f4, f5, f6, f7, f8, f9, f10, f11⟩ := drAt_ok st1 e
      have z := l1.dr _ e3
      rw [f3] at z
      cases z
      exact ⟨P, F0, F1, σ, s, .list (r.wide.map .int), .list [], _, st1, .inr ⟨w, _, rfl, f9, f6, .lst (.of_ints _)⟩, rv.bor, ne_nil _, fun v' F2 H2 l2 st2 rv2 => q v' F2 H2 (l1.trans l2) st2 rv2⟩
    · exact q.elim
  · exact q.elim
/-- for k in d -/
def noX (o : Out Fl) : Out Fl := match o with
  | .exc _ _ => .bad
  | o => o
def forKM (i : Nat) (g : D → S → Option S) (body : M Fl) : M Fl := fun s => (keysD i s).bind fun items s => noX (forS g body items s)
theorem resS_lock {d : Addr} {u o0 : HO} {od : Obj} {out : Out Fl} {T : Ends} (st : StRel K P F0 F σ H s) (e : F.hp d = some u) (e0 : H d = some o0) (q : ResS K W P F0 F (noX out) T) :
    ResS K W (upd P d (.frz od u)) F.hp F out ⟨fun σ' H' => H' d = some (.frz od u) ∧ T.nx σ' (upd H' d o0), fun v H' => H' d = some (.frz od u) ∧ T.rt v (upd H' d o0), fun σ' H' => H' d = some (.frz od u) ∧ T.bk σ' (upd H' d o0), fun σ' H' => H' d = some (.frz od u) ∧ T.ct σ' (upd H' d o0)⟩ := by
  cases out with
  | bad => exact q.elim
  | exc c s1 => exact q.elim
  | ok f s1 =>
    cases f with
    | nx =>
      intro σ5 F5 H5 l5 st5
      obtain ⟨st6, e6⟩ := st.leaveL e e0 l5 st5
      exact ⟨e6, q σ5 F5 _ l5 st6⟩
    | bk =>
      intro σ5 F5 H5 l5 st5
      obtain ⟨st6, e6⟩ := st.leaveL e e0 l5 st5
      exact ⟨e6, q σ5 F5 _ l5 st6⟩
    | ct =>
      intro σ5 F5 H5 l5 st5
      obtain ⟨st6, e6⟩ := st.leaveL e e0 l5 st5
      exact ⟨e6, q σ5 F5 _ l5 st6⟩
    | rt r =>
      intro v σ5 F5 H5 l5 st5 rv
      obtain ⟨st6, e6⟩ := st.leaveL e e0 l5 st5
      exact ⟨e6, q v σ5 F5 _ l5 st6 rv.leaveL⟩
theorem forK_mono {g : D → S → Option S} {m : M Fl} {vs : List Nat} {i : Nat} {T T' : Ends} (h : tFor (iKeys (tVar i)) (tDG K vs g) (tDS K W m) T σ H) (h1 : ∀ σ H, T.nx σ H → T'.nx σ H) (h2 : ∀ v H, T.rt v H → T'.rt v H) (h3 : ∀ σ H, T.bk σ H → T'.bk σ H) : tFor (iKeys (tVar i)) (tDG K vs g) (tDS K W m) T' σ H := by
  have tb : ∀ {T T' : Ends} {σ H}, (∀ σ H, T.nx σ H → T'.nx σ H) → (∀ v H, T.rt v H → T'.rt v H) → (∀ σ H, T.bk σ H → T'.bk σ H) → (∀ σ H, T.ct σ H → T'.ct σ H) → tDS K W m T σ H → tDS K W m T' σ H := by
    rintro T T' σ H k1 k2 k3 k4 ⟨P, F0, F, s, st, q⟩
    refine ⟨P, F0, F, s, st, ?_⟩
    cases e : m s with
    | bad => rw [e] at q; exact q
    | exc c s1 => rw [e] at q; exact q
    | ok f s1 =>
      rw [e] at q
      cases f with
      | nx => exact fun σ5 F5 H5 l5 st5 => k1 _ _ (q σ5 F5 H5 l5 st5)
      | bk => exact fun σ5 F5 H5 l5 st5 => k3 _ _ (q σ5 F5 H5 l5 st5)
      | ct => exact fun σ5 F5 H5 l5 st5 => k4 _ _ (q σ5 F5 H5 l5 st5)
      | rt r => exact fun v σ5 F5 H5 l5 st5 rv => k2 _ _ (q v σ5 F5 H5 l5 st5 rv)
  have tg : ∀ {v σ H} {Q Q' : L2.St → Hp → Prop}, (∀ σ H, Q σ H → Q' σ H) → tDG K vs g v σ H Q → tDG K vs g v σ H Q' := by
    rintro v σ H Q Q' k ⟨P, F0, F, s, x, s', st, rp, e, q⟩
    exact ⟨P, F0, F, s, x, s', st, rp, e, fun σ' F' H' l st' o => k _ _ (q σ' F' H' l st' o)⟩
  have tw : ∀ {J : It} {H1 : Hp}, (∃ W_1 : Nat → Nat → L2.St → Hp → Prop, (∃ m, W_1 0 m σ H1) ∧ ∀ i n σ H, W_1 i n σ H → (J.stop i H ∧ T.nx σ H) ∨ (J.go i H ∧ ∃ N : L2.St → Hp → Prop, (∀ σ' H', N σ' H' → ∃ m', m' < n ∧ W_1 (i + 1) m' σ' H') ∧ ∀ x H', J.yld i H x H' → tDG K vs g x σ H' fun σ2 H2 => tDS K W m { T with nx := N, ct := N, bk := T.nx } σ2 H2)) →
      (∃ W_1 : Nat → Nat → L2.St → Hp → Prop, (∃ m, W_1 0 m σ H1) ∧ ∀ i n σ H, W_1 i n σ H → (J.stop i H ∧ T'.nx σ H) ∨ (J.go i H ∧ ∃ N : L2.St → Hp → Prop, (∀ σ' H', N σ' H' → ∃ m', m' < n ∧ W_1 (i + 1) m' σ' H') ∧ ∀ x H', J.yld i H x H' → tDG K vs g x σ H' fun σ2 H2 => tDS K W m { T' with nx := N, ct := N, bk := T'.nx } σ2 H2)) := by
    rintro J H1 ⟨W1, w0, turn⟩
    refine ⟨W1, w0, fun i n σ H w => ?_⟩
    rcases turn i n σ H w with ⟨z1, z2⟩ | ⟨z1, N, z2, z3⟩
    · exact .inl ⟨z1, h1 _ _ z2⟩
    · exact .inr ⟨z1, N, z2, fun x H' y => tg (fun σ H z => tb (T := { T with nx := N, ct := N, bk := T.nx }) (fun _ _ q => q) h2 (fun _ _ q => h1 _ _ q) (fun _ _ q => q) z) (z3 x H' y)⟩
  obtain ⟨v, ev, d, o, ex, q⟩ := h
  refine ⟨v, ev, d, o, ex, ?_⟩
  rcases q with ⟨ks, k1, q⟩ | ⟨ks, k1, q⟩
  · exact .inl ⟨ks, k1, tw q⟩
  · exact .inr ⟨ks, k1, tw q⟩
theorem forK_ok {i : Nat} {g : D → S → Option S} {m : M Fl} {vs : List Nat} (st : StRel K P F0 F σ H s) (q : ResS K W P F0 F (forKM i g m s) T) :
    tLock (tFor (iKeys (tVar i)) (tDG K vs g) (tDS K W m)) T σ H ∨ tFor (iKeys (tVar i)) (tDG K vs g) (tDS K W m) T σ H := by
  unfold forKM at q
  cases e : keysD i s with
  | bad => rw [e] at q; exact q.elim
  | exc c s1 => exact (keys_noexc e).elim
  | ok items s1 =>
    rw [e] at q
    have q : ResS K W P F0 F (noX (forS g m items s1)) T := q
    obtain ⟨F1, d, ks, ds, l1, st1, ev, hF, r, rfl⟩ := keys_ok st e
    have main : ∀ od o0, H d = some o0 → tFor (iKeys (tVar i)) (tDG K vs g) (tDS K W m) ⟨fun σ' H' => H' d = some (.frz od (.dK ks)) ∧ T.nx σ' (upd H' d o0), fun v H' => H' d = some (.frz od (.dK ks)) ∧ T.rt v (upd H' d o0), fun σ' H' => H' d = some (.frz od (.dK ks)) ∧ T.bk σ' (upd H' d o0), fun σ' H' => H' d = some (.frz od (.dK ks)) ∧ T.ct σ' (upd H' d o0)⟩ σ (upd H d (.frz od (.dK ks))) := by
      intro od o0 e0
      have stL := st1.enterL (od := od) hF trivial
      refine ⟨_, ev, d, od, rfl, .inl ⟨ks, upd_same, ?_⟩⟩
      exact for_core stL (feeds_keys upd_same r) (resS_lock st1 hF e0 (ResS.le l1 q))
    rcases st1.fH d _ hF with e0 | ⟨_, od, e0⟩
    · exact .inl ⟨d, _, e0, trivial, fun od => main od _ e0⟩
    · refine .inr ?_
      have z := main od _ e0
      rw [upd_id e0] at z
      refine forK_mono z ?_ ?_ ?_
      · intro σ' H' qq
        have q2 := qq.2
        rw [upd_id qq.1] at q2
        exact q2
      · intro σ' H' qq
        have q2 := qq.2
        rw [upd_id qq.1] at q2
        exact q2
      · intro σ' H' qq
        have q2 := qq.2
        rw [upd_id qq.1] at q2
        exact q2
theorem ds_forK {tg iter : Expr} {i : Nat} {body : List Stmt} {pos : Pos} {g : D → S → Option S} {m : M Fl} {vs : List Nat} (hp : PassesOwn (model X.prog X.w) X.A X.env X.xe) (hc : X.calm = true) (hi : PE X iter (tVar i)) (hg : DG X tg vs g) (hb : DSs X W body m)
    (hs : ∀ x, foldedSetIterable iter X.env x = pure x := by intro _; rfl) : DS X W (.For tg iter body [] pos) (forKM i g m) := by
  have h := ps_for (pos := pos) hp hc (pi_keys hi) hg hb hs
  refine PS.weaken (PS.or (ps_lock h) h) ?_
  rintro T σ H ⟨P, F0, F, s, st, q⟩
  exact forK_ok st q
end
end Dy
end
section
set_option Elab.async false
set_option linter.all false
set_option maxRecDepth 100000
set_option maxHeartbeats 4000000
namespace Dy
open PySem PySem.Spec PyProof.Rows L2
variable [LawI] [Ph]
section
variable {X : Cx} {W : WX}
theorem oE {e : Expr} {m : M Sl} (h : DE X W e m) : OO X W e (.e m) := h
theorem d_gTupS {x : Str} {bs : List Str} {pos : Pos} (hg : Gl X x) (hm : ∃ p, X.mg x = some (.ref p) ∧ ∀ H, SqT X.K H p (bs.map V.str)) (hd : (x == ("__debug__" : Str)) = false := by decide) : DE X W (.Name x pos) (cD (.tuple (bs.map .str))) := by
  obtain ⟨p, h1, h2⟩ := hm
  exact d_gTup hg h1 h2 (fun F => .of_strs bs) hd
end
end Dy
end
section
set_option Elab.async false
set_option linter.all false
set_option maxRecDepth 100000
set_option maxHeartbeats 4000000
/-! sum of lists, with a list to start from -/
namespace Dy
open PySem PySem.Spec PyProof.Rows
variable [LawI] [Ph]
open Sem (wp)
theorem args_sum2 (a b : Value) : argsOk "sum" ⟨[a, b], []⟩ := by unfold argsOk; kernel_rfl
theorem sub_list_str : isSubtype (.type "list") (.type "str") = pure false := by rw [isSubtype_type]; kernel_rfl
theorem sub_list_bytes : isSubtype (.type "list") (.type "bytes") = pure false := by rw [isSubtype_type]; kernel_rfl
theorem sub_list_bytearray : isSubtype (.type "list") (.type "bytearray") = pure false := by rw [isSubtype_type]; kernel_rfl
/-- the parts' items, one behind the other -/
def catTo (parts : List (Array Value)) (k : Nat) : Array Value := (parts.take k).foldl (· ++ ·) #[]
theorem catTo_succ {parts : List (Array Value)} {k : Nat} {p : Array Value} (h : parts[k]? = some p) : catTo parts (k + 1) = catTo parts k ++ p := by
  unfold catTo
  rw [List.take_succ, h]
  simp
section
variable {prog : Program} {w : World} {A : Around}
theorem code_sumL {R : Result → Shared → Prop} {l I S : Addr} {refs : Array Value} {parts : List (Array Value)} {s0 : Shared} (hh : A.handled = none) (hlen : parts.length = refs.size)
    (hl : s0.heap.IsList l refs) (hparts : ∀ (i : Nat) (p : Array Value), parts[i]? = some p → ∃ b n, refs[i]? = some (.ref b) ∧ IsL s0.heap b p n) (hI : s0.heap.objs.size ≤ I) (hS : s0.heap.objs.size ≤ S) (hSI : S ≠ I)
    (hsz : ∀ k, k < parts.length → (catTo parts (k + 1)).size ≤ sizeLine) :
    ∀ (k i : Nat) (s : Shared) (t : Addr) (n c : Nat), refs.size - i = k → i ≤ refs.size → s.heap.IsListIter I l i → (∀ b o, s0.heap.get? b = some o → s.heap.get? b = some o) → s.gens = s0.gens → s.drawn = s0.drawn → s.os = s0.os →
      (IsL s.heap t (catTo parts i) n ∧ t ≠ S ∧ t ≠ I ∧ (0 < i → s0.heap.get? t = none)) →
      s.heap.get? S = some { cls := .type "list", dict := none, data := .seq #[.ref t] c, slots := #[] } →
      (∀ h' tk t' n', (∀ b o, s0.heap.get? b = some o → h'.get? b = some o) → IsL h' t' (catTo parts refs.size) n' → (0 < refs.size → s0.heap.get? t' = none) → R (.ok (.ret (.ref t'))) { s0 with heap := h', toks := tk }) →
      codeAny (model prog w) A (.builtin "sum.loop" ⟨[.ref I, .ref S, rawInt 2, rawInt 0], []⟩) R s := by
  have hlI : l ≠ I := by
    obtain ⟨o, ho, _⟩ := hl
    exact fun z => Nat.lt_irrefl _ (Nat.lt_of_lt_of_le (Heap.lt_size ho) (by rw [z]; exact hI))
  have W := Walks.list (prog := prog) (w := w) (A := A.in1) hh I l hlI refs
  have low : ∀ {b o}, s0.heap.get? b = some o → b ≠ I ∧ b ≠ S := fun {b o} e => by
    have := Heap.lt_size e
    exact ⟨fun z => by rw [z] at this; exact Nat.lt_irrefl _ (Nat.lt_of_lt_of_le this hI), fun z => by rw [z] at this; exact Nat.lt_irrefl _ (Nat.lt_of_lt_of_le this hS)⟩
  intro k
  induction k with
  | zero =>
    intro i s t n c hk hi hit hkeep g1 g2 g3 ht hSs hR
    have hin : i = refs.size := by omega
    subst hin
    refine codeAny_builtin F.entry_sum_loop ?_
    rw [Around.under_plainId F.plain_sum_loop _]
    show wpAny _ A.in1 (seqItems? (.ref S) >>= _) _ _ s
    refine wpAny_bind (wpAny_seqItems hSs rfl ?_)
    show wpAny _ A.in1 (tryCatch (pyNext (.ref I)) _ >>= _) _ _ s
    refine wpAny_bind (wpAny_tryCatch (W.done s _ _ ⟨hit, hl.at fun o e => hkeep l o e⟩ fun h' tk hm => ?_))
    refine wpAny_pure ?_
    obtain ⟨h1, h2, h3, h4⟩ := ht
    have e : ({ s with heap := h', toks := tk } : Shared) = { s0 with heap := h', toks := tk } := by
      cases s; cases s0
      simp only at g1 g2 g3
      subst g1 g2 g3
      rfl
    rw [e]
    exact hR h' tk t n (fun b o q => hm b o (by simpa using (low q).1) (hkeep b o q)) (hm t _ (by simpa using h3) h1) h4
  | succ k ih =>
    intro i s t n c hk hi hit hkeep g1 g2 g3 ht hSs hR
    have hlt : i < refs.size := by omega
    refine codeAny_builtin F.entry_sum_loop ?_
    rw [Around.under_plainId F.plain_sum_loop _]
    show wpAny _ A.in1 (seqItems? (.ref S) >>= _) _ _ s
    refine wpAny_bind (wpAny_seqItems hSs rfl ?_)
    show wpAny _ A.in1 (tryCatch (pyNext (.ref I)) _ >>= _) _ _ s
    refine wpAny_bind (wpAny_tryCatch (W.item i s _ _ hlt ⟨hit, hl.at fun o e => hkeep l o e⟩ fun v h' tk hP hst' hm => ?_))
    obtain ⟨h1, h2, h3, h4⟩ := ht
    obtain ⟨p, hp⟩ : ∃ p, parts[i]? = some p := ⟨parts[i], List.getElem?_eq_getElem (by omega)⟩
    obtain ⟨b, nb, eb, hb⟩ := hparts i p hp
    rw [eb] at hP
    cases hP
    have kp : ∀ b o, s0.heap.get? b = some o → h'.get? b = some o := fun b o q => hm b o (by simpa using (low q).1) (hkeep b o q)
    have ht' : IsL h' t (catTo parts i) n := hm t _ (by simpa using h3) h1
    have hS' := hm S _ (by simpa using hSI) hSs
    have esz := hsz i (by omega)
    rw [catTo_succ hp, Array.size_append] at esz
    show wpAny _ A.in1 ((holding [Value.ref b] (binaryOp .Add (.ref t) (.ref b))).attempt >>= _) _ _ _
    refine wpAny_bind (wpAny_attempt (wpAny_holding (PySem.P.add_list (s := { s with heap := h', toks := tk }) ht' (kp _ _ hb) ?_ esz)))
    rw [← catTo_succ hp]
    generalize hN : h'.objs.size = r
    have rge : ∀ {b o}, h'.get? b = some o → b ≠ r := fun {b o} q => Nat.ne_of_lt (by rw [← hN]; exact Heap.lt_size q)
    have hS2 : (h'.push { cls := .type "list", data := .seq (catTo parts (i + 1)) }).get? S = some { cls := .type "list", dict := none, data := .seq #[.ref t] c, slots := #[] } := Heap.get?_push_of_some _ hS'
    have hr2 : IsL (h'.push { cls := .type "list", data := .seq (catTo parts (i + 1)) }) r (catTo parts (i + 1)) 0 := by
      rw [← hN]
      exact Heap.get?_push_size _ rfl
    have rS : r ≠ S := (rge hS').symm
    have rI : r ≠ I := by
      obtain ⟨o, ho, _⟩ := hst'.1
      exact (rge ho).symm
    show wpAny _ A.in1 (updateSeq S (fun _ => #[.ref r]) >>= _) _ _ _
    refine wpAny_bind (wpAny_updateSeq hS2 rfl ?_)
    have hS3 := Heap.get?_update_self (Obj.mapSeq fun _ => #[Value.ref r]) hS2 rfl
    refine wpAny_bind (wpAny_letGo ?_)
    refine wpAny_bind (wpAny_updateSeq hS3 rfl (wpAny_pure ⟨plainId_quiet F.plain_sum_loop _, ih (i + 1) _ r 0 _ (by omega) hlt ?_ (fun b o q => ?_) g1 g2 g3 ⟨?_, rS, rI, fun _ => ?_⟩ (Heap.get?_update_self (Obj.mapSeq fun _ => #[Value.ref r]) hS3 rfl) hR⟩))
    · exact hst'.1.at fun o q => (Heap.get?_update_other _ _ hSI).trans ((Heap.get?_update_other _ _ hSI).trans (Heap.get?_push_of_some _ q))
    · have hbS : S ≠ b := (low q).2.symm
      exact (Heap.get?_update_other _ _ hbS).trans ((Heap.get?_update_other _ _ hbS).trans (Heap.get?_push_of_some _ (kp b o q)))
    · exact (Heap.get?_update_other _ _ rS.symm).trans ((Heap.get?_update_other _ _ rS.symm).trans hr2)
    · cases q : s0.heap.get? r with
      | none => rfl
      | some o => exact absurd rfl (rge (kp r o q))
theorem call_sumL {E : Value → Shared → Prop} {s : Shared} {l p0 : Addr} {n0 : Nat} {refs : Array Value} {parts : List (Array Value)} {Q : Value → Shared → Prop} (hh : A.handled = none) (hlen : parts.length = refs.size)
    (hl : s.heap.IsList l refs) (hp0 : IsL s.heap p0 #[] n0) (hparts : ∀ (i : Nat) (p : Array Value), parts[i]? = some p → ∃ b n, refs[i]? = some (.ref b) ∧ IsL s.heap b p n)
    (hsz : ∀ k, k < parts.length → (catTo parts (k + 1)).size ≤ sizeLine) (h0 : 0 < refs.size)
    (h : ∀ h' tk t' n', (∀ b o, s.heap.get? b = some o → h'.get? b = some o) → IsL h' t' (catTo parts refs.size) n' → s.heap.get? t' = none → Q (.ref t') { s with heap := h', toks := tk }) :
    wpAny (model prog w) A (call (.builtin "sum") [.ref l, .ref p0]) Q E s := by
  refine call_function_tree F.kind_sum F.plain_sum F.entry_sum (args_sum2 _ _) ?_
  unfold Builtin.«sum»
  simp only [List.length_cons, List.length_nil]
  rw [if_neg (by decide)]
  refine wpAny_bind (wpAny_of_eq (show Builtin.Builtins.bindParams "sum" ["start"] 0 ⟨[.ref p0], []⟩ = pure [some (.ref p0)] from rfl) ?_)
  refine wpAny_bind (wpAny_pyIter_list hl ?_)
  refine wpAny_bind (wpAny_pure ?_)
  simp only [List.forIn_cons, List.forIn_nil]
  have hp1 : IsL (s.heap.push { cls := .type "list_iterator", data := .fields #[.ref l, rawInt 0] }) p0 #[] n0 := Heap.get?_push_of_some _ hp0
  have hT : Shared.TypeIs { s with heap := s.heap.push { cls := .type "list_iterator", data := .fields #[.ref l, rawInt 0] } } (.ref p0) "list" := ⟨_, hp1, rfl⟩
  refine wpAny_bind (wpAny_bind (wpAny_bind (wpAny_isInstance (T := "list") (b := false) hT sub_list_str ?_)))
  simp only [Bool.false_eq_true, if_false]
  refine wpAny_pure (wpAny_bind (wpAny_bind (wpAny_isInstance (T := "list") (b := false) hT sub_list_bytes ?_)))
  simp only [Bool.false_eq_true, if_false]
  refine wpAny_pure (wpAny_bind (wpAny_bind (wpAny_isInstance (T := "list") (b := false) hT sub_list_bytearray ?_)))
  simp only [Bool.false_eq_true, if_false]
  refine wpAny_pure (wpAny_pure ?_)
  refine wpAny_bind (wpAny_newObj_type ?_)
  have hlt : p0 < s.heap.objs.size := Heap.lt_size hp0
  have sz1 : (s.heap.push { cls := .type "list_iterator", data := .fields #[.ref l, rawInt 0] }).objs.size = s.heap.objs.size + 1 := Heap.size_push _ _
  refine wpAny_pure ⟨plainId_quiet F.plain_sum_loop _, ?_⟩
  simp only [Heap.size_push]
  refine code_sumL (s0 := s) (I := s.heap.objs.size) (S := s.heap.objs.size + 1) (l := l) (refs := refs) (parts := parts) hh hlen hl hparts (Nat.le_refl _) (Nat.le_succ _) (Nat.succ_ne_self _) hsz refs.size 0 _ p0 n0 0 (by omega) (Nat.zero_le _)
    ⟨_, Heap.get?_push_of_some _ (Heap.get?_push_size _ rfl), rfl, rfl⟩ (fun b o q => Heap.get?_push_of_some _ (Heap.get?_push_of_some _ q)) rfl rfl rfl ⟨?_, Nat.ne_of_lt (Nat.lt_succ_of_lt hlt), Nat.ne_of_lt hlt, fun z => absurd z (Nat.lt_irrefl _)⟩ ?_ ?_
  · exact Heap.get?_push_of_some _ hp1
  · rw [← sz1]
    exact Heap.get?_push_size _ rfl
  · exact fun h' tk t' n' k1 k2 k3 => h h' tk t' n' k1 k2 (k3 h0)
end
end Dy
end
section
set_option Elab.async false
set_option linter.all false
set_option maxRecDepth 100000
set_option maxHeartbeats 4000000
namespace Dy
open PySem PySem.Spec PyProof.Rows L2
variable [LawI] [Ph]
/-! ### sum(lists, []) -/
def listsOf : List D → Option (List (List D))
  | [] => some []
  | .list l :: r => (listsOf r).map (l :: ·)
  | _ => none
def sumLD (x y : D) : Option Sl := match x, y with
  | .list xs, .list [] => match listsOf xs with
    | some ls => if xs ≠ [] ∧ ls.flatten.length ≤ sizeLine then some (.o (.list ls.flatten)) else none
    | none => none
  | _, _ => none
theorem catTo_list (parts : List (Array Value)) (k : Nat) : (catTo parts k).toList = (parts.take k).flatMap (·.toList) := by
  unfold catTo
  have : ∀ (ps : List (Array Value)) (a : Array Value), (ps.foldl (· ++ ·) a).toList = a.toList ++ ps.flatMap (·.toList) := by
    intro ps
    induction ps with
    | nil => intro a; simp
    | cons p ps ih => intro a; rw [List.foldl_cons, ih]; simp
  rw [this]
  simp
section
variable {X : Cx} {W : WX} {a b : Expr} {oa ob : Opd} {P F0 : Hp} {F F' : Fz} {σ : L2.St} {H H' : Hp} {s s1 : S} {Q : VK} {K : PySem.W.Frag} {v : V} {x : D} {pins : List (Addr × Obj)} {sh : Shared}
theorem parts_of (I : Inv X pins σ H sh) (l : Sub F.hp H) : ∀ {vs : List V} {ds : List D} {us : List Value} {ls : List (List D)}, RpAll X.K F vs ds → Vals vs us → listsOf ds = some ls →
    ∃ (parts : List (Array Value)) (ws : List V), parts.length = us.length ∧ (∀ (i : Nat) (p : Array Value), parts[i]? = some p → ∃ b n, us[i]? = some (.ref b) ∧ PySem.IsL sh.heap b p n) ∧ Vals ws (parts.flatMap (·.toList)) ∧ RpAll X.K F ws ls.flatten
  | _, _, _, _, .nil, .nil, e => by
    cases e
    exact ⟨[], [], rfl, fun i p e => by simp at e, .nil, .nil⟩
  | _, d :: ds, _, ls, .cons h t, .cons q1 q2, e => by
    cases d with
    | list l0 =>
      have e : (listsOf ds).map (l0 :: ·) = some ls := e
      cases h1 : listsOf ds with
      | none => rw [h1] at e; cases e
      | some ls' =>
        rw [h1] at e
        cases e
        obtain ⟨parts, ws, k1, k2, k3, k4⟩ := parts_of I l t q2 h1
        cases h with
        | lst hq ra =>
          cases q1
          have hq' := rd_sub l hq
          obtain ⟨z, its, n, r, e⟩ := hq'.ok I.hok
          refine ⟨its.toArray :: parts, _ ++ ws, by simp [k1], fun i p hi => ?_, ?_, ra.append k4⟩
          · cases i with
            | zero =>
              simp at hi
              subst hi
              exact ⟨_, n, rfl, e⟩
            | succ i =>
              simp at hi
              exact k2 i p hi
          · rw [List.flatMap_cons]
            exact r.append k3
    | _ => cases e
theorem c_sumL (hc : X.calm = true) : C2 X (.builtin "sum") sumLD := by
  rintro pins s σ H xs us Q I r ⟨v, u, rfl, P, F0, F, σ', st, dx, dy, rr, sr, b1, b2, e, q⟩
  unfold sumLD at e
  split at e
  · rename_i ds
    split at e
    · rename_i ls hls
      split at e
      · rename_i hz
        cases e
        obtain ⟨a, vs, rfl, h1, ra⟩ := b1.list sr.fH
        obtain ⟨b, ws0, rfl, h2, rb⟩ := b2.list sr.fH
        cases rb
        obtain ⟨z, its, n, r1, e1⟩ := h1.ok I.hok
        obtain ⟨z2, its2, n2, r2, e2⟩ := h2.ok I.hok
        cases r2
        obtain ⟨parts, ws, k1, k2, k3, k4⟩ := parts_of I sr.fH ra r1 hls
        have lw := k4.length
        have lk := k3.length
        have hlen : its.length = ds.length := by rw [← r1.length, ra.length]
        cases r with
        | cons ry rt =>
          cases rt with
          | cons ry2 rt =>
            cases rt
            cases ry
            cases ry2
            have hpos : 0 < its.toArray.size := by
              rw [List.size_toArray, hlen]
              exact List.length_pos_iff.mpr hz.1
            have hfull : ∀ k, ((parts.take k).flatMap (·.toList)).length ≤ (parts.flatMap (·.toList)).length := fun k => by
              have e : parts.flatMap (·.toList) = (parts.take k).flatMap (·.toList) ++ (parts.drop k).flatMap (·.toList) := by
                rw [← List.flatMap_append, List.take_append_drop]
              rw [e, List.length_append]
              omega
            refine call_sumL (prog := X.prog) (w := X.w) (parts := parts) (I.ok.hd hc) (by rw [k1, List.size_toArray]) ⟨_, e1, rfl, _, rfl⟩ e2 (fun i p hi => ?_) (fun k hk => ?_) hpos fun h' tk t' n' kk ht hn => ?_
            · obtain ⟨b, n, q1, q2⟩ := k2 i p hi
              exact ⟨b, n, by simpa using q1, q2⟩
            · have := hfull (k + 1)
              rw [← Array.length_toList, catTo_list]
              omega
            · have ea : catTo parts its.toArray.size = (parts.flatMap (·.toList)).toArray := by
                apply Array.toList_inj.mp
                rw [catTo_list, List.size_toArray, ← k1, List.take_length]
              rw [ea] at ht
              have hnH : H t' = none := I.hok.gone hn
              have wl : ws.length ≤ sizeLine := by omega
              have J := I.laidN (t' := tk) (o := .lst ws) kk hn hnH ⟨wl, _, _, k3, ht⟩
              obtain ⟨st2, rv⟩ := sr.alloc_o (o := .lst ws) hnH (.lst k4)
              exact ⟨.ref t', _, J, rfl, q _ F _ (.refl F) st2 rv⟩
      · cases e
    · cases e
  · cases e
end
end Dy
end
section
set_option Elab.async false
set_option linter.all false
set_option maxRecDepth 100000
set_option maxHeartbeats 4000000
/-! except C as n, the exception known from then on; isinstance of it -/
namespace Dy
open PySem PySem.Spec PyProof.Rows L2
variable [LawI] [Ph]
theorem exD_ok {P : Program} {w : World} {H : Hp} {h : Heap} {a : Addr} {cls : Value} {dd : Option Addr} {oe : Obj} {vs : Array Value} (e : h.get? a = some oe) (z : Zc cls dd oe) (d : oe.data = .fields vs) : ObjOk P w H h a (ExD cls dd a) :=
  ⟨⟨oe, vs, e, z, d⟩, ⟨oe, e⟩, fun _ _ ⟨o, v, q, r⟩ k => ⟨o, v, k o q, r⟩⟩
section
variable {X : Cx} {pins : List (Addr × Obj)} {σ : L2.St} {H : Hp} {s : Shared}
theorem adopt {a : Addr} {oe : Obj} {vs : Array Value} {cls : Value} {d : Option Addr} (S6 : Inv (X.suite a ((a, oe) :: (X.pn ++ pins))) [] σ H s) (ok : X.Ok) (z : Zc cls d oe) (hd : oe.data = .fields vs) (ha0 : X.s_0.heap.get? a = none) (hpn : ∀ p ∈ X.pn ++ pins, p.1 ≠ a) :
    Inv X pins σ (upd H a (ExD cls d a)) s := by
  have I := S6.unsuite ok
  obtain ⟨ea, na, nL, nF, nc⟩ := S6.pin (a, oe) (List.mem_append_left _ List.mem_cons_self)
  have nL : X.env.locals ≠ a := fun z => nL z.symm
  have no : ∀ b o, H b = some o → b ≠ a := fun b o e y => by rw [y, na] at e; cases e
  have ns : ∀ b o, X.s_0.heap.get? b = some o → b ≠ a := fun b o e y => by rw [y, ha0] at e; cases e
  refine ⟨ok, I.os, I.bare, ⟨I.base.keep, I.base.slot, fun b o e n hx => ?_, I.base.there, fun b xs e => ?_, fun b o x e => ?_, fun b ps e => ?_⟩, I.loc, I.cell, ?_, fun y c e => ?_, fun p hp => ?_, I.hok.laidN (fun _ _ q => q) na (exD_ok ea z hd), I.len⟩
  · rw [upd_ne (ns b o e)]
    exact I.base.free b o e n hx
  · have q := I.base.tups b xs e
    rw [upd_ne (no b _ q)]
    exact q
  · have q := I.base.frzs b o x e
    rw [upd_ne (no b _ q)]
    exact q
  · obtain ⟨m, q⟩ := I.base.tbls b ps e
    exact ⟨m, by rw [upd_ne (no b _ q)]; exact q⟩
  · rw [upd_ne nL]
    exact I.free
  · have hc : c ≠ a := fun y => by
      obtain ⟨v, o, ho, hdc⟩ := I.cell _ c e
      rw [y, ea] at ho
      cases ho
      rw [hd] at hdc
      cases hdc
    rw [upd_ne hc]
    exact I.freeC y c e
  · obtain ⟨e, n, r⟩ := I.pin p hp
    exact ⟨e, by rw [upd_ne (hpn p hp)]; exact n, r⟩
end
def wAsA (K : PySem.W.Frag) (c : Value) (i : Nat) (ts : Addr → Value → Option Addr → TS) (Wout : WX) (D : Ends) : WX := fun cls d σ H =>
  ∃ b, PySem.W.exmOne K cls c = some b ∧ (b = true → ∀ a, H a = none → ts a cls d { nx := fun σ' H' => D.nx (σ'.set i none) (upd H' a (ExD cls d a)), rt := fun v H' => D.rt v (upd H' a (ExD cls d a)), bk := fun σ' H' => D.bk (σ'.set i none) (upd H' a (ExD cls d a)), ct := fun σ' H' => D.ct (σ'.set i none) (upd H' a (ExD cls d a)) } (σ.set i (some (.ref a))) H) ∧
    (b = false → Wout cls d σ H)
section
variable {X : Cx} {x n : Str} {c : Value} {i : Nat} {body suite : List Stmt} {b₀ : Stmt} {np pos pos' : Pos} {tb : WX → TS} {ts : Addr → Value → Option Addr → TS} {Wout : WX}
theorem ps_try_asA (hs : X.stack = X.env :: X.outer) (hf : X.env.frame = some X.env.locals) (hN : X.N.Nodup) (hi : X.N[i]? = some n) (hln : X.env.kindOf n = some .local) (hc : Names X x c) (tk : Takes X Wout) (hex : X.ex = [])
    (hb : ∀ (W : WX) (pn : List (Addr × Obj)) (xe : Value → Shared → Prop), Takes (X.tr pn xe) W → PassesOwn (model X.prog X.w) X.A X.env xe → PSs (X.tr pn xe) body (tb W))
    (hsu : ∀ (a : Addr) (oe : Obj) (cls : Value) (d : Option Addr) (pn : List (Addr × Obj)), Zc cls d oe → (∃ vs, oe.data = .fields vs) → PSs (X.suite a ((a, oe) :: pn)) (b₀ :: suite) (ts a cls d)) :
    PS X (.Try body [.ExceptHandler (some (.Name x np)) (some n) (b₀ :: suite) pos'] [] [] pos) (fun D σ H => tb (wAsA X.K c i ts Wout D) D σ H) := by
  refine ⟨fun pins s σ H D I h => ?_⟩
  have ok := I.ok
  have hfr : X.A.frames = some (X.env :: X.outer) := by rw [ok.frames, hs]
  have hloc : Loc X.env.scope n := .inl hln
  refine wpAny_Try_except ?_
  refine wpAny_mono ((hb (wAsA X.K c i ts Wout D) (X.pn ++ pins) (fun e s₁ => wpAny (model X.prog X.w) X.A (noteFrame e X.env) (fun _ s₂ => wpAny (model X.prog X.w) X.A (setFlight e none) (fun _ s₃ =>
    wpAny (model X.prog X.w) X.A (handleBy e X.env [.ExceptHandler (some (.Name x np)) (some n) (b₀ :: suite) pos']) (SP X pins D) X.xe s₃) X.xe s₂) X.xe s₁) (fun u s' xx => ?_) PassesOwn.looking).run [] s σ H D (I.toTry _) h) (fun f s1 hsp => ?_) (fun e s1 he => he)
  · -- the catch
    obtain ⟨a, B, sI, pins', σ', H', cls, d, rfl, J', nb, up, sky, na, os, ag, b, hb1, hyes, hno⟩ := xx
    have J : Inv X pins σ' H' sI := J'.ofTry ok
    have sky' : Sky B (X.env :: X.outer) a (Zc cls d) X.env.locals s'.heap := by rw [← hs]; exact sky
    show wpAny (model X.prog X.w) X.A (noteFrame (.ref a) X.env) _ _ _
    refine Sky.land Zc.steady hfr hf sky' fun h3 fl3 up3 => ?_
    have J3 : Inv X pins σ' H' { s' with heap := h3 } := J.landed nb fl3.1 (up.trans up3) os ag
    obtain ⟨oe3, vs3, he3, hz3, hd3⟩ := fl3.there
    have notFr : ∀ {h : Heap} {o : Obj} {vs : Array Value}, h.FunFrames B (X.env :: X.outer) → h.get? a = some o → o.data = .fields vs → a ∉ frs (X.env :: X.outer) := fun {h o vs} ff e dd hm => by
      obtain ⟨_, o', e', hnf⟩ := ff.mem hm
      rw [e] at e'; cases e'
      exact hnf _ dd
    have nfr := notFr fl3.2.2.1 he3 hd3
    have nL : a ≠ X.env.locals := fun z => nfr (List.mem_filterMap.mpr ⟨X.env, List.mem_cons_self, by rw [hf, z]⟩)
    have nF : a ∉ X.fs := fun hm => by
      obtain ⟨e, he, q⟩ := List.mem_filterMap.mp hm
      exact nfr (List.mem_filterMap.mpr ⟨e, List.mem_cons_of_mem _ he, q⟩)
    have S3 := J3.suite he3 hd3 na nL nF
    refine wpAny_handleBy_cons (codeAny_handlers_test ?_) (by intro q; cases q)
    have LT : PySem.W.Looks (model X.prog X.w) h3 (typeOf (.ref a)) cls := fun A Q E s k q => wpAny_typeOf_ref (k _ _ he3) (by rw [hz3.1]; exact q)
    have LM := PySem.W.exm_one (M := model X.prog X.w) (J3.kIn) LT hb1
    have test : ∀ {Q : Value → Shared → Prop} {E : Value → Shared → Prop}, Q c { s' with heap := h3 } → wpAny (model X.prog X.w) (X.A.mark (some (.ref a))) (eval (.Name x np) X.env) Q E { s' with heap := h3 } := fun {Q E} q => by
      obtain ⟨hg, hdbg, hm | ⟨hm, hv, hnn⟩⟩ := hc
      · exact ld_glob (X := X.suite a ((a, oe3) :: (X.pn ++ pins))) S3 hg hm q hdbg
      · exact ld_blt (X := X.suite a ((a, oe3) :: (X.pn ++ pins))) S3 hg hm hv q hnn hdbg
    refine test (LM.here ?_)
    cases b with
    | true =>
      refine codeAny_handlers_suite_as ?_
      refine HandSPX.lands_againZ fl3 fun h4 fl4 up4 => ?_
      have J4 : Inv X pins σ' H' { s' with heap := h4 } := J.landed nb fl4.1 ((up.trans up3).trans up4) os ag
      obtain ⟨oe4, vs4, he4, hz4, hd4⟩ := fl4.there
      have S4 := J4.suite he4 hd4 na nL nF
      refine store_ok (X := X.suite a ((a, oe4) :: (X.pn ++ pins))) (v := .ref a) S4 hN hi hloc rfl (fun s5 S5 => ?_) (.inr hln)
      refine wpAny_mono ((hsu a oe4 cls d (X.pn ++ pins) hz4 ⟨_, hd4⟩).run [] s5 _ H' _ S5 (hyes rfl a na)) (fun f s6 hsp => ?_) (fun _ _ z => False.elim z)
      have noI : sI.heap.get? a = none := by
        cases q : sI.heap.get? a with
        | none => rfl
        | some o =>
          have q2 := nb a o q (by rw [hs]; exact nfr)
          rw [fl3.2.1] at q2
          cases q2
      have ha0 : X.s_0.heap.get? a = none := by
        cases q : X.s_0.heap.get? a with
        | none => rfl
        | some o =>
          obtain ⟨o', q2⟩ := J.base.there a o q (by rw [hex]; simp)
          rw [noI] at q2
          cases q2
      have hpn : ∀ p ∈ X.pn ++ pins, p.1 ≠ a := fun p hp z => by
        have q2 := (J.pin p hp).1
        rw [z, noI] at q2
        cases q2
      have end_ : ∀ {σ6 : L2.St} {H6 : Hp} {Q : Shared → Prop}, Inv (X.suite a ((a, oe4) :: (X.pn ++ pins))) [] σ6 H6 s6 → (∀ s7, Inv X pins (σ6.set i none) (upd H6 a (ExD cls d a)) s7 → Q s7) →
          wpAny (model X.prog X.w) X.A (do bindName X.env n .none; unbindBehindTheSuite X.env n pos') (fun _ s7 => Q s7) X.xe s6 := fun {σ6 H6 Q} S6 hq => gone_ok (adopt S6 ok hz4 hd4 ha0 hpn) hN hi hln hq
      cases f with
      | next =>
        obtain ⟨σ6, H6, S6, q6⟩ := hsp
        exact end_ S6 fun s7 J7 => ⟨_, _, J7, q6⟩
      | brk =>
        obtain ⟨σ6, H6, S6, q6⟩ := hsp
        exact end_ S6 fun s7 J7 => ⟨_, _, J7, q6⟩
      | cont =>
        obtain ⟨σ6, H6, S6, q6⟩ := hsp
        exact end_ S6 fun s7 J7 => ⟨_, _, J7, q6⟩
      | ret u =>
        obtain ⟨v6, σ6, H6, S6, r6, q6⟩ := hsp
        exact end_ S6 fun s7 J7 => ⟨_, _, _, J7, r6, q6⟩
    | false =>
      show wpAny _ X.A (handleBy (.ref a) X.env []) _ _ _
      refine wpAny_handleBy_nil ?_
      obtain ⟨k1, k2, k3, oe, vs, T, oT, ts', he, hz, hd, h1, hr⟩ := id fl3
      unfold PySem.passOn
      refine wpAny_bind (wpAny_field he hd h1 ?_)
      rw [if_neg (show ¬ ((Value.ref T == Value.none) = true) from by simp)]
      have fin : wpAny (model X.prog X.w) X.A (setFlight (.ref a) X.env.frame) (fun _ s4 => wpAny (model X.prog X.w) X.A (throw (.ref a) : Sem Flow) (SP X pins D) X.xe s4) X.xe { s' with heap := h3 } := by
        rw [hf]
        refine HandSPX.setFlight_upZ fl3 fun h4 hh4 up4 => wpAny_throw (tk _ _ ?_)
        exact ⟨a, B, sI, pins, σ', H', cls, d, rfl, J, nb, (up.trans up3).trans up4, .inr (.inr (by rw [hs]; exact hh4)), na, os, ag, hno rfl⟩
      first
        | exact wpAny_bind (wpAny_pure (wpAny_bind fin))
        | exact wpAny_bind fin
  · cases f with
    | next =>
      obtain ⟨σ', H', J', q⟩ := hsp
      exact wpAny_execs_nil ⟨σ', H', J'.ofTry ok, q⟩
    | brk =>
      obtain ⟨σ', H', J', q⟩ := hsp
      exact ⟨σ', H', J'.ofTry ok, q⟩
    | cont =>
      obtain ⟨σ', H', J', q⟩ := hsp
      exact ⟨σ', H', J'.ofTry ok, q⟩
    | ret u =>
      obtain ⟨v, σ', H', J', r, q⟩ := hsp
      exact ⟨v, σ', H', J'.ofTry ok, r, q⟩
end
/-- isinstance(e, c), e an exception that was kept -/
def rIsX (K : PySem.W.Frag) : List V → Hp → VK → Prop := fun xs H Q => ∃ (a D : Addr) (c : V) (cv : Value) (b : Bool), xs = [.ref a, c] ∧ H a = some (ExD (.ref D) none a) ∧ ExcC K D ∧ (∀ u, RelV c u → u = cv) ∧ PySem.W.kitOne K (.ref D) cv = some b ∧ Q (.bl b) H
theorem call_isX {X : Cx} : CallR X (.builtin "isinstance") (rIsX X.K) := by
  intro pins s σ H xs us Q I r h
  obtain ⟨a, D, c, cv, b, rfl, ea, C, hcv, e, q⟩ := h
  cases r with
  | cons rx rr =>
    cases rr with
    | cons rc rr =>
      cases rr
      have e2 := hcv _ rc
      subst e2
      obtain rfl := (show _ = Value.ref a from rx)
      obtain ⟨⟨oe, vs, ho, hz, hd⟩, _, _⟩ := I.hok a _ ea
      refine PySem.W.kia_one (PySem.W.handS_kitx_exc (ox := oe) C.hg C.hk C.hs C.hd C.ha C.hn C.ht C.hm) I.kIn ?_ e (fun z => nomatch z) fun tk => ⟨.bl b, H, I.tok tk, rfl, q⟩
      obtain ⟨oc, od, oda, osl⟩ := oe
      obtain ⟨h1, h2⟩ := hz
      dsimp only at h1 h2 hd
      subst h1 h2 hd
      exact ⟨ho, rfl, rfl, trivial⟩
end Dy
end
section
set_option Elab.async false
set_option linter.all false
set_option maxRecDepth 100000
set_option maxHeartbeats 4000000
/-! raise X(); what X is, by the head's facts -/
namespace Dy
open PySem PySem.Spec PyProof.Rows L2
variable [LawI] [Ph]
/-- the own exception class x of the top -/
structure ExCl (K : PySem.W.Frag) (mg : Str → Option Value) (x : Str) : Prop where
  g : mg x = some (.ref (He.ga K x))
  ex : PySem.W.excIn K (He.ga K x) He.veBase "ValueError.__new__" = true
  kp : PySem.W.keepIn K (.ref (He.ga K x)) = true
  sb : PySem.W.subIn K (.ref (He.ga K x)) (.type "BaseException") = some true
  ty : PySem.W.typeIn K (.ref (He.ga K x)) = some (.type "type")
theorem ExCl.of {K : PySem.W.Frag} {mg : Str → Option Value} {h : Heap} {x : Str} (X : K.In h) (G : h.Ns mainGlobals mg) (c1 : (He.Fa.glo x).ok K = true) (c2 : (He.Fa.exc x).ok K = true) : ExCl K mg x := by
  obtain ⟨h1, h2, h3, h4⟩ := He.exc_ok c2
  exact ⟨He.glo_ok X G c1, h1, h2, h3, h4⟩
section
variable {X : Cx} {W : WX} {P F0 : Hp} {F F' : Fz} {σ : L2.St} {H H' : Hp} {s s1 : S} {Q : VK} {K : PySem.W.Frag} {v : V} {x : D} {pins : List (Addr × Obj)} {sh : Shared} {T : Ends}
theorem pmk_own0 {x : Str} {p pos : Pos} (c : ExCl X.K X.mg x) (hg : Gl X x) (hdb : (x == ("__debug__" : Str)) = false := by decide) : PMk X (.Call (.Name x p) [] [] pos) (fun _ H Q => Q (.ref (He.ga X.K x)) none H) := by
  intro pins s σ H Q I h
  have r : Raises X (.ref (He.ga X.K x)) := raises_own c.sb c.ty
  refine wpAny_Call_Name_kw (ld_glob I hg c.g ?_ hdb)
  refine PySem.W.callWith_K0 I.kIn c.kp ?_
  show wpAny _ _ (call (.ref _) []) _ _ _
  obtain ⟨bm, N, nm, qn, bs, hdct, sn, sub, ab, col, dd, k0, k1, k2, k3, k5, mN, hC, hN, hni, T⟩ := exc_obj I.kIn c.ex
  refine wpAny_call_exc_subT PySem.F.excBase_ValueError T hC hN hni (fun h' e hm => ?_) (by show 0 ≤ sizeLine; omega)
  exact mk_of I hm r h (I.hok.gone hm.new)
def raiseS (x : Str) : M Fl := fun s => .exc x s
theorem ds_raise {x : Str} {p pos pos' : Pos} (tk : Takes X W) (c : ExCl X.K X.mg x) (hc : X.calm = true := by rfl) (hg : Gl X x := by rfl) (hdb : (x == ("__debug__" : Str)) = false := by decide) : DS X W (.Raise (some (.Call (.Name x p) [] [] pos)) none pos') (raiseS x) := by
  refine PS.weaken (ps_raise hc tk (pmk_own0 c hg hdb)) ?_
  rintro T σ H ⟨P, F0, F, s, st, q⟩
  exact q σ F H (.refl _) st
end
end Dy
end
section
set_option Elab.async false
set_option linter.all false
set_option maxRecDepth 100000
set_option maxHeartbeats 4000000
/-! try: .. except C as n: m = n -/
namespace Dy
open PySem PySem.Spec PyProof.Rows L2
variable [LawI] [Ph]
section
variable {X : Cx} {W : WX} {P F0 : Hp} {F F' : Fz} {σ σ' : L2.St} {H H' : Hp} {s s1 : S} {Q : VK} {K : PySem.W.Frag} {v : V} {x : D} {pins : List (Addr × Obj)} {sh : Shared} {T : Ends}
theorem StRel.unset (st : StRel K P F0 F σ H s) (i : Nat) : StRel K P F0 F (σ.set i none) H { s with env := s.env.set i .u } := by
  have get : ∀ j sl, (s.env.set i .u)[j]? = some sl → sl ≠ .u → j ≠ i ∧ s.env[j]? = some sl := fun j sl e hu => by
    by_cases h : j = i
    · subst h
      by_cases hl : j < s.env.length
      · rw [List.getElem?_set_self hl] at e
        cases e
        exact absurd rfl hu
      · rw [List.getElem?_eq_none (by simpa using hl)] at e
        cases e
    · rw [List.getElem?_set_ne (Ne.symm h)] at e
      exact ⟨h, e⟩
  have gs : ∀ j, j ≠ i → (σ.set i none).getD j none = σ.getD j none := fun j h => by
    rw [List.getD_eq_getElem?_getD, List.getD_eq_getElem?_getD, List.getElem?_set_ne (Ne.symm h)]
  refine ⟨st.fH, st.pH, st.new, by simpa using st.len, fun j sl e => ?_, fun j k y z b hjk ej ek e1 => ?_, st.dr, st.tb, st.ph⟩
  · cases sl with
    | u => trivial
    | d x =>
      obtain ⟨h1, h2⟩ := get j _ e (fun z => by cases z)
      rw [gs j h1]
      exact st.slot j _ h2
    | o x =>
      obtain ⟨h1, h2⟩ := get j _ e (fun z => by cases z)
      rw [gs j h1]
      exact st.slot j _ h2
  · obtain ⟨h1, h2⟩ := get j _ ej (fun z => by cases z)
    obtain ⟨h3, h4⟩ := get k _ ek (fun z => by cases z)
    rw [gs j h1] at e1
    rw [gs k h3]
    exact st.sep j k y z b hjk h2 h4 e1
def excD (c : Str) : D := .dict [(.none, .str c)]
def tryS (mb : M Fl) (i j : Nat) (sub : Str → Option Bool) : M Fl := fun s => match mb s with
  | .exc c s1 => match sub c with
    | some true => if i < s1.env.length ∧ j < s1.env.length ∧ i ≠ j then .ok .nx { s1 with env := ((s1.env.set i (.d (excD c))).set j (.d (excD c))).set i .u } else .bad
    | some false => .exc c s1
    | none => .bad
  | o => o
theorem ds_try {x n m : Str} {i j : Nat} {body : List Stmt} {mb : M Fl} {sub : Str → Option Bool} {np p1 p2 p3 pos pos' : Pos} (hN : X.N.Nodup) (hi : X.N[i]? = some n) (hj : X.N[j]? = some m) (hln : X.env.kindOf n = some .local) (hm : X.env.scope.names.lookup m = some .local) (hc : Names X x (.ref (He.ga X.K x))) (tk : Takes X W)
    (hsub : ∀ c b, sub c = some b → PySem.W.exmOne X.K (.ref (He.ga X.K c)) (.ref (He.ga X.K x)) = some b)
    (hb : ∀ (W : WX) (pn : List (Addr × Obj)) (xe : Value → Shared → Prop), Takes (X.tr pn xe) W → PassesOwn (model X.prog X.w) X.A X.env xe → DSs (X.tr pn xe) W body mb)
    (hs : X.stack = X.env :: X.outer := by rfl) (hf : X.env.frame = some X.env.locals := by rfl) (hex : X.ex = [] := by rfl) (hfm : X.fn m = true ∨ X.env.scope.names.lookup m = some .local := by first | exact .inl rfl | exact .inr rfl)
    (hd : (n == ("__debug__" : Str)) = false := by decide) (hcd : (n == ("__classdict__" : Str)) = false := by decide) :
    DS X W (.Try body [.ExceptHandler (some (.Name x np)) (some n) [.Assign [.Name m p1] (.Name n p2) p3] pos'] [] [] pos) (tryS mb i j sub) := by
  refine PS.weaken (ps_try_asA (tb := fun W => tDS X.K W mb) (ts := fun a cls d => tAsg (tVar i) (gName j)) (Wout := W) hs hf hN hi hln hc tk hex (fun W pn xe tk hp => hb W pn xe tk hp) (fun a oe cls d pn _ _ => pss_one (ps_set hN hj (.inl hm) (pe_var hi (.inl hln) hd hcd) rfl hfm))) ?_
  rintro T σ H ⟨P, F0, F, s, st, q⟩
  refine ⟨P, F0, F, s, st, ?_⟩
  unfold tryS at q
  cases e : mb s with
  | bad => rw [e] at q; exact q
  | ok f s1 =>
    rw [e] at q
    cases f <;> exact q
  | exc c s1 =>
    rw [e] at q
    have q : ResS X.K W P F0 F (match sub c with
      | some true => if i < s1.env.length ∧ j < s1.env.length ∧ i ≠ j then .ok .nx { s1 with env := ((s1.env.set i (.d (excD c))).set j (.d (excD c))).set i .u } else .bad
      | some false => .exc c s1
      | none => .bad) T := q
    intro σ' F' H' l st'
    cases eb : sub c with
    | none => rw [eb] at q; exact q.elim
    | some b =>
      rw [eb] at q
      cases b with
      | false => exact ⟨false, hsub c _ eb, (fun hb => nomatch hb), fun _ => q σ' F' H' l st'⟩
      | true =>
        refine ⟨true, hsub c _ eb, fun _ a na => ?_, (fun hb => nomatch hb)⟩
        have q : ResS X.K W P F0 F (if i < s1.env.length ∧ j < s1.env.length ∧ i ≠ j then .ok .nx { s1 with env := ((s1.env.set i (.d (excD c))).set j (.d (excD c))).set i .u } else .bad) T := q
        split at q
        · rename_i hh
          obtain ⟨l2, st2⟩ := st'.alloc_d (o := ExD (.ref (He.ga X.K c)) none a) na
          have rv : RV X.K P (F'.put a (ExD (.ref (He.ga X.K c)) none a)) σ' (upd H' a (ExD (.ref (He.ga X.K c)) none a)) s1 (.ref a) (.d (excD c)) := .exn Fz.put_same
          have st3 := st2.set hh.1 rv
          have st4 := st3.set (i := j) (r := .d (excD c)) (v := .ref a) (by simpa using hh.2.1) (.exn Fz.put_same)
          have st5 := st4.unset i
          have hlt : i < σ'.length := Nat.lt_of_lt_of_le hh.1 st'.len
          refine ⟨.ref a, List.getElem?_set_self hlt, ?_⟩
          exact q _ _ _ (l.trans l2) st5
        · exact q.elim
end
end Dy
end
section
set_option Elab.async false
set_option linter.all false
set_option maxRecDepth 100000
set_option maxHeartbeats 4000000
/-! lambdas without parameters -/
namespace Dy
open PySem PySem.Spec PyProof.Rows L2 LamX
variable [LawI] [Ph]
theorem among_keep {pos : Pos} {cv : Value} (l m : List Value) (h : TriplesOk l) (hc : codeAmong pos l = some cv) : codeAmong pos (l ++ m) = some cv := by
  fun_induction TriplesOk l with
  | case1 => simp [codeAmong] at hc
  | case2 a t b u x rest ih =>
    simp only [List.cons_append, codeAmong] at hc ⊢
    split at hc
    · rename_i q
      rw [if_pos q]
      exact hc
    · rename_i q
      rw [if_neg q]
      exact ih h hc
  | case3 l h1 h2 => exact h.elim
theorem among_new {pos : Pos} {c : Value} {l : List Value} (h : TriplesOk l) (hc : codeAmong pos l = none) : codeAmong pos (l ++ [rawInt pos.line, rawInt pos.col, c]) = some c := by
  fun_induction TriplesOk l with
  | case1 => simp [codeAmong, rawInt]
  | case2 a t b u x rest ih =>
    simp only [List.cons_append, codeAmong] at hc ⊢
    split at hc
    · cases hc
    · rename_i q
      rw [if_neg q]
      exact ih h hc
  | case3 l h1 h2 => exact h.elim
section
variable {X : Cx} {pins : List (Addr × Obj)} {σ : L2.St} {H : Hp} {s : Shared}
/-- a lambda is made: its function object is laid, its code object is new or found in the table -/
theorem lam_make4 {T : List (Addr × Str)} {c P : Addr} {la : LamA} {pos : Pos} {E : Value → Shared → Prop} {Q : Value → Shared → Prop} (I : Inv X pins σ H s) (TB : TabB X.base X.mg c P) (hcode : X.env.code = .ref c) (hq : la.q = X.env.qual ++ "<lambda>")
    (hm : (P, la.q) ∈ T) (hu : ∀ p ∈ T, p.1 = P → p.2 = la.q) (hT : Tabs T H) (hdef : defaultsOf la.params X.env = ([], [])) (hfree : ∀ y ∈ la.scope.names, y.2 = .free → ∃ c, X.env.cells.lookup y.1 = some c)
    (h : ∀ (f c' : Addr) (H1 H2 : Hp) (s' : Shared), Inv X pins σ H2 s' → ExtN H H1 → Tabs T H1 → H f = none → H1 f = none → H2 = upd H1 f (LamO f c' la X.env.cells) → H1 c' = some (CodeO c' la.q) → Q (.ref f) s') :
    wpAny (model X.prog X.w) X.A (eval (.Lambda la.params la.body la.scope pos) X.env) Q E s := by
  obtain ⟨ps, hP, ht, ha⟩ := hT _ hm
  refine PySem.W.kla_eval hdef ?_
  have bP : s.heap.BuiltinsAt X.mg P := TB.bm.keeps I.bk
  have hP' : s.heap.get? P = some { cls := .none, data := .fields ps } := I.hok P _ hP
  rw [hq] at hm hu ha
  have lay : ∀ {H1 : Hp} {h' : Heap} {tk : Nat} {c' : Addr} {pm ctv : Value}, Inv X pins σ H1 { s with heap := h', toks := tk } →
      Inv X pins σ (upd H1 h'.objs.size (LamO h'.objs.size c' la X.env.cells)) { s with heap := h'.push (PySem.W.kla_obj "<lambda>" (X.env.qual ++ "<lambda>") la.params la.body la.scope (cloFrom X.env.cells la.scope.names []) pm c' ctv), toks := tk } := by
    intro H1 h' tk c' pm ctv J
    have at_ : (h'.push (PySem.W.kla_obj "<lambda>" (X.env.qual ++ "<lambda>") la.params la.body la.scope (cloFrom X.env.cells la.scope.names []) pm c' ctv)).get? h'.objs.size = some (PySem.W.kla_obj "<lambda>" (X.env.qual ++ "<lambda>") la.params la.body la.scope (cloFrom X.env.cells la.scope.names []) pm c' ctv) := Heap.get?_push_size _ rfl
    refine J.laid (t' := tk) (fun b u e => Heap.get?_push_of_some _ e) (Nat.le_refl _) ⟨⟨pm, ctv, by rw [hq]; exact at_⟩, ⟨_, at_⟩, fun h1 h2 ⟨pm, ctv, z⟩ k => ⟨pm, ctv, k _ z⟩⟩
  cases hc : codeAmong pos ps.toList with
  | none =>
    refine PySem.W.kla_makeFunction (mg := X.mg) (c := c) (P := P) (ps := ps) (closure_ok hfree) I.ok.glob (I.mod.glob.keeps I.bk) hcode (TB.code.keeps I.bk) hP' ht hc TB.gP bP fun c' ctv h' tk hx hge hlt hrec htb => ?_
    obtain ⟨c2, oc, vs, t, e2, hoc, hd, hv⟩ := hrec
    cases e2
    have nC : H c' = none := I.hok.fresh hge
    have hE : ExtN H (upd (upd H P (.tbl (ps ++ #[rawInt pos.line, rawInt pos.col, .ref c']))) c' (CodeO c' (X.env.qual ++ "<lambda>"))) := fun b o e n => by
      rw [upd_ne (ne_of_none e nC), upd_ne (fun z => n ps (Option.some.inj (e.symm.trans (by rw [z]; exact hP))))]
      exact e
    have hsz : s.heap.objs.size ≤ h'.objs.size := Nat.le_trans hge (Nat.le_of_lt hlt)
    have n1 : h'.objs.size ≠ c' := Nat.ne_of_gt hlt
    have n2 : h'.objs.size ≠ P := Nat.ne_of_gt (Nat.lt_of_lt_of_le (Heap.lt_size hP') hsz)
    refine h h'.objs.size c' _ _ _ (lay (inv_table (t' := tk) (more := #[rawInt pos.line, rawInt pos.col, .ref c']) (h' := h') I hP hx htb hge ⟨oc, vs, t, hoc, hd, hv⟩)) hE (fun p hp => ?_) (I.hok.fresh hsz) (by rw [upd_ne n1, upd_ne n2]; exact I.hok.fresh hsz) rfl (by rw [hq]; exact upd_same)
    have eL : (ps ++ #[rawInt pos.line, rawInt pos.col, .ref c']).toList = ps.toList ++ [rawInt pos.line, rawInt pos.col, .ref c'] := by simp
    by_cases hb : p.1 = P
    · rw [hu p hp hb, hb]
      refine ⟨_, by rw [upd_ne (ne_of_none hP nC), upd_same], by rw [eL]; exact PySem.TriplesOk_snoc _ _ _ _ ht, fun p' cv hcv => ?_⟩
      rw [eL] at hcv
      rcases among_app _ ht hcv with z | z
      · obtain ⟨c0, e1, e2⟩ := ha p' cv z
        exact ⟨c0, e1, hE _ _ e2 codeO_ne⟩
      · exact ⟨c', z, upd_same⟩
    · obtain ⟨ps', a1, a2, a3⟩ := hT p hp
      refine ⟨ps', by rw [upd_ne (ne_of_none a1 nC), upd_ne hb]; exact a1, a2, fun p' cv hcv => ?_⟩
      obtain ⟨c0, e1, e2⟩ := a3 p' cv hcv
      exact ⟨c0, e1, hE _ _ e2 codeO_ne⟩
  | some cv =>
    obtain ⟨c', e, hco⟩ := ha pos cv hc
    subst e
    refine PySem.W.kla_makeFunctionHit (mg := X.mg) (c := c) (P := P) (ps := ps) (closure_ok hfree) I.ok.glob (I.mod.glob.keeps I.bk) hcode (TB.code.keeps I.bk) hP' ht hc bP fun ctv h' tk hx hsz => ?_
    exact h h'.objs.size c' H _ _ (lay (I.kept (t' := tk) (h' := h') fun b o e => hx b o e)) (ExtN.refl H) hT (I.hok.fresh hsz) (I.hok.fresh hsz) rfl (by rw [hq]; exact hco)
end
end Dy
end
section
set_option Elab.async false
set_option linter.all false
set_option maxRecDepth 100000
set_option maxHeartbeats 4000000
/-! lambdas as values: made, held, handed on, called -/
namespace Dy
open PySem PySem.Spec PyProof.Rows L2 LamX
variable [LawI] [Ph]
theorem cellsD_inj {a b : List (Str × Addr)} (h : cellsD a = cellsD b) : a = b := by
  unfold cellsD at h
  injection h with h
  induction a generalizing b with
  | nil => cases b with
    | nil => rfl
    | cons _ _ => cases h
  | cons p a ih => cases b with
    | nil => cases h
    | cons q b =>
      rw [List.map_cons, List.map_cons] at h
      injection h with h1 h2
      injection h1 with h1
      injection h1 with h3 h4
      injection h3 with h3
      injection h4 with h4 _
      injection h4 with h4
      rw [ih h2, Prod.ext h3 (Int.ofNat.inj h4)]
section
variable {X : Cx} {W : WX} {P F0 : Hp} {F F' : Fz} {σ σ' : L2.St} {H H' : Hp} {s s1 s' : S} {Q : VK} {K : PySem.W.Frag} {v : V} {x : D} {pins : List (Addr × Obj)} {sh : Shared} {T : Ends}
theorem lam_inv {id : Nat} {cells : List (Str × Addr)} (h : Rp K F v (lamTok id cells)) : ∃ f c a, v = .ref f ∧ LawI.lamAst id = some a ∧ F.hp f = some (LamO f c a cells) ∧ F.hp c = some (CodeO c a.q) := by
  generalize e : (lamTok id cells : D) = d at h
  cases h with
  | dic h r =>
    injection e with e
    generalize eL : [(PyData.none, PyData.tuple [.int (id : Nat), cellsD cells])] = l at e
    subst e
    cases r with
    | nil => cases eL
    | cons _ _ =>
      rename_i k _ _ _ _ _ _
      injection eL with e1 _
      injection e1 with e2 _
      cases k <;> cases e2
  | lam h1 h2 h3 =>
    injection e with e
    injection e with e1 _
    injection e1 with _ e2
    injection e2 with e2
    injection e2 with e3 e4
    injection e3 with e3
    injection e4 with e5 _
    have := Int.ofNat.inj e3
    subst this
    have := cellsD_inj e5
    subst this
    exact ⟨_, _, _, rfl, h1, h2, h3⟩
  | tok h => injection e with e; injection e with e1 _; injection e1 with _ e2; cases e2
  | exn h => injection e with e; injection e with e1 _; injection e1 with _ e2; cases e2
  | dit h r => injection e with e; injection e with e1 _; injection e1 with e2 _; cases e2
  | _ => cases e
/-- only the tables have changed -/
theorem StRel.tabs (st : StRel K P F0 F σ H s) (e : ExtN H H') (t : Tabs (lamTT K) H') : StRel K P F0 F σ H' s := by
  refine ⟨fun b o q => ?_, fun b o q => ?_, st.new, st.len, fun i sl q => ?_, st.sep, ?_, ⟨t, st.tb.nP, st.tb.nF⟩, st.ph⟩
  · have nt : NT o := fun ps z => st.tb.nF b ps (by rw [← z]; exact q)
    rcases st.fH b o q with z | ⟨m, od, z⟩
    · exact .inl (e b o z nt)
    · exact .inr ⟨m, od, e b _ z (fun ps y => by cases y)⟩
  · exact e b o (st.pH b o q) fun ps z => st.tb.nP b ps (by rw [← z]; exact q)
  · have z := st.slot i sl q
    cases sl with
    | u => trivial
    | d x => exact z
    | o x =>
      obtain ⟨a, e1, w⟩ := z
      obtain ⟨ob, e2, r⟩ := w.ob
      exact ⟨a, e1, w.fr, w.pr, w.dr, ob, e a ob e2 r.nx.nt, r⟩
  · have z := st.dr
    cases hst : s.dr with
    | none =>
      rw [hst] at z
      exact z
    | some r =>
      rw [hst] at z
      obtain ⟨d, w, c, q1, q2, q3, q4, q5⟩ := z
      exact ⟨d, w, c, q1, q2, e _ _ q3 (fun ps y => by cases y), e _ _ q4 (fun ps y => by cases y), q5⟩
/-- an object that never changes is known from now on -/
theorem StRel.know {a : Addr} {φ : Heap → Prop} (st : StRel K P F0 F σ H s) (e : H a = some (.ext φ)) : ∃ F', F.le F' ∧ StRel K P F0 F' σ H s ∧ F'.hp a = some (.ext φ) := by
  cases q : F.hp a with
  | some o =>
    rcases st.fH a o q with z | ⟨m, od, z⟩
    · rw [e] at z
      cases z
      exact ⟨F, .refl F, st, q⟩
    · rw [e] at z
      cases z
  | none =>
    refine ⟨F.put a (.ext φ), Fz.le_put q, st.put q e (fun o2 h => ?_) (fun d w h => ?_) (fun i y h1 h2 => ?_), Fz.put_same⟩
    · have z := st.pH a o2 h
      rw [e] at z
      cases z
      exact fun z => z
    · have z := st.dr
      cases hst : s.dr with
      | none =>
        rw [hst] at z
        have z1 : F.dr = none := z
        rw [h] at z1
        cases z1
      | some r =>
        rw [hst] at z
        obtain ⟨d', w', c, q1, q2, q3, q4, q5⟩ := z
        rw [h] at q1
        cases q1
        refine ⟨fun z => ?_, fun z => ?_⟩
        · rw [z, q3] at e
          cases e
        · rw [z, q4] at e
          cases e
    · obtain ⟨b, e1, w⟩ := st.slot i _ h1
      obtain ⟨ob, e2, r⟩ := w.ob
      have e1 : σ.getD i none = some (.ref b) := e1
      rw [h2] at e1
      cases e1
      rw [e] at e2
      cases e2
      cases r
/-- the lambda id, made -/
def lamD (id : Nat) (cells : List (Str × Addr)) : M Sl := fun s => .ok (.d (lamTok id cells)) s
theorem d_lamV {id : Nat} {c Pt : Addr} {la : LamA} {pos : Pos} (hid : LawI.lamAst id = some la) (TB : TabB X.base X.mg c Pt) (hcode : X.env.code = .ref c) (hq : la.q = X.env.qual ++ "<lambda>")
    (hm : (Pt, la.q) ∈ lamTT X.K) (hu : ∀ p ∈ lamTT X.K, p.1 = Pt → p.2 = la.q) (hdef : defaultsOf la.params X.env = ([], [])) (L : LamS X.env.scope la.scope) :
    DE X W (.Lambda la.params la.body la.scope pos) (lamD id X.env.cells) := by
  refine ⟨fun pins s σ H Q I h => ?_⟩
  obtain ⟨P, F0, F, sD, st, q⟩ := h
  refine lam_make4 I TB hcode hq hm hu st.tb.ok hdef (L.has I.ok) fun f c' H1 H2 s' I2 eN T1 hf hf1 eH hc => ?_
  have st1 := st.tabs eN T1
  subst eH
  obtain ⟨F2, l2, st2, k2⟩ := (st1.alloc (o := LamO f c' la X.env.cells) hf1).know upd_same
  obtain ⟨F3, l3, st3, k3⟩ := st2.know (a := c') (by rw [upd_ne (ne_of_none hc hf1)]; exact hc)
  exact ⟨.ref f, _, I2, rfl, q (.ref f) F3 _ (l2.trans l3) st3 (.lam hid (l3.hp _ _ k2) k3)⟩
/-! ### lambdas called -/
/-- what a lambda's datum does -/
abbrev LT := D → Option Dr → OutF
/-- the lambdas of which T tells may be called -/
structure ThOk (P : Program) (w : World) (K : PySem.W.Frag) (mg : Str → Option Value) (base : Heap) (k : Nat) (T : LT) : Prop where
  tok : ∀ u dr, T u dr ≠ .bad → ∃ id cells, u = lamTok id cells
  run : ∀ (A : Around) (outer : List Env) (s : Shared) (H P1 F0 : Hp) (F : Fz) (f : Addr) (u : D) (dr : Option Dr) (Q : VK) (E : XK), RoomG k A → Env0 P w K mg base A outer s H → StRel K P1 F0 F [] H ⟨[], dr⟩ → Rp K F (.ref f) u → ResF K P1 F0 F (T u dr) Q E →
    codeAny (model P w) A (.call (.ref f) ⟨[], []⟩) (CR (L2.CX P w) outer P w H s Q E) s
def callL (T : LT) (i : Nat) : M Sl := fun s => match s.env[i]? with
  | some (.d u) => callF (fun _ dr => T u dr) [] s
  | _ => .bad
theorem d_callL {k j i : Nat} {T : LT} {a : Str} {p1 p2 : Pos} (th : ThOk X.prog X.w X.K X.mg X.base k T) (tk : Takes X W) (hr : RoomG j X.A) (hk : k ≤ j) (hv : PE X (.Name a p1) (tVar i)) : DE X W (.Call (.Name a p1) [] [] p2) (callL T i) := by
  refine ⟨fun pins s σ H Q I h => ?_⟩
  obtain ⟨P, F0, F, sD, st, q⟩ := h
  unfold callL at q
  split at q
  · rename_i u eu
    obtain ⟨w, ew, rw'⟩ := st.slot i _ eu
    have hne : T u sD.dr ≠ .bad := fun z => by
      unfold callF at q
      dsimp only at q
      rw [z] at q
      exact q
    obtain ⟨id, cells, rfl⟩ := th.tok u _ hne
    obtain ⟨f, c, a1, rfl, h1, h2, h3⟩ := lam_inv rw'
    refine wpAny_Call_Name_kw (thn (hv.run pins s σ H (fun v H1 => v = .ref f ∧ H1 = H) I ⟨.ref f, getD_some ew, rfl, rfl⟩) fun u1 s1 ⟨v, H1, I1, r1, q1⟩ => ?_)
    obtain ⟨ev, eH⟩ := q1
    subst ev
    rw [eH] at I1
    obtain rfl : u1 = Value.ref f := r1
    have e4 : H f = some (LamO f c a1 cells) := by
      rcases st.fH f _ h2 with z | ⟨m, _⟩
      · exact z
      · exact m.2.elim
    obtain ⟨⟨pm, ctv, of1⟩, _, _⟩ := I1.hok f _ e4
    refine PySem.W.callWith_F0 ⟨_, _, _, _, of1⟩ ?_
    unfold callF at q
    dsimp only at q
    have rc : codeAny (model X.prog X.w) X.A (.call (.ref f) ⟨[], []⟩) (CR (L2.CX X.prog X.w) X.stack X.prog X.w H s1 Q (WE W σ)) s1 := by
      refine th.run X.A X.stack s1 H (cutP F H) F.hp F f _ sD.dr Q (WE W σ) (hr.mono hk) I1.env0 st.enter rw' ?_
      cases e : T (lamTok id cells) sD.dr with
      | bad => exact (hne e).elim
      | exc cc dr' =>
        rw [e] at q
        exact fun F' H' l st' => q F' H' l (st.leave l st')
      | ok d dr' =>
        rw [e] at q
        exact fun v F' H' l st' rp => q v F' H' l (st.leave l st') rp
    refine wpAny_call (codeAny_mono rc fun r s' hq => ?_)
    cases r with
    | error e => exact (passAt tk σ) pins H s1 e s' I1 hq
    | ok fl =>
      cases fl with
      | ret u => exact I1.after hq
      | next => exact False.elim hq
      | brk => exact False.elim hq
      | cont => exact False.elim hq
  · exact q.elim
end
end Dy
end
section
set_option Elab.async false
set_option linter.all false
set_option maxRecDepth 100000
set_option maxHeartbeats 4000000
/-! a def that is handed lambdas: it is called over a larger written part, in which their cells lie -/
namespace Dy
open PySem PySem.Spec PyProof.Rows L2 LamX
variable [LawI] [ph0 : Ph]
structure BLe (b b' : Heap) : Prop where
  at_ : ∀ a o, b.get? a = some o → b'.get? a = some o
  sz : b.objs.size ≤ b'.objs.size
theorem BLe.refl (b : Heap) : BLe b b := ⟨fun _ _ h => h, Nat.le_refl _⟩
theorem BLe.trans {a b c : Heap} (x : BLe a b) (y : BLe b c) : BLe a c := ⟨fun p o h => y.at_ p o (x.at_ p o h), Nat.le_trans x.sz y.sz⟩
theorem TabB_up {b b' : Heap} {mg : Str → Option Value} {c P : Addr} (TB : TabB b mg c P) (l : BLe b b') : TabB b' mg c P := ⟨TB.code.keeps l.at_, TB.bm.keeps l.at_, TB.gP⟩
/-- what nobody writes while a call runs -/
def rebase (h : Heap) (H : Hp) (fs : List Addr) : Heap := hidT h fun b => if b ∈ fs then some (.own 0) else H b
theorem rebase_at {h : Heap} {H : Hp} {fs : List Addr} {b : Addr} {o : Obj} (e : h.get? b = some o) (n : H b = none) (m : b ∉ fs) : (rebase h H fs).get? b = some o := hidT_get e (by rw [if_neg m]; exact n)
theorem of_rebase {h : Heap} {H : Hp} {fs : List Addr} {b : Addr} {o : Obj} (e : (rebase h H fs).get? b = some o) : h.get? b = some o ∧ H b = none ∧ b ∉ fs := by
  obtain ⟨e1, e2⟩ := of_hidT e
  by_cases m : b ∈ fs
  · rw [if_pos m] at e2
    cases e2
  · rw [if_neg m] at e2
    exact ⟨e1, e2, m⟩
section
variable {X : Cx} {W : WX} {P F0 : Hp} {F F' : Fz} {σ σ' : L2.St} {H H' HZ : Hp} {s s1 s' : S} {Q : VK} {K : PySem.W.Frag} {v : V} {x : D} {pins : List (Addr × Obj)} {sh sZ : Shared} {T : Ends}
theorem Inv_le (I : Inv X pins σ H sh) : BLe X.base (rebase sh.heap H (frs X.stack)) := by
  refine ⟨fun a o h => rebase_at (I.bs a o h).1 (I.bs a o h).2 fun m => ?_, ?_⟩
  · have z := (I.stack.mem m).1
    rw [h] at z
    cases z
  · show _ ≤ (hidT _ _).objs.size
    rw [hidT_size]
    exact Nat.le_trans I.ok.bsz I.sz
theorem Mod_up {mg : Str → Option Value} {b b' : Heap} (m : Mod K mg b) (l : BLe b b') : Mod K mg b' := by
  obtain ⟨k, g, ⟨mb, b1, b2⟩, n⟩ := m
  exact ⟨k.keeps l.at_, g.keeps l.at_, ⟨mb, b1.keeps l.at_, b2⟩, n.keeps l.at_⟩
theorem Inv_env (I : Inv X pins σ H sh) : Env0 X.prog X.w X.K X.mg (rebase sh.heap H (frs X.stack)) X.A X.stack sh H := by
  have e := I.env0
  refine ⟨e.frames, Mod_up e.mod (Inv_le I), fun b o h => ?_, ?_, funFrames_none e.funs fun L m => ?_, e.frf, e.hok, e.bare⟩
  · obtain ⟨h1, h2, _⟩ := of_rebase h
    exact ⟨h1, h2⟩
  · exact Nat.le_of_eq (hidT_size _ _)
  · cases q : (rebase sh.heap H (frs X.stack)).get? L with
    | none => rfl
    | some o => exact absurd m (of_rebase q).2.2
theorem Env0_down {Pr : Program} {w : World} {mg : Str → Option Value} {b b' : Heap} {A : Around} {outer : List Env} (e : Env0 Pr w K mg b' A outer sZ HZ) (m : Mod K mg b) (l : BLe b b') : Env0 Pr w K mg b A outer sZ HZ := by
  refine ⟨e.frames, m, fun a o h => e.bs a o (l.at_ a o h), Nat.le_trans l.sz e.bsz, funFrames_none e.funs fun L q => ?_, e.frf, e.hok, e.bare⟩
  have z := (e.funs.mem q).1
  cases h : b.get? L with
  | none => rfl
  | some o =>
    rw [l.at_ L o h] at z
    cases z
theorem cell_apart (I : Inv X pins σ H sh) (hfn : ∀ y, X.fn y = true) {y : Str} {c : Addr} (e : X.env.cells.lookup y = some c) : c ∉ frs X.stack := fun m => by
  rcases List.mem_cons.mp (I.stkSub c m) with z | z
  · exact I.cne y c e z
  · obtain ⟨_, o, ho, _⟩ := I.ok.funs.mem z
    exact absurd (Nat.lt_of_lt_of_le (Heap.lt_size ho) (I.ok.cab y c (hfn y) e)) (Nat.lt_irrefl _)
/-- the lambda's own frame, behind whatever has run since -/
theorem start_lam {A : Around} {outer : List Env} {E : XK} {scope : Scope} {f c' : Addr} {hN : Heap} {tk : Nat} (I : Inv X pins σ H sh) (hfn : ∀ y, X.fn y = true) (L : LamS X.env.scope scope) (e0 : Env0 X.prog X.w X.K X.mg (rebase sh.heap H (frs X.stack)) A outer sZ HZ)
    (hd : A.handled = none) (ns : hN.Ns sZ.heap.objs.size fun y => ([] : List (Str × Value)).reverse.lookup y) (keep : ∀ b o, sZ.heap.get? b = some o → hN.get? b = some o) :
    Inv (lamCx X A outer sZ HZ E scope f c') [] σ HZ { sZ with heap := hN, toks := tk } := by
  have e1 := Env0_down e0 I.ok.mod (Inv_le I)
  have lk : ∀ {y c}, (cloFrom X.env.cells scope.names []).lookup y = some c → X.env.cells.lookup y = some c := fun {y c} e => by
    rcases cloFrom_mem (PySem.mem_of_lookup e) with m | ⟨m1, m2⟩
    · cases m
    · obtain ⟨c1, z⟩ := L.has I.ok _ m1 rfl
      have z : X.env.cells.lookup y = some c1 := z
      rw [m2, z]
      rfl
  have kl : ∀ {y}, scope.names.lookup y = some .free → ∃ c, (cloFrom X.env.cells scope.names []).lookup y = some c := fun {y} e =>
    mem_lookup (cloFrom_has (cells := X.env.cells) (acc := []) (PySem.mem_of_lookup e))
  have cel : ∀ {y c v}, X.env.cells.lookup y = some c → sh.heap.IsCell c v → hN.IsCell c v ∧ HZ c = none := fun {y c v} e ⟨o, ho, hdt⟩ => by
    have z := e0.bs c o (rebase_at ho (I.freeC y c e) (cell_apart I hfn e))
    exact ⟨⟨o, keep _ _ z.1, hdt⟩, z.2⟩
  have no0 : ∀ b : Addr, b ∉ (lamCx X A outer sZ HZ E scope f c').ex := fun b z => by cases (show b ∈ ([] : List Addr) from z)
  constructor
  case ok =>
    refine ⟨e1.mod, L.kind, rfl, rfl, Nat.le_refl _, fun x y c h1 h2 => I.ok.inj x y c (lk h1) (lk h2), fun y hy => ?_, fun y c z _ => ?_, fun _ => hd, Around.frames_deeper e1.frames, .inr ⟨rfl, rfl⟩,
      fun b z => absurd z (no0 b), e1.bs, e1.bsz, fun b _ _ => no0 b, fun b z => absurd z (no0 b), e1.funs, e1.frf⟩
    · have hy : scope.names.lookup y = some .cell ∨ scope.names.lookup y = some .free := hy
      rcases hy with k | k
      · exact ((L.own _ (PySem.mem_of_lookup k)).2 rfl).elim
      · exact kl k
    · exact nomatch (show false = true from z)
  case os => rfl
  case bare => exact e1.bare
  case base => exact Un.kept keep
  case loc =>
    refine ⟨_, ns, fun i y v h1 h2 h3 => ?_⟩
    have h3 : Vis scope y := h3
    rcases h3 with k | k | k
    · exact ((L.own _ (PySem.mem_of_lookup k)).1 rfl).elim
    · exact ((L.own _ (PySem.mem_of_lookup k)).2 rfl).elim
    · have kk := L.free _ (PySem.mem_of_lookup k) rfl
      obtain ⟨m, _, q⟩ := I.loc
      obtain ⟨u, r, q⟩ := q i y v h1 h2 (kk.elim (fun z => .inr (.inl z)) fun z => .inr (.inr z))
      obtain ⟨c2, l2⟩ := kl k
      refine ⟨u, r, .inr ⟨.inr k, c2, l2, ?_⟩⟩
      rcases q with ⟨z, _⟩ | ⟨_, c3, z1, z2⟩
      · have z : X.env.scope.names.lookup y = some .local := z
        rcases kk with z3 | z3 <;> rw [show X.env.scope.names.lookup y = _ from z3] at z <;> cases z
      · have z4 := lk l2
        rw [z4] at z1
        cases z1
        exact (cel z4 z2).1
  case cell =>
    intro y c e
    obtain ⟨v, z⟩ := I.cell y c (lk e)
    exact ⟨v, (cel (lk e) z).1⟩
  case free => exact e1.hok.fresh (Nat.le_refl _)
  case freeC =>
    intro y c e
    obtain ⟨v, z⟩ := I.cell y c (lk e)
    exact (cel (lk e) z).2
  case pin => exact fun q hq => by cases (show q ∈ ([] : List (Addr × Obj)) ++ [] from hq)
  case hok => exact e1.hok.kept keep
  case len => exact I.len
end
/-! ### the maker's slots -/
def frzS : List Nat → S → S
  | [], s => s
  | i :: is, s => frzS is (match s.env[i]? with
    | some (.o x) => { s with env := s.env.set i (.d x) }
    | _ => s)
def onlyD (env : List Sl) : List Sl := env.map fun sl => match sl with
  | .d x => .d x
  | _ => .u
/-- what a lambda does, at what is known of the maker's slots -/
def thunk (mb : M Sl) (env : List Sl) : Option Dr → OutF := fun dr => match mb ⟨env, dr⟩ with
  | .ok r s => .ok r.val s.dr
  | .exc c s => .exc c s.dr
  | .bad => .bad
open Classical in
noncomputable def LTof (cells : List (Str × Addr)) (env : List Sl) : List (Nat × M Sl) → LT
  | [] => fun _ _ => .bad
  | (id, m) :: r => fun u dr => if u = lamTok id cells then thunk m env dr else LTof cells env r u dr
theorem lamTok_inj {i j : Nat} {c c' : List (Str × Addr)} (h : (lamTok i c : D) = lamTok j c') : i = j ∧ c = c' := by
  injection h with h
  injection h with h _
  injection h with _ h
  injection h with h
  injection h with h1 h2
  injection h1 with h1
  injection h2 with h2 _
  exact ⟨Int.ofNat.inj h1, cellsD_inj h2⟩
theorem LTof_hd {cells : List (Str × Addr)} {env : List Sl} {id : Nat} {m : M Sl} {r : List (Nat × M Sl)} {dr : Option Dr} : LTof cells env ((id, m) :: r) (lamTok id cells) dr = thunk m env dr := by
  unfold LTof
  exact if_pos rfl
theorem LTof_tl {cells : List (Str × Addr)} {env : List Sl} {id j : Nat} {m : M Sl} {r : List (Nat × M Sl)} {dr : Option Dr} (h : j ≠ id) : LTof cells env ((id, m) :: r) (lamTok j cells) dr = LTof cells env r (lamTok j cells) dr := by
  rw [LTof]
  exact if_neg fun z => h (lamTok_inj z).1
theorem LTof_mem {cells : List (Str × Addr)} {env : List Sl} {u : D} {dr : Option Dr} : ∀ {MB : List (Nat × M Sl)}, LTof cells env MB u dr ≠ .bad → ∃ id m, (id, m) ∈ MB ∧ u = lamTok id cells ∧ LTof cells env MB u dr = thunk m env dr
  | [], h => (h rfl).elim
  | (id, m) :: r, h => by
    by_cases e : u = lamTok id cells
    · subst e
      exact ⟨id, m, List.mem_cons_self, rfl, LTof_hd⟩
    · have q : LTof cells env ((id, m) :: r) u dr = LTof cells env r u dr := by
        rw [LTof]
        exact if_neg e
      rw [q] at h ⊢
      obtain ⟨i, m', h1, h2⟩ := LTof_mem h
      exact ⟨i, m', List.mem_cons_of_mem _ h1, h2⟩
section
variable {X : Cx} {W : WX} {P F0 : Hp} {F F' : Fz} {σ σ' : L2.St} {H H' HZ : Hp} {s s1 s' : S} {Q : VK} {K : PySem.W.Frag} {v : V} {x : D} {pins : List (Addr × Obj)} {sh sZ : Shared} {T : Ends}
theorem frzS_ok : ∀ {is : List Nat} {F : Fz} {s : S}, StRel K P F0 F σ H s → ∃ F', F.le F' ∧ StRel K P F0 F' σ H (frzS is s)
  | [], F, s, st => ⟨F, .refl F, st⟩
  | i :: is, F, s, st => by
    unfold frzS
    split
    · rename_i x e
      obtain ⟨F1, v, l, _, st1, _⟩ := st.freeze e
      obtain ⟨F2, l2, st2⟩ := frzS_ok (is := is) st1
      exact ⟨F2, l.trans l2, st2⟩
    · exact frzS_ok st
theorem onlyD_slot (st : StRel K P F0 F σ H s) {i : Nat} {sl : Sl} (e : (onlyD s.env)[i]? = some sl) : sl = .u ∨ ∃ x u, sl = .d x ∧ σ.getD i none = some u ∧ Rp K F u x := by
  unfold onlyD at e
  rw [List.getElem?_map] at e
  cases h : s.env[i]? with
  | none => rw [h] at e; cases e
  | some t =>
    rw [h] at e
    cases t with
    | u => cases e; exact .inl rfl
    | o x => cases e; exact .inl rfl
    | d x =>
      cases e
      obtain ⟨u, h1, h2⟩ := st.slot i _ h
      exact .inr ⟨x, u, rfl, h1, h2⟩
/-- another look at what is known of all -/
theorem recast (p1 p2 : Ph) (st : @StRel _ p1 K P F0 F σ H s) (h : p2.Φ F) : @StRel _ p2 K P F0 F σ H s := by
  obtain ⟨h1, h2, h3, h4, h5, h6, h7, h8, _⟩ := st
  exact @StRel.mk _ p2 _ _ _ _ _ _ _ h1 h2 h3 h4 h5 h6 h7 h8 h
/-- all that is known behind F -/
@[reducible] def phF (F : Fz) : Ph where
  Φ := fun G => F.le G
  mono := fun _ _ l h => h.trans l
noncomputable def callDL (cells : List (Str × Addr)) (MB : List (Nat × M Sl)) (js : List Nat) (f : LT → FD) (ms : M (List D)) : M Sl := fun s => (ms s).bind fun ds s => callF (f (LTof cells (onlyD (frzS js s).env) MB)) ds (frzS js s)
/-- the lambdas that a def makes: of each its text, what it does -/
def Makes (X : Cx) (k : Nat) (MB : List (Nat × M Sl)) : Prop := ∀ p ∈ MB, ∃ la, LawI.lamAst p.1 = some la ∧ LamS X.env.scope la.scope ∧ la.q = X.env.qual ++ "<lambda>" ∧
  (∀ (q : Str) (cl : List (Str × Addr)) (pm cv ctv : Value), bindArgs (PySem.W.kla_fn "<lambda>" q la.params la.body la.scope cl pm cv ctv) ⟨[], []⟩ = pure []) ∧
  ∀ (A : Around) (outer : List Env) (s : Shared) (H : Hp) (E : XK) (f c' : Addr), RoomG k (A.deeper (lamEnv X la.scope s.heap.objs.size f c')) → DE (lamCx X A outer s H E la.scope f c') (fun c d _ H => E c d H) la.body p.2
theorem thunks_ok {kb : Nat} {MB : List (Nat × M Sl)} (I : Inv X pins σ H sh) (hfn : ∀ y, X.fn y = true) (st : StRel X.K P F0 F σ H s) (mk : Makes X kb MB) :
    @ThOk _ (phF F) X.prog X.w X.K X.mg (rebase sh.heap H (frs X.stack)) (kb + 1) (LTof X.env.cells (onlyD s.env) MB) := by
  refine @ThOk.mk _ (phF F) _ _ _ _ _ _ _ (fun u dr h => ?_) (fun A outer sZ HZ P1 FZ0 FZ f u dr Q E hr e0 stZ rz rf => ?_)
  · obtain ⟨id, m, _, e, _⟩ := LTof_mem h
    exact ⟨id, _, e⟩
  · have hne : LTof X.env.cells (onlyD s.env) MB u dr ≠ .bad := fun z => by
      rw [z] at rf
      exact rf
    obtain ⟨id, m, hm, rfl, eT⟩ := LTof_mem hne
    rw [eT] at rf
    have lF : F.le FZ := @StRel.ph _ (phF F) _ _ _ _ _ _ _ stZ
    have stZ := recast (phF F) ph0 stZ (Ph.mono _ _ lF st.ph)
    obtain ⟨f', c, la', ef, h1, h2, h3⟩ := lam_inv rz
    cases ef
    obtain ⟨la, g1, L, gq, gb, body⟩ := mk _ hm
    rw [h1] at g1
    cases g1
    have kn : ∀ {a φ}, FZ.hp a = some (.ext φ) → HZ a = some (.ext φ) := fun {a φ} h => by
      rcases stZ.fH a _ h with z | ⟨q, _⟩
      · exact z
      · exact q.2.elim
    obtain ⟨⟨pm, ctv, ho⟩, _, _⟩ := e0.hok f _ (kn h2)
    obtain ⟨⟨oc, vs, t, hoc, hdc, hvc⟩, _, _⟩ := e0.hok c _ (kn h3)
    have e1 := Env0_down e0 I.ok.mod (Inv_le I)
    have lim : sZ.heap.NoLimit := e1.mod.nolimit.keeps fun b o e => (e1.bs b o e).1
    rw [gq] at ho hvc
    refine PySem.W.kla_callFunE hr.depth ho rfl L.co L.gen rfl ⟨c, oc, vs, t, rfl, hoc, hdc, hvc⟩ ?_
    rw [gb]
    refine wpAny_pure (wpAny_newFunctionEnv (fun y hy => (L.own y hy).2) (fun y hy => absurd hy (by simp)) (fun hN ns sb => ⟨lim.fresh _ sb, ?_⟩) L.kind)
    show codeAny _ _ (.expr la'.body (lamEnv X la'.scope sZ.heap.objs.size f c)) _ _
    have keep : ∀ b o, sZ.heap.get? b = some o → hN.get? b = some o := fun b o e => sb.extBut b o (Nat.ne_of_lt (Heap.lt_size e)) (Heap.get?_push_of_some _ e)
    have J := start_lam (E := E) (f := f) (c' := c) (tk := sZ.toks + ([] : List (Str × Value)).length) I hfn L e0 hr.hd ns keep
    have stB : StRel X.K P1 FZ0 FZ σ HZ ⟨onlyD s.env, dr⟩ := by
      refine ⟨stZ.fH, stZ.pH, stZ.new, ?_, fun i sl e => ?_, fun i j x y a _ e => ?_, stZ.dr, stZ.tb, Ph.mono _ _ lF st.ph⟩
      · show (onlyD s.env).length ≤ σ.length
        unfold onlyD
        rw [List.length_map]
        exact st.len
      · rcases onlyD_slot st e with rfl | ⟨x, u, rfl, z1, z2⟩
        · trivial
        · exact ⟨u, z1, z2.le lF⟩
      · rcases onlyD_slot st e with z | ⟨_, _, z, _⟩ <;> cases z
    have res : tD X.K (fun c d _ H => E c d H) m σ HZ Q := by
      refine ⟨P1, FZ0, FZ, ⟨onlyD s.env, dr⟩, stB, ?_⟩
      unfold thunk at rf
      cases em : m ⟨onlyD s.env, dr⟩ with
      | bad =>
        rw [em] at rf
        exact rf
      | exc cc s2 =>
        rw [em] at rf
        exact fun G HG l stG => rf G HG l (recast ph0 (phF F) stG.drop (lF.trans l))
      | ok r s2 =>
        rw [em] at rf
        intro v2 G HG l stG rv
        obtain ⟨G2, l2, stG2, rp⟩ := rv.freeze stG
        exact rf v2 G2 HG (l.trans l2) (recast ph0 (phF F) stG2.drop (lF.trans (l.trans l2))) rp
    refine PySem.W.kla_codeExpr (wpAny_mono ((body A outer sZ HZ E f c (hr.deeper _)).run [] _ _ HZ Q J res) (fun v s' hq => ?_) fun e s' hq => hq)
    obtain ⟨w', H', J', rv, q⟩ := hq
    exact ⟨w', H', J'.os, J'.bare, J'.base, J'.hok, rv, q⟩
theorem noLT {k : Nat} {Pr : Program} {w : World} {mg : Str → Option Value} {b : Heap} : ThOk Pr w K mg b k fun _ _ => .bad := ⟨fun _ _ h => (h rfl).elim, fun _ _ _ _ _ _ _ _ _ _ _ _ _ _ _ _ h => h.elim⟩
/-- g(.., lambda: .., ..): a def of the top that is handed lambdas of this frame -/
theorem d_callLam {k kb kt j n : Nat} {fxg : LT → FD} {x : Str} {p pos : Pos} {e : Expr} {es : List Expr} {ms : M (List D)} {js : List Nat} {MB : List (Nat × M Sl)}
    (hG : ∀ (p : Ph) (b : Heap) (T : LT), BLe X.base b → @ThOk _ p X.prog X.w X.K X.mg b kt T → @Has _ p X.prog X.w X.K X.mg b x n k (fxg T)) (mk : Makes X kb MB) (hkt : kb + 1 = kt) (tk : Takes X W) (hr : RoomG j X.A) (hk : k ≤ j) (ha : DA X W (e :: es) ms)
    (hlen : ∀ s ds s', ms s = .ok ds s' → ds.length = n) (hfn : ∀ y, X.fn y = true := by intro _; rfl) (hg : Gl X x := by rfl) (hd : (x == ("__debug__" : Str)) = false := by decide)
    (he : starEach (e :: es) X.env = (false, eval e X.env) :: starEach es X.env := by rfl) (hpl : (backTo pos (starEach es X.env)).any (·.1) = false := by rfl) : DE X W (.Call (.Name x p) (e :: es) [] pos) (callDL X.env.cells MB js fxg ms) := by
  obtain ⟨f, _, _, _, hm, hkp, _⟩ := (hG inferInstance X.base (fun _ _ => .bad) (.refl _) noLT).ex
  refine ⟨fun pins s σ H Q I h => ?_⟩
  obtain ⟨P, F0, F, sD, st, q⟩ := h
  unfold callDL at q
  have h2 : tDA X.K W ms σ H fun v H1 => ∃ P F0 F1 s1 r, StRel X.K P F0 F1 σ H1 s1 ∧ RpAll X.K F1 v r ∧ r.length = n ∧ Res X.K W P F0 F1 σ (callF (fxg (LTof X.env.cells (onlyD (frzS js s1).env) MB)) r (frzS js s1)) Q := by
    refine ⟨P, F0, F, sD, st, ?_⟩
    cases e1 : ms sD with
    | bad =>
      rw [e1] at q
      exact q
    | exc c s1 =>
      rw [e1] at q
      exact q
    | ok ds s1 =>
      rw [e1] at q
      exact fun v F1 H1 l1 st1 rp => ⟨P, F0, F1, s1, ds, st1, rp, hlen _ _ _ e1, Res.le l1 q⟩
  refine wpAny_Call_Name_kw (ld_glob I hg hm ?_ hd)
  refine PySem.W.callWith_K (h₀ := X.base) I.ok.mod.kin hkp (thn (ha.run pos pins s σ H _ I h2) fun us s1 ⟨vs, H1, I1, r, q1⟩ => ⟨I1.kIn, ?_⟩) he hpl
  obtain ⟨P, F0, F1, sM, ds, st1, rp, hn, q2⟩ := q1
  obtain ⟨F2, l2, st2⟩ := frzS_ok (is := js) st1
  have th := thunks_ok I1 hfn st2 mk
  rw [hkt] at th
  obtain ⟨f', fd, ps, Fk, hm', _, hb⟩ := @Has.ex _ (phF F2) _ _ _ _ _ _ _ _ _ (hG (phF F2) _ _ (Inv_le I1) th)
  rw [hm] at hm'
  cases hm'
  have q3 := Res.le l2 q2
  unfold callF at q3
  have sp : @spD _ (phF F2) X.K n (fxg (LTof X.env.cells (onlyD (frzS js sM).env) MB)) vs H1 Q (WE W σ) := by
    refine ⟨by rw [rp.length]; exact hn, cutP F2 H1, F2.hp, F2, ds, (frzS js sM).dr, recast ph0 (phF F2) st2.enter (.refl _), rp.le l2, ?_⟩
    cases eo : fxg (LTof X.env.cells (onlyD (frzS js sM).env) MB) ds (frzS js sM).dr with
    | bad =>
      rw [eo] at q3
      exact q3
    | exc cc dr' =>
      rw [eo] at q3
      exact fun G HG l stG => q3 G HG l (st2.leave l (recast (phF F2) ph0 stG (Ph.mono _ _ l st2.ph)))
    | ok d dr' =>
      rw [eo] at q3
      exact fun v G HG l stG rv => q3 v G HG l (st2.leave l (recast (phF F2) ph0 stG (Ph.mono _ _ l st2.ph))) rv
  have hl : us.length = ps.length := by rw [← r.length]; exact Fk.len _ _ _ _ sp
  have bd := hb s1 us I1.kIn (by rw [List.append_nil]; exact hl)
  rw [List.append_nil] at bd
  refine wpAny_call (codeAny_mono (Fk.run X.A X.stack s1 H1 ⟨us, []⟩ us vs Q (WE W σ) (hr.mono hk) (Inv_env I1) bd r sp) fun r s' hq => ?_)
  cases r with
  | error e => exact (passAt tk σ) pins H1 s1 e s' I1 hq
  | ok fl =>
    cases fl with
    | ret u => exact I1.after hq
    | next => exact False.elim hq
    | brk => exact False.elim hq
    | cont => exact False.elim hq
end
end Dy
end
section
set_option Elab.async false
set_option linter.all false
set_option maxRecDepth 100000
set_option maxHeartbeats 4000000
/-! a def that makes lambdas; where a lambda stands in the text -/
namespace Dy
open PySem PySem.Spec PyProof.Rows L2 LamX
variable [LawI] [Ph]
def kidsE : Expr → List Expr
  | .Call f args kws _ => f :: args ++ kws.map (·.value)
  | .List es _ => es
  | .Tuple es _ _ => es
  | .Set es _ _ => es
  | .UnaryOp _ a _ => [a]
  | .BoolOp _ vs _ => vs
  | .Compare l _ cs _ => l :: cs
  | .BinOp l _ r _ => [l, r]
  | .IfExp t b e _ => [t, b, e]
  | .Subscript a b _ => [a, b]
  | .Attribute a _ _ => [a]
  | .Dict _ vs _ => vs
  | _ => []
def partsS : Stmt → List Stmt
  | .If _ a b _ => a ++ b
  | .For _ _ a b _ => a ++ b
  | .While _ a b _ => a ++ b
  | .Try a hs b c _ => a ++ (hs.flatMap fun h => match h with | .ExceptHandler _ _ l _ => l) ++ b ++ c
  | _ => []
def exprsS : Stmt → List Expr
  | .Return (some e) _ => [e]
  | .Assign _ e _ => [e]
  | .Expr e _ => [e]
  | .If t _ _ _ => [t]
  | .While t _ _ _ => [t]
  | .For _ it _ _ _ => [it]
  | .Raise (some e) _ _ => [e]
  | _ => []
def navS : List Stmt → List Nat → Option Stmt
  | _, [] => none
  | l, [i] => l[i]?
  | l, i :: r => match l[i]? with
    | some t => navS (partsS t) r
    | none => none
def navE : Expr → List Nat → Option Expr
  | s, [] => some s
  | s, i :: r => match (kidsE s)[i]? with
    | some t => navE t r
    | none => none
/-- the lambda at a path -/
def lamAt (q : Str) (s : List Stmt) (ps : List Nat) (k : Nat) (es : List Nat) : Option LamA := match navS s ps with
  | some t => (match (exprsS t)[k]? with
    | some e => (match navE e es with
      | some (.Lambda p b sc _) => some ⟨q, p, b, sc⟩
      | _ => none)
    | none => none)
  | none => none
theorem makes_nil {X : Cx} {k : Nat} : Makes X k [] := fun _ h => nomatch h
theorem makes_cons {X : Cx} {k : Nat} {id : Nat} {m : M Sl} {r : List (Nat × M Sl)} {la : LamA} (h1 : LawI.lamAst id = some la) (L : LamS X.env.scope la.scope) (hq : la.q = X.env.qual ++ "<lambda>")
    (hb : ∀ (q : Str) (cl : List (Str × Addr)) (pm cv ctv : Value), bindArgs (PySem.W.kla_fn "<lambda>" q la.params la.body la.scope cl pm cv ctv) ⟨[], []⟩ = pure [])
    (hbody : ∀ (A : Around) (outer : List Env) (s : Shared) (H : Hp) (E : XK) (f c' : Addr), RoomG k (A.deeper (lamEnv X la.scope s.heap.objs.size f c')) → DE (lamCx X A outer s H E la.scope f c') (fun c d _ H => E c d H) la.body m) (t : Makes X k r) : Makes X k ((id, m) :: r) := fun p hp => by
  rcases List.mem_cons.mp hp with rfl | hp
  · exact ⟨la, h1, L, hq, hb, hbody⟩
  · exact t p hp
open Classical in
/-- a def that makes lambdas: what it does does not hang on where their cells lie -/
noncomputable def fxC (k n : Nat) (m : List (Str × Addr) → M Fl) : FD := fun ds dr => if h : ∃ o, ∀ cells, fxOf k n (m cells) ds dr = o then h.choose else .bad
theorem fxC_eq {k n : Nat} {m : List (Str × Addr) → M Fl} {ds : List D} {dr : Option Dr} {o : OutF} (h : ∀ cells, fxOf k n (m cells) ds dr = o) : fxC k n m ds dr = o := by
  have h1 : ∃ o, ∀ cells, fxOf k n (m cells) ds dr = o := ⟨o, h⟩
  unfold fxC
  rw [dif_pos h1, ← h1.choose_spec []]
  exact h []
theorem fxC_at {k n : Nat} {m : List (Str × Addr) → M Fl} {ds : List D} {dr : Option Dr} (h : fxC k n m ds dr ≠ .bad) (cells : List (Str × Addr)) : fxOf k n (m cells) ds dr = fxC k n m ds dr := by
  unfold fxC at h ⊢
  by_cases h1 : ∃ o, ∀ cells, fxOf k n (m cells) ds dr = o
  · rw [dif_pos h1]
    exact h1.choose_spec cells
  · rw [dif_neg h1] at h
    exact (h rfl).elim
theorem fn_DC {P : Program} {w : World} {K : PySem.W.Frag} {mg : Str → Option Value} {base : Heap} {x : Str} {params : Arguments} {body : List Stmt} {scope : Scope} {fd : FuncData} {N ps : List Str} {k n : Nat} {m : List (Str × Addr) → M Fl}
    (Fd : L2.FunD K x x params body scope [] [] (He.ga K x) fd) (Sc : FnScope N ps scope) (hN : N.length = ps.length + n)
    (hbody : ∀ (A : Around) (outer : List Env) (s : Shared) (H : Hp) (E : XK), RoomG k (A.deeper (envOfC x scope s.heap.objs.size (He.ga K x) (.ref (He.codeOf K (x, none))))) →
      DSs (cxOf (L2.CX P w) P w K mg base N x scope (He.ga K x) (.ref (He.codeOf K (x, none))) A outer s H E) (fun c d _ H => E c d H) body (m (envOfC x scope s.heap.objs.size (He.ga K x) (.ref (He.codeOf K (x, none)))).cells)) : FnOkG P w K mg base (L2.CX P w) (k + 1) (He.ga K x) fd ps (spD K ps.length (fxC ps.length n m)) := by
  obtain ⟨oc, od, dV, kV, doc, pm, an, cdv, ct, osl, rfl, lk, hcd, _, _⟩ := Fd.ex
  obtain ⟨c, rfl⟩ := He.codeIn_ref hcd
  have ec : He.codeOf K (x, none) = c := He.codeOf_eq (p := (x, none)) lk rfl
  refine fn_ofG lk hcd Sc (fun _ _ _ _ h => h.1) (fun A outer s H vs Q E hr h => ?_)
  rw [← ec] at hr ⊢
  refine ⟨_, hbody A outer s H E hr, body_ok h hN (fun _ _ _ z => z) fun ds dr hl hne => ?_⟩
  rw [← fxC_at hne]
  unfold fxOf
  rw [if_pos hl]
end Dy
end
section
set_option Elab.async false
set_option linter.all false
set_option maxRecDepth 100000
set_option maxHeartbeats 4000000
/-! repr -/
namespace Dy
open PySem PySem.Spec PyProof.Rows L2
variable [LawI] [Ph]
mutual
theorem noDict_plain : ∀ d : D, d.plain = true → d.hasDict = false
  | .none, _ => rfl
  | .bool _, _ => rfl
  | .int _, _ => rfl
  | .str _, _ => rfl
  | .list xs, h => by rw [PyData.hasDict]; exact noDict_plainAll xs (by simpa [PyData.plain] using h)
  | .tuple xs, h => by rw [PyData.hasDict]; exact noDict_plainAll xs (by simpa [PyData.plain] using h)
  | .dict _, h => by simp [PyData.plain] at h
theorem noDict_plainAll : ∀ ds : List D, PyData.plainAll ds = true → PyData.hasDictAll ds = false
  | [], _ => rfl
  | d :: ds, h => by
    have h' : _ ∧ _ := Bool.and_eq_true_iff.mp (show (PyData.plain d && PyData.plainAll ds) = true by simpa [PyData.plainAll] using h)
    rw [PyData.hasDictAll, noDict_plain d h'.1, noDict_plainAll ds h'.2]
    rfl
end
def reprD (x : D) : Option Sl := if okD x = true ∧ x.showable = true ∧ x.shown.length ≤ sizeLine then some (.d (.str x.shown)) else none
section
variable {X : Cx} {W : WX} {P F0 : Hp} {F F' : Fz} {σ : L2.St} {H H' : Hp} {s s1 : S} {Q : VK} {K : PySem.W.Frag} {v : V} {x : D} {pins : List (Addr × Obj)} {sh : Shared} {k : Nat}
theorem c_repr (hr : RoomG k X.A) : C1 X (.builtin "repr") reprD := by
  rintro pins s σ H xs us Q I r ⟨v, rfl, P, F0, F, σ', st, dx, rr, sr, bo, e, q⟩
  unfold reprD at e
  split at e
  · rename_i h
    cases e
    obtain ⟨h1, h2, h3⟩ := h
    obtain ⟨u, rfl, ru⟩ := vals1 r
    obtain ⟨as, rd⟩ := bo.reads I sr.fH (okD.pl h1) ru
    have hd := okD.dep h1
    have hu := hr.r.un
    have fin : ∀ (t : Tok) (tk : Nat), EP X pins σ Q (.str dx.shown t) { s with toks := tk } := fun t tk => ⟨.str dx.shown, H, I.tok tk, ⟨t, rfl⟩, q _ F H (.refl F) sr (.str _)⟩
    have ref : ∀ a : Addr, u = .ref a → wpAny (model X.prog X.w) X.A (call (.builtin "repr") [u]) (EP X pins σ Q) X.xe s := fun a ea => by
      subst ea
      refine repr_of_reads' rd h2 (fun z => by rw [noDict_plain dx (okD.pl h1)] at z; cases z) hr.gd (by omega) (fun _ _ e => e) (fun h' u tk hk => ?_) h3
      exact ⟨.str dx.shown, H, I.kept (t' := tk) hk, ⟨u, rfl⟩, q _ F H (.refl F) sr (.str _)⟩
    cases dx with
    | none =>
      have e := bo.non
      subst e
      obtain rfl : u = Value.none := ru
      exact PySem.P.repr_of_none (fin _ _)
    | bool b =>
      have e := bo.bl
      subst e
      obtain rfl : u = Value.bool b := ru
      refine PySem.P.repr_of_bool ?_
      cases b <;> exact fin _ _
    | int i =>
      have e := bo.int
      subst e
      obtain ⟨t, rfl⟩ := ru
      exact PySem.P.repr_of_int (by simpa [PyData.showable] using h2) (fin _ _)
    | str z =>
      have e := bo.str
      subst e
      obtain ⟨t, rfl⟩ := ru
      exact PySem.P.repr_of_str (fin _ _) h3
    | list ds =>
      obtain ⟨a, vs, rfl, _, _⟩ := bo.list sr.fH
      exact ref a ru
    | tuple ds =>
      obtain ⟨a, vs, rfl, _, _⟩ := bo.tuple sr.fH
      exact ref a ru
    | dict kvs => simp [okD, PyData.plain] at h1
  · cases e
end
end Dy
end
section
set_option Elab.async false
set_option linter.all false
set_option maxRecDepth 100000
set_option maxHeartbeats 4000000
/-! calls by keywords alone -/
namespace Dy
open PySem PySem.Spec PyProof.Rows L2
variable [LawI] [Ph]
def pick {α : Type} (pi : List Nat) (l : List α) : List α := pi.filterMap fun i => l[i]?
section
variable {X : Cx} {W : WX} {P F0 : Hp} {F F' : Fz} {σ : L2.St} {H H' : Hp} {s s1 : S} {Q : VK} {K : PySem.W.Frag} {v : V} {x : D} {pins : List (Addr × Obj)} {sh : Shared}
theorem Vals.pick {vs : List V} {us : List Value} (r : Vals vs us) : ∀ pi : List Nat, Vals (Dy.pick pi vs) (Dy.pick pi us)
  | [] => .nil
  | i :: pi => by
    have ih := Vals.pick r pi
    unfold Dy.pick at ih ⊢
    rw [List.filterMap_cons, List.filterMap_cons]
    cases e : vs[i]? with
    | none =>
      have e2 : us[i]? = none := by
        rw [List.getElem?_eq_none_iff] at e ⊢
        rw [← r.length]
        exact e
      rw [e2]
      exact ih
    | some w =>
      obtain ⟨u, e2, ru⟩ := r.get e
      rw [e2]
      exact .cons ru ih
theorem RpAll.pick {vs : List V} {ds : List D} (r : RpAll K F vs ds) : ∀ pi : List Nat, RpAll K F (Dy.pick pi vs) (Dy.pick pi ds)
  | [] => .nil
  | i :: pi => by
    have ih := RpAll.pick r pi
    unfold Dy.pick at ih ⊢
    rw [List.filterMap_cons, List.filterMap_cons]
    cases e : ds[i]? with
    | none =>
      have e2 : vs[i]? = none := by
        rw [List.getElem?_eq_none_iff] at e ⊢
        rw [r.length]
        exact e
      rw [e2]
      exact ih
    | some w =>
      obtain ⟨u, e2, ru⟩ := r.get e
      rw [e2]
      exact .cons ru ih
/-- a def of the top, called by the keywords ks -/
structure HasK (P : Program) (w : World) (K : PySem.W.Frag) (mg : Str → Option Value) (base : Heap) (x : Str) (ks : List Str) (pi : List Nat) (n k : Nat) (fx : FD) : Prop where
  ex : ∃ f fd ps, FnOkG P w K mg base (L2.CX P w) k f fd ps (spD K n fx) ∧ mg x = some (.ref f) ∧ PySem.W.keepIn K (.ref f) = true ∧
    ∀ (s : Shared) (ws : List Value), K.In s.heap → ws.length = ks.length → BindsTo s fd ⟨[], ks.zip ws⟩ (ps.zip (pick pi ws))
/-- the values of keywords -/
abbrev DK (X : Cx) (W : WX) (kws : List Keyword) (m : M (List D)) : Prop := PK X kws (tDA X.K W m)
theorem PK.weaken {e : List Keyword} {t t' : TA} (h : PK X e t) (i : ∀ σ H Q, t' σ H Q → t σ H Q) : PK X e t' := ⟨fun pos pins s σ H Q I q => h.run pos pins s σ H Q I (i σ H Q q)⟩
theorem dk_nil : DK X W [] nilA := PK.weaken pk_nil fun σ H Q ⟨P, F0, F, s, st, h⟩ => h [] F H (.refl F) st .nil
theorem dk_cons {e : Expr} {nm : Option Str} {kpos : Pos} {kws : List Keyword} {m : M Sl} {ms : M (List D)} (h : DE X W e m) (hs : DK X W kws ms) : DK X W (⟨nm, e, kpos⟩ :: kws) (consA m ms) := by
  refine PK.weaken (pk_cons h hs) ?_
  rintro σ H Q ⟨P, F0, F, s, st, q⟩
  refine tD_mono (tD.bindA st q) ?_
  rintro v H1 ⟨F1, s1, x, l1, st1, rv, q1⟩
  obtain ⟨F2, l2, st2, rp⟩ := rv.freeze st1
  refine tDA_mono (tDA.bindA st2 (ResA.le l2 q1)) ?_
  rintro vs H2 ⟨F3, s3, xs, l3, st3, r3, q3⟩
  exact q3 (v :: vs) F3 H2 (.refl _) st3 (.cons (rp.le l3) r3)
theorem d_callK {k j : Nat} {fx : FD} {n : Nat} {x : Str} {p pos : Pos} {ks : List Str} {pi : List Nat} {kws : List Keyword} {ms : M (List D)} (h : HasK X.prog X.w X.K X.mg X.base x ks pi n k fx) (tk : Takes X W) (hr : RoomG j X.A) (hk : k ≤ j) (ha : DK X W kws ms) (hlen : ∀ s ds s', ms s = .ok ds s' → ds.length = ks.length) (hpi : ∀ l : List V, l.length = ks.length → (pick pi l).length = n)
    (hg : Gl X x := by rfl) (hall : (backToKw pos (keywordEach kws X.env)).all (·.1.isSome) = true := by rfl) (hks : (backToKw pos (keywordEach kws X.env)).filterMap (·.1) = ks := by rfl) (hd : (x == ("__debug__" : Str)) = false := by decide)
    (hpl : ((backTo pos (starEach [] X.env)).any (·.1) || (backToKw pos (keywordEach kws X.env)).any (·.1.isNone)) = false := by rfl) : DE X W (.Call (.Name x p) [] kws pos) (callD fx fun s => (ms s).bind fun ds s => .ok (pick pi ds) s) := by
  obtain ⟨f, fd, ps, Fk, hm, hkp, hb⟩ := h.ex
  refine ⟨fun pins s σ H Q I hh => ?_⟩
  obtain ⟨P, F0, F, sD, st, q⟩ := hh
  refine wpAny_Call_Name_kw (ld_glob I hg hm ?_ hd)
  refine PySem.W.callWith_KW0 (h₀ := X.base) I.ok.mod.kin hkp hall ?_ hpl
  have h2 : tDA X.K W ms σ H fun v H1 => ∃ F1 s1 r, F.le F1 ∧ StRel X.K P F0 F1 σ H1 s1 ∧ RpAll X.K F1 v r ∧ r.length = ks.length ∧ Res X.K W P F0 F1 σ (callF fx (pick pi r) s1) Q := by
    refine ⟨P, F0, F, sD, st, ?_⟩
    unfold callD at q
    dsimp only at q
    cases e1 : ms sD with
    | bad => rw [e1] at q; exact q
    | exc c s1 => rw [e1] at q; exact q
    | ok ds s1 =>
      rw [e1] at q
      intro vs F1 H1 l1 st1 rr
      exact ⟨F1, s1, ds, l1, st1, rr, hlen _ _ _ e1, Res.le l1 q⟩
  refine thn (ha.run pos pins s σ H _ I h2) fun us s2 ⟨vs, H1, I1, r1, F1, s1, ds, l1, st1, rr, hl, q1⟩ => ⟨I1.kIn, ?_⟩
  rw [hks]
  have hvl : vs.length = ks.length := by rw [rr.length, hl]
  have hsp := callF_ok (E := WE W σ) st1 (rr.pick pi) (hpi vs hvl) (fun c H z => z) q1
  refine wpAny_call (codeAny_mono (Fk.run X.A X.stack s2 H1 ⟨[], ks.zip us⟩ (pick pi us) (pick pi vs) Q (WE W σ) (hr.mono hk) I1.env0 (hb s2 us I1.kIn (by rw [← r1.length]; exact hvl)) (Vals.pick r1 pi) hsp) fun r s' hq => ?_)
  cases r with
  | error e => exact (passAt tk σ) pins H1 s2 e s' I1 hq
  | ok fl =>
    cases fl with
    | ret u => exact I1.after hq
    | next => exact False.elim hq
    | brk => exact False.elim hq
    | cont => exact False.elim hq
end
theorem has_K {P : Program} {w : World} {K : PySem.W.Frag} {mg : Str → Option Value} {base : Heap} {x : Str} {params : Arguments} {body : List Stmt} {scope : Scope} {f : Addr} {fd : FuncData} {ps ks : List Str} {k n : Nat} {fx : FD} {pi : List Nat}
    (Fd : L2.FunD K x x params body scope [] [] f fd) (g : mg x = some (.ref f)) (hok : FnOkG P w K mg base (L2.CX P w) k f fd ps (spD K n fx))
    (hb : ∀ (kV doc pm : Value) (an : Option Addr) (cdv ct : Value) (ws : List Value), ws.length = ks.length → bindArgs (PySem.W.fnOf x x params body scope .none kV doc pm an cdv ct) ⟨[], ks.zip ws⟩ = pure (ps.zip (pick pi ws))) : HasK P w K mg base x ks pi n k fx := by
  refine ⟨f, fd, ps, hok, g, Fd.kp, fun s ws hin hl => ?_⟩
  obtain ⟨oc, od, dV, kV, doc, pm, an, cdv, ct, osl, rfl, lk, hcd, hD, hK⟩ := Fd.ex
  rcases hD with ⟨_, rfl⟩ | ⟨e, _⟩
  · exact BindsTo.of_eq (hb _ _ _ _ _ _ ws hl)
  · exact absurd rfl e
end Dy
end
section
set_option Elab.async false
set_option linter.all false
set_option maxRecDepth 100000
set_option maxHeartbeats 4000000
/-! isinstance(x, C): None or an exception that was kept -/
namespace Dy
open PySem PySem.Spec PyProof.Rows L2
variable [LawI] [Ph]
def isxD (sub : Str → Option Bool) : D → Option Sl
  | .none => some (.d (.bool false))
  | .dict [(.none, .str c)] => (sub c).map fun b => .d (.bool b)
  | _ => none
/-- what is asked of the class C -/
structure IsX (K : PySem.W.Frag) (C : Str) (sub : Str → Option Bool) : Prop where
  non : PySem.W.kitOne K (.type "NoneType") (.ref (He.ga K C)) = some false
  own : ∀ c b, sub c = some b → PySem.W.kitOne K (.ref (He.ga K c)) (.ref (He.ga K C)) = some b ∧ ExcC K (He.ga K c)
section
variable {X : Cx} {W : WX} {a : Expr} {oa : Opd} {P F0 : Hp} {F F' : Fz} {σ : L2.St} {H H' : Hp} {s s1 : S} {Q : VK} {K : PySem.W.Frag} {v : V} {x : D} {pins : List (Addr × Obj)} {sh : Shared}
theorem exn_inv {c : Str} (h : Rp K F v (.dict [(.none, .str c)])) : ∃ a, v = .ref a ∧ F.hp a = some (ExD (.ref (He.ga K c)) none a) := by
  generalize e : (PyData.dict [(.none, .str c)]) = d at h
  cases h with
  | dic h r =>
    injection e with e
    subst e
    generalize eL : [(PyData.none, PyData.str c)] = l at r
    cases r with
    | nil => cases eL
    | cons _ _ =>
      rename_i k _ _ _ _ _ _
      injection eL with e1 _
      injection e1 with e2 _
      cases k <;> cases e2
  | exn h =>
    injection e with e
    injection e with e1 _
    injection e1 with _ e2
    injection e2 with e2
    subst e2
    exact ⟨_, rfl, h⟩
  | lam r => injection e with e; injection e with e1 _; injection e1 with _ e2; cases e2
  | tok h => injection e with e; injection e with e1 _; injection e1 with _ e2; cases e2
  | dit h r => injection e with e; injection e with e1 _; injection e1 with e2 _; cases e2
  | _ => cases e
theorem obd_exn {o : HO} {c : Str} (h : ObD K F o (.dict [(.none, .str c)])) : False := by
  generalize e : (PyData.dict [(.none, .str c)]) = d at h
  cases h with
  | lst r => cases e
  | dic r =>
    injection e with e
    subst e
    generalize eL : [(PyData.none, PyData.str c)] = l at r
    cases r with
    | nil => cases eL
    | cons _ _ =>
      rename_i k _ _ _ _ _ _
      injection eL with e1 _
      injection e1 with e2 _
      cases k <;> cases e2
  | dit r => injection e with e; injection e with e1 _; injection e1 with e2 _; cases e2
theorem d_isX {C : Str} {sub : Str → Option Bool} {p q pos : Pos} (hi : IsX X.K C sub) (hg : Gl X "isinstance") (hm : X.mg "isinstance" = none) (hg2 : Gl X C) (hm2 : X.mg C = some (.ref (He.ga X.K C))) (ha : OO X W a oa) (hd : (C == ("__debug__" : Str)) = false := by decide)
    (he : starEach [a, .Name C q] X.env = (false, eval a X.env) :: starEach [.Name C q] X.env := by rfl) (he2 : starEach [.Name C q] X.env = (false, eval (.Name C q) X.env) :: starEach [] X.env := by rfl) (hpl : (backTo pos (starEach [.Name C q] X.env)).any (·.1) = false := by rfl) :
    DE X W (.Call (.Name "isinstance" p) [a, .Name C q] [] pos) (opd1 oa (lift1 (isxD sub))) := by
  have hc : CallR X (.builtin "isinstance") (fun vs H Q => ∃ v, vs = [v, .ref (He.ga X.K C)] ∧ r1D X.K (isxD sub) v H Q) := by
    rintro pins s σ H xs us Q I r ⟨v, rfl, P, F0, F, σ', st, dx, rr, sr, bo, e, q⟩
    unfold isxD at e
    split at e
    · cases e
      have ev := bo.non
      subst ev
      exact call_isi pins s σ H _ us Q I r ⟨.non, .ref (He.ga X.K C), _, _, false, rfl, .own _, .base .non, hi.non, q _ F H (.refl F) sr (.bl _)⟩
    · rename_i c
      cases es : sub c with
      | none => rw [es] at e; cases e
      | some b =>
        rw [es] at e
        cases e
        obtain ⟨k1, k2⟩ := hi.own c b es
        rcases bo with bo | ⟨_, _, _, _, _, bo⟩
        · obtain ⟨a, rfl, hF⟩ := exn_inv bo
          have hH : H a = some (ExD (.ref (He.ga X.K c)) none a) := by
            rcases sr.fH a _ hF with z | ⟨z, od, y⟩
            · exact z
            · exact False.elim z.2
          exact call_isX pins s σ H _ us Q I r ⟨a, _, .ref (He.ga X.K C), .ref (He.ga X.K C), b, rfl, hH, k2, fun u ru => ru, k1, q _ F H (.refl F) sr (.bl _)⟩
        · exact (obd_exn bo).elim
    · cases e
  refine PE.weaken (pe_callB hc hg hm (by decide +kernel) (pa_cons ha.pe (pa_cons (pe_glob (v := .ref (He.ga X.K C)) hg2 hm2 rfl hd) pa_nil he2) he) (by decide) (by decide) he hpl) ?_
  rintro σ H Q ⟨P, F0, F, s, st, q⟩
  refine tOpd_mono (opd1_lift st q) ?_
  rintro v H1 z
  exact ⟨v, rfl, z⟩
end
end Dy
end
section
set_option Elab.async false
set_option linter.all false
set_option maxRecDepth 100000
set_option maxHeartbeats 4000000
/-! name.pop() -/
namespace Dy
open PySem PySem.Spec PyProof.Rows L2
variable [LawI] [Ph]
section
variable {X : Cx} {W : WX} {a : Expr} {oa : Opd} {P F0 : Hp} {F F' : Fz} {σ : L2.St} {H H' : Hp} {s s1 : S} {Q : VK} {K : PySem.W.Frag} {v : V} {x : D} {pins : List (Addr × Obj)} {sh : Shared}
theorem RpAll.dropLast : ∀ {vs : List V} {ds : List D}, RpAll K F vs ds → RpAll K F vs.dropLast ds.dropLast
  | _, _, .nil => .nil
  | _, _, .cons h .nil => .nil
  | _, _, .cons h (.cons h2 r) => by
    rw [List.dropLast_cons₂, List.dropLast_cons₂]
    exact .cons h (RpAll.dropLast (.cons h2 r))
def pop0D (i : Nat) : M Sl := fun s => ownL s i fun xs => match xs[xs.length - 1]? with
  | some z => .ok (.d z) { s with env := s.env.set i (.o (.list xs.dropLast)) }
  | none => .bad
theorem d_pop0 {o : Expr} {i : Nat} {apos cpos : Pos} (ho : PE X o (tVar i)) (hbase : attributeBase o "pop" X.env (eval o X.env) = eval o X.env := by rfl) (hline : (apos.endLine == cpos.line) = true := by rfl) :
    DE X W (.Call (.Attribute o "pop" apos) [] [] cpos) (pop0D i) := by
  refine PE.weaken (pe_bm0 PySem.F.plainAttrs_list PySem.F.slot_list_pop PySem.F.type_list_pop mt_pop ho hbase hline) ?_
  rintro σ H Q ⟨P, F0, F, s, st, q⟩
  obtain ⟨xs, a, vs, e1, e2, e3, r, q⟩ := ownL_ok st q
  refine ⟨_, e2, .inl ⟨rfl, vs, .inl (.inl e3)⟩, ?_⟩
  split at q
  · rename_i z ez
    obtain ⟨w, e5, rp⟩ := r.get ez
    refine ⟨a, vs, w, rfl, rfl, e3, by rw [r.length]; exact e5, ?_⟩
    exact q w F _ (.refl _) (st.write e1 (getD_of e2) (.lst r.dropLast)) rp
  · exact q.elim
end
end Dy
end
section
set_option Elab.async false
set_option linter.all false
set_option maxRecDepth 100000
set_option maxHeartbeats 4000000
/-! name[k] = v: a list or a dict of one's own -/
namespace Dy
open PySem PySem.Spec PyProof.Rows L2
variable [LawI] [Ph]
section
variable {X : Cx} {W : WX} {a : Expr} {oa : Opd} {P F0 : Hp} {F F' : Fz} {σ : L2.St} {H H' : Hp} {s s1 : S} {Q : VK} {K : PySem.W.Frag} {v : V} {x : D} {pins : List (Addr × Obj)} {sh : Shared} {T : Ends}
theorem RpAll.set : ∀ {vs : List V} {ds : List D} (j : Nat) {v : V} {d : D}, RpAll K F vs ds → Rp K F v d → RpAll K F (vs.set j v) (ds.set j d)
  | _, _, _, _, _, .nil, _ => .nil
  | _, _, 0, _, _, .cons _ r, rp => .cons rp r
  | _, _, j + 1, _, _, .cons h r, rp => .cons h (RpAll.set j r rp)
def ownLS (s : S) (i : Nat) (f : List D → Out Fl) : Out Fl := match s.env[i]? with
  | some (.o (.list xs)) => f xs
  | _ => .bad
theorem ownLS_ok {i : Nat} {f : List D → Out Fl} (st : StRel K P F0 F σ H s) (h : ResS K W P F0 F (ownLS s i f) T) : ∃ xs a vs, s.env[i]? = some (.o (.list xs)) ∧ σ[i]? = some (some (.ref a)) ∧ H a = some (.lst vs) ∧ RpAll K F vs xs ∧ ResS K W P F0 F (f xs) T := by
  unfold ownLS at h
  split at h
  · rename_i xs e
    obtain ⟨a, e1, ow⟩ := st.slot i _ e
    obtain ⟨o, e2, r⟩ := ow.ob
    cases r with
    | lst r => exact ⟨xs, a, _, e, getD_some e1, e2, r, h⟩
  · exact h.elim
def lputS (i : Nat) (mk mv : M Sl) : M Fl := fun s => (mv s).bind fun x s => ownLS s i fun _ => (mk s).bind fun y s => ownLS s i fun xs => match y.val with
  | .int k => match ixN xs.length k with
    | some j => .ok .nx { s with env := s.env.set i (.o (.list (xs.set j x.val))) }
    | none => .bad
  | _ => .bad
theorem ds_lput {o k value : Expr} {i : Nat} {mk mv : M Sl} {pos pos' : Pos} (ho : PE X o (tVar i)) (hk : DE X W k mk) (hv : DE X W value mv)
    (hps : ∀ {to ti te : TE}, PE X o to → PE X k ti → PE X value te → PS X (.Assign [.Subscript o k pos'] value pos) (tAsg te (gSub to ti rSetL)) := by intro to ti te h1 h2 h3; exact ps_asg h3 (pg_sub h1 h2 set_list (by intro _; rfl)) rfl rfl rfl) :
    DS X W (.Assign [.Subscript o k pos'] value pos) (lputS i mk mv) := by
  refine PS.weaken (hps ho hk hv) ?_
  rintro T σ H ⟨P, F0, F, s, st, q⟩
  refine tD_mono (tD.bindS st q) ?_
  rintro v H1 ⟨F1, s1, x, l1, st1, rv, q1⟩
  obtain ⟨F2, l2, st2, rp⟩ := rv.freeze st1
  obtain ⟨xs, a, vs, e1, e2, e3, r, q2⟩ := ownLS_ok st2 (ResS.le l2 q1)
  refine ⟨_, e2, ?_⟩
  refine tD_mono (tD.bindS st2 q2) ?_
  rintro u H2 ⟨F3, s3, y, l3, st3, rv3, q3⟩
  obtain ⟨xs2, a2, vs2, k1, k2, k3, r2, q4⟩ := ownLS_ok st3 q3
  rw [e2] at k2
  cases k2
  split at q4
  · rename_i kk ek
    split at q4
    · rename_i j ej
      have ev := rv3.bor
      rw [ek] at ev
      refine ⟨a, vs2, kk, j, rfl, ev.int, k3, by rw [r2.length]; exact ej, ?_⟩
      exact q4 σ F3 _ (.refl _) (st3.write k1 (getD_of e2) (.lst (r2.set j (rp.le l3))))
    · exact q4.elim
  · exact q4.elim
def isL (s : S) (i : Nat) : Bool := match s.env[i]? with
  | some (.o (.list _)) => true
  | _ => false
/-- list or dict: what it is when the value is there -/
def putS (i : Nat) (mk mv : M Sl) : M Fl := fun s => if isL s i = true then lputS i mk mv s else dputS i mk mv s
theorem ds_put {o k value : Expr} {i : Nat} {mk mv : M Sl} {pos pos' : Pos} (hu : X.A.units + 1 < cLine) (ho : PE X o (tVar i)) (hk : DE X W k mk) (hv : DE X W value mv) (hs : swapsWith value (some (.Subscript o k pos')) pos.line X.env = pure false := by rfl)
    (hps : ∀ {to ti te : TE}, PE X o to → PE X k ti → PE X value te → PS X (.Assign [.Subscript o k pos'] value pos) (tAsg te (gSub to ti rSetL)) := by intro to ti te h1 h2 h3; exact ps_asg h3 (pg_sub h1 h2 set_list (by intro _; rfl)) rfl rfl rfl) :
    DS X W (.Assign [.Subscript o k pos'] value pos) (putS i mk mv) := by
  refine PS.weaken (PS.or (ds_lput (W := W) ho hk hv hps) (ds_dput (W := W) hu ho hk hv hs)) ?_
  rintro T σ H ⟨P, F0, F, s, st, q⟩
  unfold putS at q
  split at q
  · exact .inl ⟨P, F0, F, s, st, q⟩
  · exact .inr ⟨P, F0, F, s, st, q⟩
end
end Dy
end
section
set_option Elab.async false
set_option linter.all false
set_option maxRecDepth 100000
set_option maxHeartbeats 4000000
/-! two readings of one text: which, by the data -/
namespace Dy
open PySem PySem.Spec PyProof.Rows L2
variable [LawI] [Ph]
def pickM {α : Type} (p : S → Bool) (m n : M α) : M α := fun s => if p s = true then m s else n s
def isDct (i : Nat) (s : S) : Bool := match s.env[i]? with
  | some (.o (.dict _)) => true
  | some (.d (.dict _)) => true
  | _ => false
/-- what m gives is a dict -/
def gvDct (m : M Sl) (s : S) : Bool := match m s with
  | .ok r _ => match r.val with
    | .dict _ => true
    | _ => false
  | _ => false
section
variable {X : Cx} {W : WX}
theorem PT.or {e : Expr} {t u : TT} (h1 : PT X e t) (h2 : PT X e u) : PT X e (fun σ H Q => t σ H Q ∨ u σ H Q) := ⟨fun pins s σ H Q I q => q.elim (h1.run pins s σ H Q I) (h2.run pins s σ H Q I)⟩
theorem d_pick {e : Expr} {m n : M Sl} (p : S → Bool) (h1 : DE X W e m) (h2 : DE X W e n) : DE X W e (pickM p m n) := by
  refine PE.weaken (PE.or h1 h2) ?_
  rintro σ H Q ⟨P, F0, F, s, st, q⟩
  unfold pickM at q
  split at q
  · exact .inl ⟨P, F0, F, s, st, q⟩
  · exact .inr ⟨P, F0, F, s, st, q⟩
theorem dt_pick {e : Expr} {m n : M Bool} (p : S → Bool) (h1 : DT X W e m) (h2 : DT X W e n) : DT X W e (pickM p m n) := by
  refine PT.weaken (PT.or h1 h2) ?_
  rintro σ H Q ⟨P, F0, F, s, st, q⟩
  unfold pickM at q
  split at q
  · exact .inl ⟨P, F0, F, s, st, q⟩
  · exact .inr ⟨P, F0, F, s, st, q⟩
theorem ds_pick {e : Stmt} {m n : M Fl} (p : S → Bool) (h1 : DS X W e m) (h2 : DS X W e n) : DS X W e (pickM p m n) := by
  refine PS.weaken (PS.or h1 h2) ?_
  rintro T σ H ⟨P, F0, F, s, st, q⟩
  unfold pickM at q
  split at q
  · exact .inl ⟨P, F0, F, s, st, q⟩
  · exact .inr ⟨P, F0, F, s, st, q⟩
end
end Dy
end
section
set_option Elab.async false
set_option linter.all false
set_option maxRecDepth 100000
set_option maxHeartbeats 4000000
/-! d.get(k, x) -/
namespace Dy
open PySem PySem.Spec PyProof.Rows L2
variable [LawI] [Ph]
section
variable {X : Cx} {W : WX} {P F0 : Hp} {F F' : Fz} {σ : L2.St} {H H' : Hp} {s s1 : S} {Q : VK} {K : PySem.W.Frag} {v : V} {x : D}
def dctS (s : S) (i : Nat) (f : List (D × D) → Out Sl) : Out Sl := pkS s i fun x => match x with
  | .dict kvs => if notTok kvs = true then f kvs else .bad
  | _ => .bad
theorem dctS_ok {i : Nat} {f : List (D × D) → Out Sl} (st : StRel K P F0 F σ H s) (h : Res K W P F0 F σ (dctS s i f) Q) : ∃ a ks kvs, σ[i]? = some (some (.ref a)) ∧ Rd H a (.dK ks) ∧ RpKV K F ks kvs ∧ Res K W P F0 F σ (f kvs) Q := by
  obtain ⟨v, x, h1, h2, h3⟩ := pkS_ok st h
  split at h3
  · rename_i kvs
    split at h3
    · rename_i hn
      obtain ⟨a, ks, rfl, r1, r2⟩ := h2.dict st.fH hn
      exact ⟨a, ks, kvs, h1, r1, r2, h3⟩
    · exact h3.elim
  · exact h3.elim
def get2D (i : Nat) (mk mz : M Sl) : M Sl := fun s => dctS s i fun _ => (mk s).bind fun y s => (mz s).bind fun z s => dctS s i fun kvs => match keyOf y.val with
  | some k => .ok (.d ((valD kvs k).getD z.val)) s
  | none => .bad
theorem d_get2 {o e f : Expr} {i : Nat} {mk mz : M Sl} {apos cpos : Pos} (hu : X.A.units + 1 < cLine) (ho : PE X o (tVar i)) (hk : DE X W e mk) (hz : DE X W f mz) (m : M2 X o "get" apos e f cpos) : DE X W (.Call (.Attribute o "get" apos) [e, f] [] cpos) (get2D i mk mz) := by
  refine PE.weaken (pe_dget2 hu ho hk hz m) ?_
  rintro σ H Q ⟨P, F0, F, s, st, q⟩
  obtain ⟨a, ks, kvs, e1, e2, e3, q⟩ := dctS_ok st q
  refine ⟨_, e1, a, rfl, isD_of e2, ?_⟩
  refine tD_mono (tD.bind st q) ?_
  rintro u H1 ⟨F1, s1, y, l1, st1, rv, q1⟩
  obtain ⟨F2, l2, st2, rp⟩ := rv.freeze st1
  refine tD_mono (tD.bind st2 (Res.le l2 q1)) ?_
  rintro w H2 ⟨F3, s3, z, l3, st3, rv3, q3⟩
  obtain ⟨F4, l4, st4, rp4⟩ := rv3.freeze st3
  obtain ⟨a2, ks2, kvs2, k1, k2, k3, q4⟩ := dctS_ok st4 (Res.le l4 q3)
  rw [e1] at k1
  cases k1
  split at q4
  · rename_i kk ek
    refine ⟨valV ks2 kk, .inl ⟨ks2, kk, k2, Bor.key (H := H2) (.inl rp) ek, rfl⟩, ?_⟩
    have fnd := k3.find (k := kk)
    cases ev : valD kvs2 kk with
    | none =>
      rw [fnd.2 ev]
      rw [ev] at q4
      exact q4 w F4 H2 (.refl _) st4 rp4
    | some d =>
      obtain ⟨w2, e5, r5⟩ := fnd.1 d ev
      rw [e5]
      rw [ev] at q4
      exact q4 w2 F4 H2 (.refl _) st4 r5
  · exact q4.elim
where
  isD_of {H : Hp} {a : Addr} {ks : List (Key × V)} (h : Rd H a (.dK ks)) : IsD H a := .inl ⟨_, h⟩
end
end Dy
end
section
set_option Elab.async false
set_option linter.all false
set_option maxRecDepth 100000
set_option maxHeartbeats 4000000
/-! x[::-1] of lists and tuples -/
namespace HT
open PySem PyProof.Rows
section
variable {prog : Program} {w : World} {A : Around} {E : Value → Shared → Prop} {s : Shared}
theorem back_places (n : Nat) : Builtin.Slice.sliceAdjust none none (-1) (n : Int) = ((n : Int) - 1, -1) ∧ Builtin.Slice.slicePlaces ((n : Int) - 1) (-1) (-1) = n := by
  constructor
  · unfold Builtin.Slice.sliceAdjust
    simp
  · unfold Builtin.Slice.slicePlaces
    have h : ¬ ((-1 : Int) > 0) := by omega
    simp only [h, if_false, Int.neg_neg, Int.ediv_one]
    split <;> omega
theorem back_applied {sl : Addr} {vl vu vs : Value} {n : Nat} {Q : Int × Int × Nat → Shared → Prop} (hs : s.heap.IsSliceOf sl vl vu vs) (pl : IsPart vl none) (pu : IsPart vu none) (ps : IsPart vs (some (-1)))
    (h : Q ((n : Int) - 1, -1, n) s) : wpAny (model prog w) A (Builtin.Slice.sliceApplied (.ref sl) (pure (n : Int))) Q E s := by
  obtain ⟨o, ho, hc, hd⟩ := id hs
  unfold Builtin.Slice.sliceApplied Builtin.Slice.sliceFields
  refine wpAny_bind (wpAny_bind (wpAny_field ho hd (x := vl) rfl (wpAny_bind (wpAny_field ho hd (x := vu) rfl (wpAny_bind (wpAny_field ho hd (x := vs) rfl (wpAny_pure ?_)))))))
  refine wpAny_bind (slicePart_ ps ?_)
  show wpAny _ _ (if ((-1 : Int) == 0) = true then _ else _) _ _ s
  rw [if_neg (by decide)]
  refine wpAny_bind (slicePart_ pl (wpAny_bind (slicePart_ pu (wpAny_bind (wpAny_pure ?_)))))
  show wpAny _ _ (match Builtin.Slice.sliceAdjust none none (-1) (n : Int) with | (lo, hi) => pure (lo, (-1 : Int), Builtin.Slice.slicePlaces lo hi (-1))) _ _ s
  rw [(back_places n).1]
  show wpAny _ _ (pure ((n : Int) - 1, (-1 : Int), Builtin.Slice.slicePlaces ((n : Int) - 1) (-1) (-1))) _ _ s
  rw [(back_places n).2]
  exact wpAny_pure h
theorem fm_congr {α β : Type} {f g : α → Option β} : ∀ {l : List α}, (∀ a ∈ l, f a = g a) → l.filterMap f = l.filterMap g
  | [], _ => rfl
  | a :: l, h => by rw [List.filterMap_cons, List.filterMap_cons, h a (.head _), fm_congr fun b hb => h b (.tail _ hb)]
theorem back_pick (xs : Array Value) : ((List.range xs.size).filterMap fun (m : Nat) => xs[(((xs.size : Int) - 1) + (m : Int) * (-1)).toNat]?).toArray = xs.toList.reverse.toArray := by
  congr 1
  obtain ⟨l⟩ := xs
  simp only [List.size_toArray, List.getElem?_toArray]
  apply List.ext_getElem?
  intro i
  have e : (List.range l.length).filterMap (fun (m : Nat) => l[(((l.length : Int) - 1) + (m : Int) * (-1)).toNat]?) = (List.range l.length).filterMap (fun m => l.reverse[m]?) := by
    apply fm_congr
    intro m hm
    have hm := List.mem_range.mp hm
    rw [List.getElem?_reverse hm]
    congr 1
    omega
  rw [e]
  have e2 : ∀ (l : List Value), (List.range l.length).filterMap (fun m => l[m]?) = l := by
    intro l
    induction l with
    | nil => rfl
    | cons a l ih =>
      rw [List.length_cons, List.range_succ_eq_map, List.filterMap_cons, List.filterMap_map]
      simp only [List.getElem?_cons_zero]
      congr 1
  have e3 := e2 l.reverse
  rw [List.length_reverse] at e3
  rw [e3]
theorem getItem_tuple_back {t sl : Addr} {items : Array Value} {vl vu vs : Value} {Q : Value → Shared → Prop} (ht : IsTup s.heap t items) (hs : s.heap.IsSliceOf sl vl vu vs) (pl : IsPart vl none) (pu : IsPart vu none) (ps : IsPart vs (some (-1)))
    (h : Q (.ref s.heap.objs.size) { s with heap := s.heap.push { cls := .type "tuple", data := .seq items.toList.reverse.toArray } })
    (hsz : items.size ≤ sizeLine) : wpAny (model prog w) A (getItem (.ref t) (.ref sl)) Q E s := by
  have fits : sizeOk (.seq items.toList.reverse.toArray) := by
    show items.toList.reverse.toArray.size ≤ sizeLine
    rw [List.size_toArray, List.length_reverse, Array.length_toList]
    exact hsz
  obtain ⟨o, ho, hc, hd⟩ := id hs
  have hT : s.TypeIs (.ref sl) "slice" := ⟨o, ho, hc⟩
  unfold getItem
  try with_reducible refine wpAny_holding ?_
  first | refine wpAny_bind (wpAny_pure ?_) | skip
  refine wpAny_bind (wpAny_sequenceKey ht.typeIs (by decide) ?_)
  refine wpAny_bind (wpAny_callSpecial?_slot (name := Str.ofString "__getitem__") ht.typeIs PyProof.Rows.slot_tuple_getitem (wpAny_call_entry PyProof.Rows.slot_tuple_getitem ht.typeIs entry_tuple_getitem ?_ (args_tuple_getitem _ _)))
  show wpAny _ _ (Builtin.Tuple.tupleItemsOf (.ref t) >>= _) _ _ s
  refine wpAny_bind (tupleItemsOf_ ht (wpAny_bind (wpAny_typeOf hT ?_)))
  rw [if_pos (by decide)]
  refine wpAny_bind (back_applied hs pl pu ps ?_)
  show wpAny _ _ (if (((items.size : Int) - 1) == 0 && (-1 : Int) == 1 && items.size == items.size) = true then _ else _) _ _ s
  rw [if_neg (by simp), back_pick]
  first
    | exact wpAny_bind (m := Builtin.Tuple.tupleExact _) (wpAny_newObj_type (wpAny_pure ⟨_, rfl, wpAny_pure h⟩) fits)
    | exact wpAny_bind (m := Builtin.Tuple.tupleExact _) (wpAny_newObj_type (wpAny_bind (wpAny_pure (wpAny_pure ⟨_, rfl, wpAny_pure h⟩))) fits)
    | exact wpAny_bind (wpAny_bind (m := Builtin.Tuple.tupleExact _) (wpAny_newObj_type (wpAny_pure (wpAny_pure ⟨_, rfl, wpAny_pure h⟩)) fits))
    | exact wpAny_bind (wpAny_bind (m := Builtin.Tuple.tupleExact _) (wpAny_newObj_type (wpAny_pure ⟨_, rfl, wpAny_pure h⟩) fits))
end
end HT
namespace Dy
open PySem PySem.Spec PyProof.Rows L2
variable [LawI] [Ph]
def revD : D → Option Sl
  | .list xs => some (.o (.list xs.reverse))
  | .tuple xs => some (.d (.tuple xs.reverse))
  | _ => none
section
variable {X : Cx} {W : WX} {a b : Expr} {oa ob : Opd} {P F0 : Hp} {F F' : Fz} {σ : L2.St} {H H' : Hp} {s s1 : S} {Q : VK} {K : PySem.W.Frag} {v : V} {x : D} {pins : List (Addr × Obj)} {sh : Shared} {T : Ends}
theorem pe_back {e : Expr} {te : TE} {k : Nat} {p1 p2 p3 pos : Pos} (he : PE X e te) : PE X (.Subscript e (.Slice none none (some (.UnaryOp .USub (.Constant (.int 1) k p1) p2)) p3) pos)
    (fun σ H Q => te σ H fun x H1 => ∃ a xs, x = .ref a ∧ ((SqL X.K H1 a xs ∧ ∀ p, H1 p = none → Q (.ref p) (upd H1 p (.lst xs.reverse))) ∨ (SqT X.K H1 a xs ∧ ∀ p, H1 p = none → Q (.ref p) (upd H1 p (.tup xs.reverse))))) := by
  refine ⟨fun pins s σ H Q I h => ?_⟩
  refine Subscript_ (thn (he.run pins s σ H _ I h) fun v s1 ⟨x, H1, I1, r1, a, xs, ex, q⟩ => ?_)
  subst ex
  cases r1
  have step : PO X (some (.UnaryOp .USub (.Constant (.int 1) k p1) p2)) (tPart (tUn (rU fun i => .int (-i)) (tC (.int 1)))) := po_some (pe_un un_neg pe_int)
  refine wpAny_Slice (thn (po_none.run pins s1 σ H1 (fun o H2 => o = none ∧ H2 = H1) I1 ⟨rfl, rfl⟩) fun vl s2 ⟨l, H2, I2, pl, e1, e2⟩ => thn (po_none.run pins s2 σ H2 (fun o H3 => o = none ∧ H3 = H2) I2 ⟨rfl, rfl⟩) fun vu s3 ⟨u, H3, I3, pu, e3, e4⟩ => ?_)
  subst e1 e2 e3 e4
  refine thn (step.run pins s3 σ H3 (fun o H4 => o = some (-1) ∧ H4 = H3) I3 ⟨1, rfl, -1, rfl, rfl, rfl⟩) fun vs s4 ⟨o, H4, I4, ps, e5, e6⟩ => ?_
  subst e5 e6
  have I5 : Inv X pins σ H4 { s4 with heap := s4.heap.push { cls := .type "slice", data := .fields #[vl, vu, vs] } } := I4.kept (t' := s4.toks) fun b ob q => Heap.get?_push_of_some _ q
  show wpAny (model X.prog X.w) X.A (subscriptTail e (.Slice none none (some (.UnaryOp .USub (.Constant (.int 1) k p1) p2)) p3) (.ref a) (.ref s4.heap.objs.size)) (EP X pins σ Q) X.xe { s4 with heap := s4.heap.push { cls := .type "slice", data := .fields #[vl, vu, vs] } }
  rcases q with ⟨hx, q⟩ | ⟨hx, q⟩
  · obtain ⟨its, r, ht, hz⟩ := I5.list hx
    have hl := r.length
    refine tail_any (ops := [.ref a, .ref s4.heap.objs.size]) ht.isList.typeIs (PySem.slot_list_getitem.lookup) (wpAny_getItem_list_slice ht.isList (Heap.IsSliceOf.new _ vl vu vs) pl pu ps (by decide) ?_ (by rw [List.size_toArray]; omega)) (by with_unfolding_all rfl)
    rw [PySem.W.krv_pick]
    exact ⟨.ref _, _, I5.laid (t' := s4.toks) (o := .lst xs.reverse) (fun b ob q => Heap.get?_push_of_some _ q) (Nat.le_refl _) ⟨by rw [List.length_reverse]; exact hz, _, 0, r.reverse, Heap.get?_push_size _ rfl⟩, rfl, q _ (I5.hok.fresh (Nat.le_refl _))⟩
  · obtain ⟨its, r, ht, hz⟩ := I5.tuple hx
    have hl := r.length
    refine tail_any (ops := [.ref a, .ref s4.heap.objs.size]) ht.typeIs (PyProof.Rows.slot_tuple_getitem.lookup) (HT.getItem_tuple_back ht (Heap.IsSliceOf.new _ vl vu vs) pl pu ps ?_ (by rw [List.size_toArray]; omega)) (by with_unfolding_all rfl)
    have new := Heap.get?_push_size (h := s4.heap.push { cls := .type "slice", data := .fields #[vl, vu, vs] }) (o := { cls := .type "tuple", data := .seq its.toArray.toList.reverse.toArray }) rfl
    exact ⟨.ref _, _, I5.laid (t' := s4.toks) (o := .tup xs.reverse) (fun b ob q => Heap.get?_push_of_some _ q) (Nat.le_refl _) ⟨by rw [List.length_reverse]; exact hz, _, r.reverse, ⟨_, new, rfl, 0, rfl⟩⟩, rfl, q _ (I5.hok.fresh (Nat.le_refl _))⟩
theorem d_back {k : Nat} {p1 p2 p3 pos : Pos} (ha : OO X W a oa) : DE X W (.Subscript a (.Slice none none (some (.UnaryOp .USub (.Constant (.int 1) k p1) p2)) p3) pos) (opd1 oa (lift1 revD)) := by
  refine PE.weaken (pe_back ha.pe) ?_
  rintro σ H Q ⟨P, F0, F, s, st, h⟩
  refine tOpd_mono (opd1_ok st h) ?_
  rintro v H1 ⟨F1, s1, x, l, st1, b1, q⟩
  unfold lift1 revD at q
  split at q
  · rename_i r e
    split at e
    · cases e
      obtain ⟨a, xs, rfl, h1, h2⟩ := b1.list st1.fH
      refine ⟨a, xs, rfl, .inl ⟨.inl h1, fun p hp => ?_⟩⟩
      obtain ⟨st2, rv⟩ := st1.alloc_o hp (.lst h2.reverse)
      exact Res.ok q st2 rv
    · cases e
      obtain ⟨a, xs, rfl, h1, h2⟩ := b1.tuple st1.fH
      refine ⟨a, xs, rfl, .inr ⟨h1, fun p hp => ?_⟩⟩
      obtain ⟨l2, st2⟩ := st1.alloc_d (o := .tup xs.reverse) hp
      exact q (.ref p) _ _ l2 st2 (.tup (.inl (.inl Fz.put_same)) (h2.reverse.le l2))
    · cases e
  · exact q.elim
end
end Dy
end
section
set_option Elab.async false
set_option linter.all false
set_option maxRecDepth 100000
set_option maxHeartbeats 4000000
/-! displays of dicts; tables of the top -/
namespace Dy
open PySem PySem.Spec PyProof.Rows L2
variable [LawI] [Ph]
def dpairs : List (M Sl × M Sl) → M (List (Key × D))
  | [] => fun s => .ok [] s
  | (mk, mv) :: r => fun s => (mk s).bind fun y s => (mv s).bind fun x s => match keyOf y.val with
    | some k => (dpairs r s).bind fun l s => .ok ((k, x.val) :: l) s
    | none => .bad
def mergeD (l : List (Key × D)) : List (D × D) := l.foldl (fun acc p => putD acc p.1 p.2) []
def dispD (l : List (M Sl × M Sl)) : M Sl := fun s => (dpairs l s).bind fun ps s => .ok (.o (.dict (mergeD ps))) s
section
variable {X : Cx} {W : WX} {a b : Expr} {oa ob : Opd} {P F0 : Hp} {F F' : Fz} {σ : L2.St} {H H' : Hp} {s s1 : S} {Q : VK} {K : PySem.W.Frag} {v : V} {x : D} {pins : List (Addr × Obj)} {sh : Shared} {T : Ends}
inductive RpPs (K : PySem.W.Frag) (F : Fz) : List (Key × V) → List (Key × D) → Prop
  | nil : RpPs K F [] []
  | cons {k : Key} {v : V} {vs : List (Key × V)} {d : D} {ds : List (Key × D)} : Rp K F v d → RpPs K F vs ds → RpPs K F ((k, v) :: vs) ((k, d) :: ds)
theorem RpPs.length : ∀ {vs : List (Key × V)} {ds : List (Key × D)}, RpPs K F vs ds → vs.length = ds.length
  | _, _, .nil => rfl
  | _, _, .cons _ r => congrArg (· + 1) (RpPs.length r)
theorem RpPs.merge : ∀ {vs : List (Key × V)} {ds : List (Key × D)} {kvs : List (Key × V)} {es : List (D × D)}, RpPs K F vs ds → RpKV K F kvs es → RpKV K F (mergeK kvs vs) (ds.foldl (fun acc p => putD acc p.1 p.2) es)
  | _, _, _, _, .nil, r => r
  | _, _, _, _, .cons (k := k) h t, r => by
    have z := RpPs.merge t (r.put (k := k) h)
    exact z
theorem keyOf_rp {y : D} {k : Key} (e : keyOf y = some k) (h : Rp K F v y) : v = kV k := by
  cases y with
  | int i => cases e; exact h.int_inv
  | str z => cases e; exact h.str_inv
  | _ => cases e
theorem tPairs_mono {Q Q' : List (V × V) → Hp → Prop} (i : ∀ ps H, Q ps H → Q' ps H) : ∀ (l : List (M Sl × M Sl)) {H : Hp}, tPairs (l.map fun p => (tD K W p.1, tD K W p.2)) σ H Q → tPairs (l.map fun p => (tD K W p.1, tD K W p.2)) σ H Q'
  | [], _, h => i _ _ h
  | (mk, mv) :: r, _, h => tD_mono h fun _ _ h1 => tD_mono h1 fun _ _ h2 => tPairs_mono (fun ps H q => i _ _ q) r h2
theorem tpairs_ok {k : List (Key × D) → S → Out Sl} : ∀ (l : List (M Sl × M Sl)) {F : Fz} {H : Hp} {s : S} {Q : List (V × V) → Hp → Prop}, StRel K P F0 F σ H s → (∀ c s1, dpairs l s = .exc c s1 → ∀ F' H, F.le F' → StRel K P F0 F' σ H s1 → W (.ref (He.ga K c)) none σ H) → dpairs l s ≠ .bad →
    (∀ r s1, dpairs l s = .ok r s1 → ∀ kvs F' H, F.le F' → StRel K P F0 F' σ H s1 → RpPs K F' kvs r → Q (kvs.map fun kv => (kV kv.1, kv.2)) H) → tPairs (l.map fun p => (tD K W p.1, tD K W p.2)) σ H Q
  | [], F, H, s, Q, st, _, _, h => h [] s rfl [] F H (.refl F) st .nil
  | (mk, mv) :: r, F, H, s, Q, st, hx, hb, h => by
    refine ⟨P, F0, F, s, st, ?_⟩
    show Res K W P F0 F σ (mk s) _
    cases e1 : mk s with
    | bad => exact (hb (by unfold dpairs; rw [e1]; rfl)).elim
    | exc c s1 => exact fun F' H' l' st' => hx c s1 (by unfold dpairs; rw [e1]; rfl) F' H' l' st'
    | ok y s1 =>
      intro v1 F1 H1 l1 st1 rv1
      obtain ⟨F2, l2, st2, rp1⟩ := rv1.freeze st1
      refine ⟨P, F0, F2, s1, st2, ?_⟩
      show Res K W P F0 F2 σ (mv s1) _
      cases e2 : mv s1 with
      | bad => exact (hb (by unfold dpairs; rw [e1]; show (mv s1).bind _ = _; rw [e2]; rfl)).elim
      | exc c s2 => exact fun F' H' l' st' => hx c s2 (by unfold dpairs; rw [e1]; show (mv s1).bind _ = _; rw [e2]; rfl) F' H' (l1.trans (l2.trans l')) st'
      | ok x s2 =>
        have unf : dpairs ((mk, mv) :: r) s = (match keyOf y.val with
          | some k => (dpairs r s2).bind fun l s => .ok ((k, x.val) :: l) s
          | none => .bad) := by
          show ((mk s).bind _) = _
          rw [e1]
          show (mv s1).bind _ = _
          rw [e2]
          rfl
        intro v2 F3 H3 l3 st3 rv3
        obtain ⟨F4, l4, st4, rp2⟩ := rv3.freeze st3
        cases ek : keyOf y.val with
        | none => exact (hb (by rw [unf, ek])).elim
        | some kk =>
          rw [ek] at unf
          have unf : dpairs ((mk, mv) :: r) s = (dpairs r s2).bind fun l s => .ok ((kk, x.val) :: l) s := unf
          have l04 := l1.trans (l2.trans (l3.trans l4))
          refine tpairs_ok (k := k) r st4 (fun c s3 e3 F' H' l' st' => hx c s3 (by rw [unf, e3]; rfl) F' H' (l04.trans l') st') (fun z => hb (by rw [unf, z]; rfl)) fun ds s3 e3 kvs F' H' l' st' rps => ?_
          have ev := keyOf_rp ek rp1
          subst ev
          have z := h ((kk, x.val) :: ds) s3 (by rw [unf, e3]; rfl) ((kk, v2) :: kvs) F' H' (l04.trans l') st' (.cons (rp2.le l') rps)
          exact z
inductive DPs (X : Cx) (W : WX) (pos : Pos) : List (Option Expr) → List Expr → List (M Sl × M Sl) → Prop
  | nil : DPs X W pos [] [] []
  | cons {k v : Expr} {ks : List (Option Expr)} {vs : List Expr} {mk mv : M Sl} {l : List (M Sl × M Sl)} : DE X W k mk → DE X W v mv → DPs X W pos ks vs l → DPs X W pos (some k :: ks) (v :: vs) ((mk, mv) :: l)
theorem DPs.pps {pos : Pos} : ∀ {ks : List (Option Expr)} {vs : List Expr} {l : List (M Sl × M Sl)}, DPs X W pos ks vs l → PPs X pos ks vs (l.map fun p => (tD X.K W p.1, tD X.K W p.2))
  | _, _, _, .nil => pps_nil
  | _, _, _, .cons h1 h2 t => pps_cons h1 h2 (DPs.pps t)
theorem dpairs_len : ∀ {l : List (M Sl × M Sl)} {s : S} {r : List (Key × D)} {s1 : S}, dpairs l s = .ok r s1 → r.length = l.length
  | [], s, r, s1, e => by cases e; rfl
  | (mk, mv) :: l, s, r, s1, e => by
    unfold dpairs at e
    cases e1 : mk s with
    | bad => rw [e1] at e; cases e
    | exc c s2 => rw [e1] at e; cases e
    | ok y s2 =>
      rw [e1] at e
      simp only [Out.bind_ok] at e
      cases e2 : mv s2 with
      | bad => rw [e2] at e; cases e
      | exc c s3 => rw [e2] at e; cases e
      | ok x s3 =>
        rw [e2] at e
        simp only [Out.bind_ok] at e
        cases ek : keyOf y.val with
        | none => rw [ek] at e; cases e
        | some k =>
          rw [ek] at e
          simp only at e
          cases e3 : dpairs l s3 with
          | bad => rw [e3] at e; cases e
          | exc c s4 => rw [e3] at e; cases e
          | ok r' s4 =>
            rw [e3] at e
            cases e
            rw [List.length_cons, List.length_cons, dpairs_len e3]
theorem d_disp {pos : Pos} {ks : List (Option Expr)} {vs : List Expr} {l : List (M Sl × M Sl)} (h : DPs X W pos ks vs l) (hall : ks.all (·.isSome) = true := by rfl) (hl : ks.length = vs.length := by rfl) (h0 : ks ≠ [] := by simp) (h15 : ks.length ≤ 15 := by decide) (hll : l.length ≤ 15 := by decide) : DE X W (.Dict ks vs pos) (dispD l) := by
  refine PE.weaken (pe_disp h.pps hall hl h0 h15) ?_
  rintro σ H Q ⟨P, F0, F, s, st, q⟩ p hp
  obtain ⟨st0, p', ep, ow0, ne0⟩ := st.alloc_o (o := .dK []) (x := .dict []) hp (.dic .nil)
  cases ep
  have stA := ow0.aside st0 upd_same ne0
  unfold dispD at q
  refine tpairs_ok (k := fun _ _ => .bad) l stA (fun c s1 e F' H' l' st' => ?_) (fun z => by rw [z] at q; exact q) fun r s1 e kvs F' H' l' st' rps => ?_
  · rw [e] at q
    exact q F' H' l' (StRel.back st0 ow0 upd_same l' st').1
  · rw [e] at q
    have q : Res X.K W P F0 F σ (.ok (.o (.dict (mergeD r))) s1) Q := q
    obtain ⟨st5, ow5, e5, ne5⟩ := StRel.back st0 ow0 upd_same l' st'
    refine ⟨e5, kvs, rfl, by rw [rps.length, dpairs_len e]; exact hll, ?_⟩
    obtain ⟨st6, ow6⟩ := StRel.grow (o := .dK []) st5 ow5 ne5 (.dic (rps.merge .nil))
    exact q (.ref p) F' _ l' st6 ⟨p, rfl, ow6, ne5⟩
/-! ### tables of the top -/
/-- the module's name x is a dict with these text keys and values -/
def TabG (K : PySem.W.Frag) (w : World) (mg : Str → Option Value) (x : Str) (kvs : List (Str × D)) : Prop := ∃ a es n, mg x = some (.ref a) ∧ KDict K w a es n ∧
  ∀ z, ∃ r, PySem.W.nsIn K a z = some r ∧ (match kvs.lookup z with
    | some d => ∃ u v, r = some u ∧ RelV v u ∧ ∀ F, Rp K F v d
    | none => r = none)
def inGD (kvs : List (Str × D)) : D → Option Sl
  | .str z => some (.d (.bool (kvs.lookup z).isSome))
  | _ => none
def notInGD (kvs : List (Str × D)) : D → Option Sl
  | .str z => some (.d (.bool (!(kvs.lookup z).isSome)))
  | _ => none
def getGD (kvs : List (Str × D)) : D → Option Sl
  | .str z => (kvs.lookup z).map .d
  | _ => none
theorem ix_kd {d : Addr} {es : Array DictEntry} {n : Nat} (D : KDict X.K X.w d es n) : IxR X (fun x y H Q => ∃ (z : Str) (u0 : Value) (v0 : V), x = .ref d ∧ y = .str z ∧ PySem.W.nsIn X.K d z = some (some u0) ∧ RelV v0 u0 ∧ Q v0 H) := by
  intro value slice pins s σ H x y v u Q I rx ry h hs
  have hx : x = .ref d := by
    obtain ⟨z, u0, v0, e, _⟩ := h
    exact e
  have z := op_item_kd D pins s σ H x y v u Q I rx ry h
  subst hx
  cases rx
  exact tail_any (kd_type D I) PySem.slot_dict_getitem.lookup z hs
theorem glob_ref {x : Str} {p : Pos} {a : Addr} (hg : Gl X x) (hm : X.mg x = some (.ref a)) (hd : (x == ("__debug__" : Str)) = false) : PE X (.Name x p) (tC (.ref a)) := pe_glob (v := .ref a) hg hm rfl hd
theorem dt_inG {x : Str} {kvs : List (Str × D)} {p pos : Pos} (ht : TabG X.K X.w X.mg x kvs) (ha : OO X W a oa) (hg : Gl X x := by rfl) (hd : (x == ("__debug__" : Str)) = false := by decide) (h1 : behindInMarks .In (.Name x p) = false := by first | exact nobehind _ (by decide) (by decide) | rfl) : DT X W (.Compare a [.In] [.Name x p] pos) (ofD (opd1 oa (lift1 (inGD kvs)))) := by
  obtain ⟨d, es, n, hm, D, hz⟩ := ht
  refine dt_ofR (op_in_kd D) ha.pe (glob_ref hg hm hd) h1 ?_
  rintro σ H Q ⟨P, F0, F, s, st, h⟩
  refine tOpd_mono (opd1_ok st h) ?_
  rintro v H1 ⟨F1, s1, x, l, st1, b1, q⟩
  unfold lift1 inGD at q
  split at q
  · rename_i r e
    split at e
    · rename_i z
      cases e
      rw [b1.str]
      obtain ⟨r, e1, e2⟩ := hz z
      refine ⟨z, r, rfl, rfl, e1, ?_⟩
      have e3 : r.isSome = (kvs.lookup z).isSome := by
        cases e4 : kvs.lookup z with
        | none => rw [e4] at e2; rw [e2]; rfl
        | some d => rw [e4] at e2; obtain ⟨u, v, e5, _⟩ := e2; rw [e5]; rfl
      rw [e3]
      exact Res.ok q st1 (.bl _)
    · cases e
  · exact q.elim
theorem d_inG {x : Str} {kvs : List (Str × D)} {p pos : Pos} (ht : TabG X.K X.w X.mg x kvs) (ha : OO X W a oa) (hg : Gl X x := by rfl) (hd : (x == ("__debug__" : Str)) = false := by decide) (h1 : behindInMarks .In (.Name x p) = false := by first | exact nobehind _ (by decide) (by decide) | rfl) : DE X W (.Compare a [.In] [.Name x p] pos) (opd1 oa (lift1 (inGD kvs))) := by
  obtain ⟨d, es, n, hm, D, hz⟩ := ht
  refine PE.weaken (pe_cmpR (op_in_kd D) ha.pe (glob_ref hg hm hd) h1) ?_
  rintro σ H Q ⟨P, F0, F, s, st, h⟩
  refine tOpd_mono (opd1_ok st h) ?_
  rintro v H1 ⟨F1, s1, x, l, st1, b1, q⟩
  unfold lift1 inGD at q
  split at q
  · rename_i r e
    split at e
    · rename_i z
      cases e
      rw [b1.str]
      obtain ⟨r, e1, e2⟩ := hz z
      refine ⟨z, r, rfl, rfl, e1, ?_⟩
      have e3 : r.isSome = (kvs.lookup z).isSome := by
        cases e4 : kvs.lookup z with
        | none => rw [e4] at e2; rw [e2]; rfl
        | some d => rw [e4] at e2; obtain ⟨u, v, e5, _⟩ := e2; rw [e5]; rfl
      rw [e3]
      exact Res.ok q st1 (.bl _)
    · cases e
  · exact q.elim
theorem tC_tOpd {o : Opd} {v : V} {Q : VK} {R : V → V → Hp → Prop} (h : tOpd K W o σ H fun u H1 => R v u H1) : tC v σ H fun x H1 => tOpd K W o σ H1 fun u H2 => R x u H2 := h
theorem d_getG {x : Str} {kvs : List (Str × D)} {p pos : Pos} (ht : TabG X.K X.w X.mg x kvs) (hs : PlainIx b) (hb : OO X W b ob) (hg : Gl X x := by rfl) (hd : (x == ("__debug__" : Str)) = false := by decide) : DE X W (.Subscript (.Name x p) b pos) (opd1 ob (lift1 (getGD kvs))) := by
  obtain ⟨d, es, n, hm, D, hz⟩ := ht
  refine PE.weaken (pe_ix (ix_kd D) (glob_ref hg hm hd) hb.pe hs) ?_
  rintro σ H Q ⟨P, F0, F, s, st, h⟩
  show tOpd X.K W ob σ H _
  refine tOpd_mono (opd1_ok st h) ?_
  rintro v H1 ⟨F1, s1, x, l, st1, b1, q⟩
  unfold lift1 getGD at q
  split at q
  · rename_i r e
    split at e
    · rename_i z
      rw [b1.str]
      obtain ⟨r', e1, e2⟩ := hz z
      cases e4 : kvs.lookup z with
      | none => rw [e4] at e; cases e
      | some dd =>
        rw [e4] at e e2
        cases e
        obtain ⟨u, v, e5, e6, e7⟩ := e2
        rw [e5] at e1
        exact ⟨z, u, v, rfl, rfl, e1, e6, Res.ok q st1 (e7 _)⟩
    · cases e
  · exact q.elim
/-- the facts of the head tell such a table -/
theorem find_map {α β : Type} {f : α → Option β} {p : β → Bool} : ∀ {l : List α} {ks : List β}, l.map f = ks.map some → (∃ e, l.find? (fun e => (f e).any p) = some e) ∨ ∀ k ∈ ks, p k = false
  | [], [], _ => .inr fun k h => by cases h
  | a :: l, [], h => by cases h
  | [], k :: ks, h => by cases h
  | a :: l, k :: ks, h => by
    rw [List.map_cons, List.map_cons] at h
    injection h with h1 h2
    cases hp : p k with
    | true => exact .inl ⟨a, by rw [List.find?_cons, h1]; simp [hp]⟩
    | false =>
      rcases find_map (p := p) h2 with ⟨e, h3⟩ | h3
      · exact .inl ⟨e, by rw [List.find?_cons, h1]; simp [hp, h3]⟩
      · refine .inr fun k' hk => ?_
        rcases List.mem_cons.mp hk with rfl | hk
        · exact hp
        · exact h3 k' hk
end
end Dy
end
section
set_option Elab.async false
set_option linter.all false
set_option maxRecDepth 100000
set_option maxHeartbeats 4000000
/-! tables of the top, by the head's facts -/
namespace Dy
open PySem PySem.Spec PyProof.Rows L2
variable [LawI] [Ph]
def dvD : D → He.Dv
  | .int i => .int i
  | .str x => .str x
  | .bool b => .bl b
  | _ => .non
def scalD : D → Bool
  | .int _ => true
  | .str _ => true
  | .bool _ => true
  | .none => true
  | _ => false
theorem rp_dv {K : PySem.W.Frag} {F : Fz} : ∀ {d : D}, scalD d = true → Rp K F ((dvD d).v K) d
  | .int i, _ => .int i
  | .str i, _ => .str i
  | .bool i, _ => .bl i
  | .none, _ => .non
  | .list _, h => by cases h
  | .tuple _, h => by cases h
  | .dict _, h => by cases h
theorem tabG_of {K : PySem.W.Frag} {w : World} {mg : Str → Option Value} {x : Str} {kvs : List (Str × D)} (hm : mg x = some (.ref (He.ga K x))) (h : He.dicW K (He.ga K x) = some (He.keysIn w.params (kvs.map (·.1)))) (hv : He.valsB K (He.ga K x) (kvs.map fun p => (p.1, dvD p.2)) = true) (hs : kvs.all (fun p => scalD p.2) = true) : TabG K w mg x kvs := by
  obtain ⟨es, n, D⟩ := He.dicW_ok h
  refine ⟨_, es, n, hm, D, fun z => ?_⟩
  have at_ := D.at_
  have hk : es.toList.map He.keyOf = He.keysIn w.params (kvs.map (·.1)) := by
    unfold He.dicW at h
    rw [at_] at h
    have h1 : (match decide (("dict" : String) = "dict") && ((#[] : Array (Option Value)).isEmpty && !(He.ga K x == sysModules)) with
      | true => some (es.toList.map He.keyOf)
      | false => none) = some (He.keysIn w.params (kvs.map (·.1))) := h
    rw [D.low] at h1
    simpa using h1
  cases e : kvs.lookup z with
  | some d =>
    have hmem : (z, d) ∈ kvs := PySem.mem_of_lookup e
    obtain ⟨u, h1, h2⟩ := He.valsB_ok hv (q := (z, dvD d)) (List.mem_map.mpr ⟨(z, d), hmem, rfl⟩)
    exact ⟨_, h1, u, _, rfl, h2, fun F => rp_dv (List.all_eq_true.mp hs _ hmem)⟩
  | none =>
    refine ⟨none, ?_, rfl⟩
    have hno : ∀ k ∈ kvs.map (·.1), k ≠ z := fun k hk hz => by
      obtain ⟨p, hp, rfl⟩ := List.mem_map.mp hk
      subst hz
      have : ∀ {l : List (Str × PyData)} {p : Str × PyData}, p ∈ l → ∃ d, l.lookup p.1 = some d := by
        intro l
        induction l with
        | nil => intro p h; cases h
        | cons q l ih =>
          intro p h
          rw [List.lookup_cons]
          cases hb : p.1 == q.1 with
          | true => exact ⟨_, rfl⟩
          | false =>
            rcases List.mem_cons.mp h with rfl | h
            · simp at hb
            · exact ih h
      obtain ⟨d, hd⟩ := this hp
      rw [e] at hd
      cases hd
    have all : ∀ en ∈ es.toList, ∃ k t, en.key = .str k t ∧ k ≠ z := fun en hen => by
      have h1 : He.keyOf en ∈ es.toList.map He.keyOf := List.mem_map_of_mem hen
      rw [hk] at h1
      unfold He.keysIn at h1
      obtain ⟨k, hk1, hk2⟩ := List.mem_map.mp h1
      unfold He.keyOf at hk2
      split at hk2
      · rename_i y t ey
        injection hk2 with hk2
        injection hk2 with hk3 _
        exact ⟨y, t, ey, by rw [← hk3]; exact hno k hk1⟩
      · cases hk2
    unfold PySem.W.nsIn
    rw [at_]
    have f1 : es.toList.find? (·.key.isStr z) = none := by
      rw [List.find?_eq_none]
      intro en hen
      obtain ⟨k, t, e1, e2⟩ := all en hen
      rw [e1]
      simp [Value.isStr, e2]
    have f2 : es.toList.any (·.refKey) = false := by
      rw [List.any_eq_false]
      intro en hen
      obtain ⟨k, t, e1, e2⟩ := all en hen
      simp [DictEntry.refKey, e1]
    show (match es.toList.find? (·.key.isStr z) with
      | some e => some (some e.val)
      | none => if es.toList.any (·.refKey) then none else some none) = some none
    rw [f1, f2]
    rfl
end Dy
end
section
set_option Elab.async false
set_option linter.all false
set_option maxRecDepth 100000
set_option maxHeartbeats 4000000
/-! the law's own call, from the head -/
namespace Dy
open PySem PySem.Spec PyProof.Rows L2 LamX
section
variable {P : Program} {w : World} {K : PySem.W.Frag} {mg mb : Str → Option Value} {CX : CXT} {k : Nat} {fa a : Addr} {cs : List (Addr × Addr)} {fd : FuncData} {x : Str} {sp : Sp} {s1 : Shared} {vs : List Value} {ns : List Int}
/-- what is known where the law is called -/
structure AtLaw (w : World) (K : PySem.W.Frag) (mg mb : Str → Option Value) (cs : List (Addr × Addr)) (s1 : Shared) : Prop where
  kin : K.In s1.heap
  glob : s1.heap.Ns mainGlobals mg
  blt : s1.heap.Ns builtinsNs mb
  boot : ∀ x : Str, x ≠ "__name__" → mb x = bootBuiltins x
  lim : s1.heap.NoLimit
  gens : s1.gens = #[]
  tabs : ∀ p ∈ cs, s1.heap.get? p.2 = some { cls := .none, data := .fields #[] }
  out : ∀ p ∈ cs, K.lookup p.2 = none
  hd : ∀ p ∈ cs, PySem.W.CodeHd s1.heap p.1 p.2
  bm : ∃ (m : Addr) (o : Obj), mg "__builtins__" = some (.ref m) ∧ m ≠ builtinsNs ∧ s1.heap.get? m = some o ∧ o.cls = .type "module" ∧ o.dict = some builtinsNs ∧ o.data = .plain
/-- what is tracked there: the script if it is no part of what is written, the tables -/
structure Only (cs : List (Addr × Addr)) (a : Addr) (K : PySem.W.Frag) (H : Hp) : Prop where
  tab : ∀ p ∈ cs, H p.2 = some (.tbl #[])
  kind : ∀ b, H b = none ∨ (∃ p ∈ cs, b = p.2) ∨ (b = a ∧ K.lookup a = none ∧ ∃ o xs, H b = some (.frz o (.lst xs)))
theorem law_core {H : Hp} (L : AtLaw w K mg mb cs s1) (T : Only cs a K H) (hok : HOk P w H s1.heap) (hS : SqL K H a (ns.map V.int)) (hr : RoomG k callerA)
    (F : ∀ base : Heap, K.In base → base.Ns mainGlobals mg → (∀ p ∈ cs, TabB base mg p.1 p.2) → FnOkG P w K mg base CX k fa fd [x] sp) (hb : ∀ (s : Shared) (u : Value), BindsTo s fd ⟨[u], []⟩ [(x, u)])
    (hsp : sp [.ref a] H (fun v _ => v = .bl true) fun _ _ _ => False) (hCX : ∀ e s', CX [] H s1 (fun _ _ _ => False) e s' → False) (ha : s1.heap.get? a = some { cls := .type "list", data := .seq vs.toArray }) :
    codeAny (model P w) callerA (.call (.ref fa) ⟨[.ref a], []⟩) (fun r s' => r = .ok (.ret (.bool true)) ∧ OldK s1.heap s'.heap ∧ s'.os = s1.os ∧ AllBare s'.gens) s1 := by
  let B := hidT s1.heap H
  -- an object that is no list and no table is not tracked
  have apart : ∀ {b : Addr} {o : Obj}, s1.heap.get? b = some o → (∀ its n, o.data ≠ .seq its n) → o.data ≠ .fields #[] → H b = none := by
    intro b o e n1 n2
    rcases T.kind b with z | ⟨p, hp, rfl⟩ | ⟨rfl, _, _⟩
    · exact z
    · rw [L.tabs p hp] at e
      cases e
      exact (n2 rfl).elim
    · rw [ha] at e
      cases e
      exact (n1 _ _ rfl).elim
  have inB : ∀ {b : Addr} {o : Obj}, s1.heap.get? b = some o → H b = none → B.get? b = some o := fun e n => hidT_get e n
  have nsB : ∀ {b : Addr} {m : Str → Option Value}, s1.heap.Ns b m → B.Ns b m := fun {b m} ⟨o, es, ep, e, d, r⟩ =>
    ⟨o, es, ep, inB e (apart e (fun its n z => by rw [d] at z; cases z) fun z => by rw [d] at z; cases z), d, r⟩
  have kB : K.In B := fun b o e => inB (L.kin b o e) (by
    rcases T.kind b with z | ⟨p, hp, rfl⟩ | ⟨rfl, z, _⟩
    · exact z
    · rw [L.out p hp] at e
      cases e
    · rw [z] at e
      cases e)
  have mB : L2.Mod K mg B := by
    obtain ⟨mc, l1, l2⟩ := L.lim
    exact ⟨kB, nsB L.glob, ⟨mb, nsB L.blt, L.boot⟩, mc, nsB l1, l2⟩
  have tB : ∀ p ∈ cs, TabB B mg p.1 p.2 := by
    intro p hp
    have tp := L.tabs p hp
    refine ⟨?_, ?_, fun z => ?_⟩
    · obtain ⟨o, us, file, tf, flags, tg, inF, text, tt, e, r1, r2, r3, rest⟩ := L.hd p hp
      refine ⟨o, us, file, tf, flags, tg, inF, text, tt, inB e (apart e (fun its n z => by rw [r2] at z; cases z) fun z => ?_), r1, r2, r3, rest⟩
      rw [r2] at z
      cases z
      simp at r3
    · obtain ⟨m, ob, b1, b2, b3, b4, b5, b6⟩ := L.bm
      refine ⟨m, ob, b1, b2, fun q => ?_, fun q => ?_, inB b3 (apart b3 (fun its n z => by rw [b6] at z; cases z) fun z => by rw [b6] at z; cases z), b4, b5, b6⟩
      · obtain ⟨o, es, ep, e, d, _⟩ := L.glob
        rw [q, e] at b3
        cases b3
        rw [d] at b6
        cases b6
      · rw [q, tp] at b3
        cases b3
        cases b6
    · obtain ⟨o, es, ep, e, d, _⟩ := L.glob
      rw [z, tp] at e
      cases e
      cases d
  have e0 : Env0 P w K mg B callerA [] s1 H := ⟨rfl, mB, fun b o e => of_hidT e, Nat.le_of_eq (hidT_size _ _), trivial, fun b m => (List.not_mem_nil m).elim, hok, .of_eq L.gens⟩
  refine codeAny_mono ((F B kB (nsB L.glob) tB).run callerA [] s1 H ⟨[.ref a], []⟩ [.ref a] [.ref a] _ _ hr e0 (hb s1 (.ref a)) (.cons rfl .nil) hsp) ?_
  rintro (e | fl) s' h
  · exact (hCX e s' h).elim
  · cases fl with
    | ret u =>
      obtain ⟨v, H', os, bare, un, hok', rv, q⟩ := h
      have q : v = .bl true := q
      subst q
      have ru : u = Value.bool true := rv
      subst ru
      -- what was there is there
      have stay : ∀ b o, (∀ p ∈ cs, b ≠ p.2) → s1.heap.get? b = some o → s'.heap.get? b = some o := by
        intro b o nb e
        rcases T.kind b with z | ⟨p, hp, rfl⟩ | ⟨rfl, _, ob, xs, z⟩
        · exact un.keep b o e z (fun m => (List.not_mem_nil m).elim) (fun m => (List.not_mem_nil m).elim)
        · exact (nb p hp rfl).elim
        · obtain ⟨e1, _⟩ := hok b _ z
          obtain ⟨e2, _⟩ := hok' b _ (un.frzs b ob _ z)
          rw [e] at e1
          cases e1
          exact e2
      have grown : ∀ p ∈ cs, ∃ more : Array Value, s'.heap.get? p.2 = some { cls := .none, data := .fields more } := by
        intro p hp
        obtain ⟨more, z⟩ := un.tbls p.2 #[] (T.tab p hp)
        exact ⟨_, hok' p.2 _ z⟩
      refine ⟨rfl, ⟨fun b o e => ?_, fun b o e => ?_⟩, os, bare⟩
      · by_cases hp : ∃ p ∈ cs, b = p.2
        · obtain ⟨p, hp, rfl⟩ := hp
          obtain ⟨more, hm⟩ := grown p hp
          rw [L.tabs p hp] at e
          cases e
          exact .inr (.inl ⟨((L.hd p hp).tab (L.tabs p hp)).isCodeTable, rfl, #[], more, rfl, by rw [Array.empty_append]; exact hm⟩)
        · exact .inl (stay b o (fun p hp' z => hp ⟨p, hp', z⟩) e)
      · by_cases hp : ∃ p ∈ cs, b = p.2
        · obtain ⟨p, hp, rfl⟩ := hp
          obtain ⟨more, hm⟩ := grown p hp
          exact ⟨_, hm⟩
        · exact ⟨o, stay b o (fun p hp' z => hp ⟨p, hp', z⟩) e⟩
    | next => exact h.elim
    | brk => exact h.elim
    | cont => exact h.elim
theorem law_callG (L : AtLaw w K mg mb cs s1) (ha : s1.heap.get? a = some { cls := .type "list", data := .seq vs.toArray }) (hi : IntsAre vs ns) (hl : ns.length ≤ sizeLine) (hr : RoomG k callerA) (hno : ∀ b o, K.lookup b = some o → o.cls ≠ .type "list")
    (F : ∀ base : Heap, K.In base → base.Ns mainGlobals mg → (∀ p ∈ cs, TabB base mg p.1 p.2) → FnOkG P w K mg base CX k fa fd [x] sp) (hb : ∀ (s : Shared) (u : Value), BindsTo s fd ⟨[u], []⟩ [(x, u)])
    (hsp : ∀ H : Hp, (∀ p ∈ cs, H p.2 = some (.tbl #[])) → (∀ b o, H b = some o → (∃ p ∈ cs, b = p.2 ∧ o = .tbl #[]) ∨ b = a) → (∃ o, H a = some (.frz o (.lst (ns.map V.int)))) → sp [.ref a] H (fun v _ => v = .bl true) fun _ _ _ => False) (hCX : ∀ H e s', CX [] H s1 (fun _ _ _ => False) e s' → False) :
    codeAny (model P w) callerA (.call (.ref fa) ⟨[.ref a], []⟩) (fun r s' => r = .ok (.ret (.bool true)) ∧ OldK s1.heap s'.heap ∧ s'.os = s1.os ∧ AllBare s'.gens) s1 := by
  have rv := vals_ints hi
  have an : ∀ p ∈ cs, p.2 ≠ a := fun p hp z => by
    have q := L.tabs p hp
    rw [z, ha] at q
    cases (congrArg Obj.data (Option.some.inj q) : Data.seq vs.toArray _ = Data.fields #[])
  let T0 : Hp := fun b => if (∃ p ∈ cs, b = p.2) then some (.tbl #[]) else none
  have t0 : ∀ p ∈ cs, T0 p.2 = some (.tbl #[]) := fun p hp => if_pos ⟨p, hp, rfl⟩
  have tok : ∀ b o, T0 b = some o → ObjOk P w T0 s1.heap b o ∧ ∃ p ∈ cs, b = p.2 := fun b o e => by
    by_cases h : ∃ p ∈ cs, b = p.2
    · obtain ⟨p, hp, rfl⟩ := h
      rw [t0 p hp] at e
      cases e
      exact ⟨L.tabs p hp, p, hp, rfl⟩
    · have e : (if (∃ p ∈ cs, b = p.2) then some (HO.tbl #[]) else none) = some o := e
      rw [if_neg h] at e
      cases e
  cases hk : K.lookup a with
  | some o =>
    have e := L.kin a o hk
    rw [ha] at e
    cases e
    exact (hno a _ hk rfl).elim
  | none =>
    let T1 : Hp := upd T0 a (.frz { cls := .type "list", data := .seq vs.toArray } (.lst (ns.map V.int)))
    have hS : SqL K T1 a (ns.map V.int) := .inl (.inr ⟨_, upd_same⟩)
    have t1 : ∀ p ∈ cs, T1 p.2 = some (.tbl #[]) := fun p hp => by
      show upd T0 a _ p.2 = _
      rw [upd_ne (an p hp)]
      exact t0 p hp
    have who : ∀ b o, T1 b = some o → (∃ p ∈ cs, b = p.2 ∧ o = .tbl #[]) ∨ b = a := fun b o e => by
      by_cases h : b = a
      · exact .inr h
      · have e : upd T0 a _ b = some o := e
        rw [upd_ne h] at e
        obtain ⟨_, p, hp, rfl⟩ := tok b o e
        have e2 : T0 p.2 = some o := e
        rw [t0 p hp] at e2
        cases e2
        exact .inl ⟨p, hp, rfl, rfl⟩
    refine law_core L ⟨t1, fun b => ?_⟩ (fun b o e => ?_) hS hr F hb (hsp T1 t1 who ⟨_, upd_same⟩) (hCX T1) ha
    · by_cases h : b = a
      · subst h
        exact .inr (.inr ⟨rfl, hk, _, _, upd_same⟩)
      · cases e : T1 b with
        | none => exact .inl rfl
        | some o => exact .inr (.inl ((who b o e).elim (fun ⟨p, hp, z, _⟩ => ⟨p, hp, z⟩) fun z => absurd z h))
    · by_cases h : b = a
      · subst h
        have e : upd T0 b _ b = some o := e
        rw [upd_same] at e
        cases e
        exact ⟨ha, by rw [List.length_map]; exact hl, vs, _, rv, ha⟩
      · have e2 : T1 b = T0 b := by
          show upd T0 a _ b = _
          rw [upd_ne h]
        rw [e2] at e
        obtain ⟨_, p, hp, rfl⟩ := tok b o e
        rw [t0 p hp] at e
        cases e
        exact L.tabs p hp
end
/-- what the head's facts tell of the law's def -/
def LawAt (l : PySem.W.OpenLaw) (w : World) (K : PySem.W.Frag) (CX : CXT) (k n : Nat) (x : Str) (mg : Str → Option Value) (fa : Addr) (h : Heap) : Prop :=
  ∃ (fd : FuncData) (cs : List (Addr × Addr)) (sp : Sp), (∀ p ∈ cs, h.get? p.2 = some { cls := .none, data := .fields #[] }) ∧ (∀ p ∈ cs, K.lookup p.2 = none) ∧ (∀ p ∈ cs, PySem.W.CodeHd h p.1 p.2) ∧ (∀ (s : Shared) (u : Value), BindsTo s fd ⟨[u], []⟩ [(x, u)]) ∧
    (∀ (H : Hp) (a : Addr) (ns : List Int), ns.length ≤ n → (∀ z ∈ ns, Builtin.Int.intBits z ≤ 1048576) → (∀ p ∈ cs, H p.2 = some (.tbl #[])) → (∀ b o, H b = some o → (∃ p ∈ cs, b = p.2 ∧ o = .tbl #[]) ∨ b = a) → (∃ o, H a = some (.frz o (.lst (ns.map V.int)))) → sp [.ref a] H (fun v _ => v = .bl true) fun _ _ _ => False) ∧
    (∀ b o, K.lookup b = some o → o.cls ≠ .type "list") ∧
    ∀ base : Heap, K.In base → base.Ns mainGlobals mg → (∀ p ∈ cs, TabB base mg p.1 p.2) → FnOkG l.prog w K mg base CX k fa fd [x] sp
theorem walk_ofG {l : PySem.W.OpenLaw} {n k : Nat} {q : Program} {loose : List Str} {XP : (Str → Option Value) → Heap → Prop} {YP : World → Heap → Prop} {d : DefRec} {CX : World → CXT} {x : Str}
    (hn : l.most = some n) (hn2 : n ≤ sizeLine) (hdf : d.params.defaults = []) (hr : RoomG k callerA)
    (F : ∀ (w : World) (mg : Str → Option Value) (fa : Addr) (h : Heap), YP w h → h.Ns mainGlobals mg → mg d.name = some (.ref fa) → ∃ K : PySem.W.Frag, K.In h ∧ LawAt l w K (CX w) k n x mg fa h)
    (hCX : ∀ (w : World) (H : Hp) (s : Shared) (e : Value) (s' : Shared), CX w [] H s (fun _ _ _ => False) e s' → False) :
    PySem.W.WalkO q loose XP YP l.row.toRowW d [] (fun f vs => PySem.call f vs) := by
  refine Att.attach_callB hn hdf fun w s0 s1 mg mb fa o pm cd doc a vs ns G Y ho hd hcd hmg hobj hints hlen hbits hg => ?_
  obtain ⟨K, KX, fd, cs, sp, hT, nT, C, hb, hsp, hno, hF⟩ := F w mg fa _ Y G.T.g hmg
  exact law_callG ⟨KX, G.T.g, G.T.b, G.T.builtins, G.T.nolimit, hg, hT, nT, C, G.T.bmain⟩ hobj hints (Nat.le_trans hlen hn2) hr hno hF hb (fun H h1 h2 h3 => hsp H a ns hlen hbits h1 h2 h3) fun H e s' => hCX w H s1 e s'
section
variable [LawI]
/-- nothing is asked of what stays -/
@[reducible] def phTop : Ph where
  Φ := fun _ => True
  mono := fun _ _ _ h => h
theorem law_sp {K : PySem.W.Frag} {H : Hp} {a : Addr} {ns : List Int} {fx : FD} (hT : ∀ p ∈ lamTT K, H p.1 = some (.tbl #[])) (hH : ∀ b o, H b = some o → (∃ ps, o = .tbl ps) ∨ b = a) (hS : ∃ o, H a = some (.frz o (.lst (ns.map V.int))))
    (hf : ∃ dr, fx [.list (ns.map .int)] none = .ok (.bool true) dr) : @spD _ phTop K 1 fx [.ref a] H (fun v _ => v = .bl true) fun _ _ _ => False := by
  letI := phTop
  obtain ⟨dr, hf⟩ := hf
  obtain ⟨o, hS⟩ := hS
  let F : Fz := ⟨fun b => if b = a then some (.frz o (.lst (ns.map V.int))) else none, none⟩
  have fa : F.hp a = some (.frz o (.lst (ns.map V.int))) := if_pos rfl
  have fat : ∀ b u, F.hp b = some u → b = a ∧ u = .frz o (.lst (ns.map V.int)) := fun b u e => by
    by_cases h : b = a
    · subst h
      rw [fa] at e
      exact ⟨rfl, (Option.some.inj e).symm⟩
    · have e : (if b = a then some (HO.frz o (.lst (ns.map V.int))) else none) = some u := e
      rw [if_neg h] at e
      cases e
  refine ⟨rfl, fun _ => none, fun _ => none, F, [.list (ns.map .int)], none, ?_, .cons (.lst (.inr ⟨o, fa⟩) (RpAll.of_ints ns)) .nil, ?_⟩
  · refine @StRel.mk _ phTop _ _ _ _ _ _ _ (fun b u e => ?_) (fun b u e => by cases e) (fun b h => .inr fun o e => by cases e) (Nat.le_refl _) (fun i sl e => by simp at e) (fun i j x y a _ e => by simp at e) rfl ⟨fun p hp => ?_, (fun b ps z => nomatch z), fun b ps z => ?_⟩ trivial
    · obtain ⟨rfl, rfl⟩ := fat b u e
      exact .inl hS
    · exact ⟨#[], hT p hp, by simp [TriplesOk], fun pos cv h => by simp [codeAmong] at h⟩
    · obtain ⟨rfl, e⟩ := fat b _ z
      cases e
  · show @ResF _ phTop _ _ _ _ (fx [.list (ns.map .int)] none) _ _
    rw [hf]
    exact fun v F' H' _ _ rp => rp.bl_inv
end
end Dy
end
section
set_option Elab.async false
set_option linter.all false
set_option maxRecDepth 100000
set_option maxHeartbeats 4000000
/-! the head's facts of exceptions, by Booleans -/
namespace Dy
open PySem PySem.Spec PyProof.Rows L2 LamX
def excCB (K : PySem.W.Frag) (D : Addr) : Bool := decide (PySem.W.findIn K (.ref D) "__getattribute__" = some (some (.builtin "BaseException.__getattribute__"))) && (decide (PySem.W.findIn K (.ref D) "__getattr__" = some none) && (decide (PySem.W.subIn K (.ref D) (.type "BaseException") = some true) &&
  (PySem.W.hasDictIn K D && (decide (PySem.W.findIn K (.ref D) "__class__" = some (some (.builtin "object.__class__"))) && (decide (PySem.W.specialIn K (.builtin "object.__class__") "__get__" = some (some (.builtin "getset_descriptor.__get__"))) &&
  (decide (PySem.W.takesIn K (.builtin "object.__class__") = some true) && decide (PySem.W.mroIn K D (.type "object") = some true)))))))
theorem excCB_ok {K : PySem.W.Frag} {D : Addr} (h : excCB K D = true) : ExcC K D := by
  obtain ⟨h1, h⟩ := He.ba h
  obtain ⟨h2, h⟩ := He.ba h
  obtain ⟨h3, h⟩ := He.ba h
  obtain ⟨h4, h⟩ := He.ba h
  obtain ⟨h5, h⟩ := He.ba h
  obtain ⟨h6, h⟩ := He.ba h
  obtain ⟨h7, h8⟩ := He.ba h
  exact ⟨of_decide_eq_true h1, of_decide_eq_true h2, of_decide_eq_true h3, h4, of_decide_eq_true h5, of_decide_eq_true h6, of_decide_eq_true h7, of_decide_eq_true h8⟩
def isxB (K : PySem.W.Frag) (C : Str) (l : List (Str × Bool)) : Bool := decide (PySem.W.kitOne K (.type "NoneType") (.ref (He.ga K C)) = some false) && l.all fun p => decide (PySem.W.kitOne K (.ref (He.ga K p.1)) (.ref (He.ga K C)) = some p.2)
def exmB (K : PySem.W.Frag) (C : Str) (l : List (Str × Bool)) : Bool := l.all fun p => decide (PySem.W.exmOne K (.ref (He.ga K p.1)) (.ref (He.ga K C)) = some p.2)
theorem isxB_ok {K : PySem.W.Frag} {C : Str} {l : List (Str × Bool)} {es : List Str} (h : isxB K C l = true) (he : (es.all fun c => excCB K (He.ga K c)) = true) (hl : l.all (fun p => es.contains p.1) = true) : IsX K C (fun c => l.lookup c) := by
  obtain ⟨h1, h2⟩ := He.ba h
  refine ⟨of_decide_eq_true h1, fun c b e => ?_⟩
  have m : (c, b) ∈ l := PySem.mem_of_lookup e
  refine ⟨of_decide_eq_true (List.all_eq_true.mp h2 _ m), excCB_ok (List.all_eq_true.mp he c ?_)⟩
  exact List.contains_iff_mem.mp (List.all_eq_true.mp hl _ m)
theorem exmB_ok {K : PySem.W.Frag} {C : Str} {l : List (Str × Bool)} (h : exmB K C l = true) : ∀ c b, l.lookup c = some b → PySem.W.exmOne K (.ref (He.ga K c)) (.ref (He.ga K C)) = some b := fun c b e =>
  of_decide_eq_true (List.all_eq_true.mp h (c, b) (PySem.mem_of_lookup e))
def isListTy : Value → Bool
  | .type c => decide (c = "list")
  | _ => false
def noLists (K : PySem.W.Frag) : Bool := K.all fun q => !isListTy q.2.cls
theorem noLists_ok {K : PySem.W.Frag} (h : noLists K = true) : ∀ b o, K.lookup b = some o → o.cls ≠ .type "list" := fun b o e z => by
  have m := He.lookup_mem e
  have q := List.all_eq_true.mp h _ m
  simp only [z, isListTy] at q
  simp at q
def tabsNe [LawI] (K : PySem.W.Frag) : Bool := (lamTT K).all fun p => (lamTT K).all fun q => !decide (p.1 = q.1) || decide (p.2 = q.2)
theorem tabsNe_ok [LawI] {K : PySem.W.Frag} (h : tabsNe K = true) {P : Addr} {q : Str} (hm : (P, q) ∈ lamTT K) : ∀ p ∈ lamTT K, p.1 = P → p.2 = q := fun p hp e => by
  have z := List.all_eq_true.mp (List.all_eq_true.mp h p hp) _ hm
  simp only [e, Bool.or_eq_true, Bool.not_eq_true', decide_eq_false_iff_not, decide_eq_true_eq] at z
  rcases z with z | z
  · exact absurd trivial z
  · exact z
theorem tab_at {fa : List He.Fa} {fn : List He.DefD} {ts : List He.Tab} {tf : List He.Defn} {ex : PySem.W.Frag → Bool} {w : World} {h : Heap} {K : PySem.W.Frag} (c : He.SaysX fa fn ts tf ex w h K) (i : Nat) {t : He.Tab} (e : ts[i]? = some t) : He.dicW K (t.1 K) = some (He.keysIn w.params t.2) := by
  have z : ts.map (fun t => He.dicW K (t.1 K)) = ts.map fun t => some (He.keysIn w.params t.2) := congrArg (fun z : He.AlT => z.2) c.t
  have z2 : (ts.map fun t => He.dicW K (t.1 K))[i]? = (ts.map fun t => some (He.keysIn w.params t.2))[i]? := by rw [z]
  rw [List.getElem?_map, List.getElem?_map, e] at z2
  exact Option.some.inj z2
end Dy
end
section
set_option Elab.async false
set_option linter.all false
set_option maxRecDepth 100000
set_option maxHeartbeats 4000000
/-! what the data functions compute: loops -/
namespace Dy
open PySem PySem.Spec
variable [LawI] [Ph]
theorem lcLoop_eq {g : D → S → Option S} {t : M Bool} {me : M Sl} {vs : List Nat} {s0 : S} {p : D → Bool} {f : D → D} : ∀ (items acc : List D), (∀ x ∈ items, ∃ sx, g x s0 = some sx ∧ t sx = .ok (p x) sx ∧ (p x = true → ∃ r, me sx = .ok r sx ∧ r.val = f x) ∧ wipeS vs sx = s0) →
    acc.length + items.length ≤ sizeLine → lcLoop g t me vs items acc s0 = .ok (acc ++ (items.filter p).map f) s0
  | [], acc, _, _ => by simp [lcLoop]
  | x :: xs, acc, h, hl => by
    obtain ⟨sx, h1, h2, h3, h4⟩ := h x List.mem_cons_self
    have hr := fun acc' hl' => lcLoop_eq xs acc' (fun y hy => h y (List.mem_cons_of_mem _ hy)) hl'
    rw [List.length_cons] at hl
    rw [lcLoop, h1]
    simp only [h2]
    cases hp : p x with
    | false =>
      simp only [h4]
      rw [hr acc (by omega), List.filter_cons_of_neg (by simp [hp])]
    | true =>
      obtain ⟨r, h5, h6⟩ := h3 hp
      simp only [h5, h6, h4]
      rw [if_pos (by omega), hr _ (by rw [List.length_append, List.length_singleton]; omega), List.filter_cons_of_pos (by simp [hp])]
      simp
theorem lcD_eq {mi : M (List D)} {g : D → S → Option S} {t : M Bool} {me : M Sl} {vs : List Nat} {s s1 : S} {items : List D} (p : D → Bool) (f : D → D) (hmi : mi s = .ok items s1)
    (hx : ∀ x ∈ items, ∃ sx, g x (wipeS vs s1) = some sx ∧ t sx = .ok (p x) sx ∧ (p x = true → ∃ r, me sx = .ok r sx ∧ r.val = f x) ∧ wipeS vs sx = wipeS vs s1) (hlen : items.length ≤ sizeLine) (hb : backS vs s1 (wipeS vs s1) = s1) :
    lcD mi g t me vs s = .ok (.o (.list ((items.filter p).map f))) s1 := by
  unfold lcD
  rw [hmi]
  show (match lcLoop g t me vs items [] (wipeS vs s1) with
    | .ok acc s3 => Out.ok (Sl.o (.list acc)) (backS vs s1 s3)
    | _ => .bad) = _
  rw [lcLoop_eq items [] hx (by simpa using hlen)]
  simp [hb]
/-- .. without a test -/
theorem lcD_map {mi : M (List D)} {g : D → S → Option S} {me : M Sl} {vs : List Nat} {s s1 : S} {items : List D} (f : D → D) (hmi : mi s = .ok items s1)
    (hx : ∀ x ∈ items, ∃ sx, g x (wipeS vs s1) = some sx ∧ (∃ r, me sx = .ok r sx ∧ r.val = f x) ∧ wipeS vs sx = wipeS vs s1) (hlen : items.length ≤ sizeLine) (hb : backS vs s1 (wipeS vs s1) = s1) :
    lcD mi g yesT me vs s = .ok (.o (.list (items.map f))) s1 := by
  have := lcD_eq (t := yesT) (me := me) (fun _ => true) f hmi (fun x hx' => by
    obtain ⟨sx, h1, h2, h3⟩ := hx x hx'
    exact ⟨sx, h1, rfl, fun _ => h2, h3⟩) hlen hb
  rw [this, List.filter_eq_self.mpr (fun _ _ => rfl)]
/-- a for without break, return: an invariant -/
theorem forS_inv {g : D → S → Option S} {body : M Fl} (I : Nat → S → Prop) (items : List D) (h : ∀ (i : Nat) (x : D) (s : S), items[i]? = some x → I i s → ∃ s1 s2, g x s = some s1 ∧ (body s1 = .ok .nx s2 ∨ body s1 = .ok .ct s2) ∧ I (i + 1) s2) :
    ∀ (k i : Nat) (s : S), items.length - i = k → i ≤ items.length → I i s → ∃ s2, forS g body (items.drop i) s = .ok .nx s2 ∧ I items.length s2 := by
  intro k
  induction k with
  | zero =>
    intro i s hk hi hI
    have : i = items.length := by omega
    subst this
    exact ⟨s, by rw [List.drop_length]; rfl, hI⟩
  | succ k ih =>
    intro i s hk hi hI
    have hlt : i < items.length := by omega
    obtain ⟨s1, s2, h1, h2, h3⟩ := h i items[i] s (List.getElem?_eq_getElem hlt) hI
    obtain ⟨s3, h4, h5⟩ := ih (i + 1) s2 (by omega) hlt h3
    refine ⟨s3, ?_, h5⟩
    rw [List.drop_eq_getElem_cons hlt, forS, h1]
    rcases h2 with h2 | h2 <;> simp only [h2] <;> exact h4
end Dy
end
section
set_option Elab.async false
set_option linter.all false
set_option maxRecDepth 100000
set_option maxHeartbeats 4000000
/-! the draws of the laws -/
namespace Dy
open PySem PySem.Spec
variable [LawI] [Ph]
/-! ### what is simple to reckon -/
theorem okKeyW : okKey "wide" = true := by decide
theorem okD_int (i : Int) : okD (.int i) = true := rfl
theorem okD_str (i : Str) : okD (.str i) = true := rfl
theorem okD_bool (i : Bool) : okD (.bool i) = true := rfl
theorem okD_none : okD .none = true := rfl
theorem eqv_int (i j : Int) : PyData.eqv (.int i) (.int j) = decide (i = j) := by
  rw [Bool.eq_iff_iff]
  simp [PyData.eqv]
theorem eqD_int (i j : Int) : eqD (.int i) (.int j) = some (.d (.bool (decide (i = j)))) := by
  unfold eqD
  rw [if_pos ⟨okD_int i, okD_int j⟩, eqv_int]
theorem neD_int (i j : Int) : neD (.int i) (.int j) = some (.d (.bool (!decide (i = j)))) := by
  unfold neD
  rw [if_pos ⟨okD_int i, okD_int j⟩, eqv_int]
theorem addD_int (i j : Int) : addD (.int i) (.int j) = some (.d (.int (i + j))) := rfl
theorem subD_int (i j : Int) : subD (.int i) (.int j) = some (.d (.int (i - j))) := rfl
theorem modD_int {i j : Int} (h : 0 < j) : modD (.int i) (.int j) = some (.d (.int (i % j))) := by
  unfold modD arD
  simp only
  rw [if_pos (by simpa using h)]
theorem fdivD_int {i j : Int} (h : 0 < j) (h2 : j.natAbs.log2 < 9000) : fdivD (.int i) (.int j) = some (.d (.int (i / j))) := by
  unfold fdivD arD
  simp only
  rw [if_pos (by simp [h, h2])]
theorem mulD_int {i j : Int} (h : i.natAbs.log2 + j.natAbs.log2 < 1000000) : mulD (.int i) (.int j) = some (.d (.int (i * j))) := by
  unfold mulD arD
  simp only
  rw [if_pos (by simpa using h)]
theorem powD_int {i j : Int} (h : 0 ≤ j) (h2 : j ≤ 1000000) (h3 : i.natAbs < 2 ^ 64) : powD (.int i) (.int j) = some (.d (.int (i ^ j.toNat))) := by
  unfold powD arD
  simp only
  rw [if_pos (by simp only [decide_eq_true_eq]; exact ⟨h, h2, h3⟩)]
theorem log2_le {n k : Nat} (h : n < 2 ^ k) : n.log2 ≤ k := by
  by_cases h0 : n = 0
  · subst h0
    simp
  · exact Nat.le_of_lt ((Nat.log2_lt h0).mpr h)
/-- a draw that may still be asked n times -/
structure Dw (n : Nat) (r : Dr) : Prop where
  key : r.key = "wide"
  wide : ∀ z ∈ r.wide, 0 ≤ z
  cells : ∀ z ∈ r.cells, 0 ≤ z ∧ z < 2147483629
  rest : 0 ≤ r.rest
  turn : 0 ≤ r.turn
  few : r.turn + n ≤ 1000000000000
theorem Dw.mono {n m : Nat} {r : Dr} (h : Dw n r) (l : m ≤ n) : Dw m r := ⟨h.key, h.wide, h.cells, h.rest, h.turn, by have := h.few; omega⟩
def E_in : M Fl := setS 4 (opd2 (.e (opd1 (.e (opd2 (.e (opd2 (.e (opd2 (.n 4) (.e (cD (.int 69621))) (lift2 mulD))) (.n 5) (lift2 addD))) (.n 2) (lift2 addD))) (lift1 toIntD))) (.n 1) (lift2 modD))
def E_out : M Fl := (seqS (setS 4 (opd2 (.e (opd2 (.e (cD (.int 48271))) (.n 2) (lift2 mulD))) (.e (opd2 (.n 1) (.e (cD (.int 37))) (lift2 fdivD))) (lift2 addD)))
  (seqS (forM (itD (drCells 0)) (gN 5) E_in)
  (setS 3 (opd2 (.e (opd2 (.n 3) (.e (cD (.int 2147483647))) (lift2 mulD))) (.e (opd2 (.e (opd1 (.e (opd2 (.n 4) (.e (cD (.int 5))) (lift2 powD))) (lift1 toIntD))) (.n 1) (lift2 modD))) (lift2 addD)))))
def E_mixed : FD := fxOf 1 5 (seqS (parS 2 3 (opd2 (.e (drTurn 0)) (.e (cD (.int 1))) (lift2 addD)) (cD (.int 0)))
  (seqS (drPutS 0 (fun r n => { r with turn := n }) (vD 2))
  (seqS (forM (itD (lstD (consA (cD (.int 2147483647)) (consA (cD (.int 2147483629)) (consA (cD (.int 2147483587)) (consA (cD (.int 2147483579)) nilA)))))) (gN 1) E_out)
  (retS (vD 3)))))
theorem for_done {g : D → S → Option S} {body : M Fl} (I : Nat → S → Prop) (items : List D) (s : S) (h0 : I 0 s) (h : ∀ (i : Nat) (x : D) (s : S), items[i]? = some x → I i s → ∃ s1 s2, g x s = some s1 ∧ (body s1 = .ok .nx s2 ∨ body s1 = .ok .ct s2) ∧ I (i + 1) s2) : ∃ s2, forS g body items s = .ok .nx s2 ∧ I items.length s2 := by
  have z := forS_inv I items h items.length 0 s (by omega) (by omega) h0
  simpa using z
theorem size_ok {n : Nat} (h : n ≤ 1000) : n ≤ sizeLine := by rw [sizeLine_eq]; omega
theorem inner {r : Dr} {p t f : Int} {x1 : Sl} (hk : r.key = "wide") (hc : ∀ z ∈ r.cells, 0 ≤ z ∧ z < 2147483629) (hp : 2147483579 ≤ p ∧ p ≤ 2147483647) (ht : 0 ≤ t ∧ t ≤ 1000000000000) (b : Int) (hb : 0 ≤ b ∧ b < 2 ^ 63) :
    ∃ b' g, 0 ≤ b' ∧ b' < 2 ^ 63 ∧ forM (itD (drCells 0)) (gN 5) E_in ⟨[.d tok, .d (.int p), .d (.int t), .d (.int f), .d (.int b), x1], some r⟩ = .ok .nx ⟨[.d tok, .d (.int p), .d (.int t), .d (.int f), .d (.int b'), g], some r⟩ := by
  obtain ⟨s2, e, b', g, h1, h2, rfl⟩ := for_done (g := gN 5) (body := E_in) (fun _ s => ∃ b' g, 0 ≤ b' ∧ b' < 2 ^ 63 ∧ s = ⟨[.d tok, .d (.int p), .d (.int t), .d (.int f), .d (.int b'), g], some r⟩) (r.cells.map .int) ⟨[.d tok, .d (.int p), .d (.int t), .d (.int f), .d (.int b), x1], some r⟩ ⟨b, x1, hb.1, hb.2, rfl⟩ (by
    rintro i x s hx ⟨b', g, h1, h2, rfl⟩
    rw [List.getElem?_map] at hx
    obtain ⟨c, hc1, rfl⟩ := Option.map_eq_some_iff.mp hx
    have hcc := hc c (List.mem_of_getElem? hc1)
    have hm : b'.natAbs.log2 + (69621 : Int).natAbs.log2 < 1000000 := by
      have := log2_le (n := b'.natAbs) (k := 63) (by omega)
      have e2 : (69621 : Int).natAbs.log2 ≤ 17 := log2_le (by decide)
      omega
    refine ⟨⟨[.d tok, .d (.int p), .d (.int t), .d (.int f), .d (.int b'), .d (.int c)], some r⟩, ⟨[.d tok, .d (.int p), .d (.int t), .d (.int f), .d (.int ((b' * 69621 + c + t) % p)), .d (.int c)], some r⟩, rfl, .inl ?_, (b' * 69621 + c + t) % p, .d (.int c), Int.emod_nonneg _ (by omega), ?_, rfl⟩
    · unfold E_in
      simp only [fxOf, runD, seqS, retS, retN, ifS, exprS, setS, setE, cD, vD, opd1, opd2, pkS, lift1, lift2, andD, orD, notD, boolD, ofD, boolT, notT, andT, orT, ifD, opdT, callD, callF, consA, nilA, tupD, lstD, Sl.val, nxS, bkS, ctS, raiseS, parS, par3S, asgS, gT, gsCons, gsNil, gN, drAt, drRest, drTurn, drCells, drMore, drPop, drPutS, Out.bind_ok, Out.bind_exc, Out.bind_bad, List.getElem?_cons_zero, List.getElem?_cons_succ, List.getElem?_nil, List.set_cons_zero, List.set_cons_succ, List.length_cons, List.length_nil, List.map_cons, List.map_nil, List.replicate, List.cons_append, List.nil_append, Nat.reduceAdd, Nat.reduceLT, Nat.lt_irrefl, if_true, if_false, Option.bind_some, Option.bind_none, Option.map_some, Option.map_none, and_self, and_true, true_and, ite_true, ite_false, List.cons.injEq, reduceCtorEq, not_true_eq_false, not_false_eq_true, ne_eq, Nat.reduceEqDiff, okKeyW, mulD_int hm, addD_int, toIntD, modD_int (show 0 < p by omega)]
    · have := Int.emod_lt_of_pos (b' * 69621 + c + t) (show 0 < p by omega)
      omega)
  refine ⟨b', g, h1, h2, ?_⟩
  unfold forM
  simp only [itD, drCells, drAt, List.getElem?_cons_zero, hk, okKeyW, if_true, Out.bind_ok, Sl.val]
  exact e
theorem mixed_ok {n : Nat} {r : Dr} (h : Dw (n + 1) r) : ∃ v r', 0 ≤ v ∧ Dw n r' ∧ E_mixed [tok] (some r) = .ok (.int v) (some r') := by
  obtain ⟨key, wide, cells, rest, turn⟩ := r
  obtain ⟨hk, hw, hc, hr, ht, hf⟩ := h
  have hk : key = "wide" := hk
  subst hk
  simp only at hw hc hr ht hf
  obtain ⟨t, et⟩ : ∃ t, t = turn + 1 := ⟨_, rfl⟩
  have hin : ∀ (i : Nat) (p : Int), ([2147483647, 2147483629, 2147483587, 2147483579] : List Int)[i]? = some p → 2147483579 ≤ p ∧ p ≤ 2147483647 := by
    intro i p h
    have := List.mem_of_getElem? h
    simp at this
    omega
  obtain ⟨s2, e, f, x1, x4, x5, h1, h2, rfl⟩ := for_done (g := gN 1) (body := E_out) (fun i s => ∃ f x1 x4 x5, 0 ≤ f ∧ f < 2 ^ (32 * i) ∧ s = ⟨[.d tok, x1, .d (.int t), .d (.int f), x4, x5], some ⟨"wide", wide, cells, rest, t⟩⟩)
    (([2147483647, 2147483629, 2147483587, 2147483579] : List Int).map .int) ⟨[.d tok, .u, .d (.int t), .d (.int 0), .u, .u], some ⟨"wide", wide, cells, rest, t⟩⟩ ⟨0, .u, .u, .u, by omega, by decide, rfl⟩ (by
    rintro i x s hx ⟨f, x1, x4, x5, h1, h2, rfl⟩
    have hi : i < 4 := by
      have := (List.getElem?_eq_some_iff.mp hx).1
      simpa using this
    rw [List.getElem?_map] at hx
    obtain ⟨p, hp1, rfl⟩ := Option.map_eq_some_iff.mp hx
    have hp := hin i p hp1
    have q0 : 0 ≤ p / 37 := by omega
    have hm : (48271 : Int).natAbs.log2 + t.natAbs.log2 < 1000000 := by
      have := log2_le (n := t.natAbs) (k := 63) (by omega)
      have e2 : (48271 : Int).natAbs.log2 ≤ 17 := log2_le (by decide)
      omega
    obtain ⟨b, g, b0, b1, eb⟩ := inner (r := ⟨"wide", wide, cells, rest, t⟩) (p := p) (t := t) (f := f) (x1 := x5) rfl hc hp (by omega) (48271 * t + p / 37) (by omega)
    have hm2 : f.natAbs.log2 + (2147483647 : Int).natAbs.log2 < 1000000 := by
      have l : f.natAbs < 2 ^ 128 := by
        have : i = 0 ∨ i = 1 ∨ i = 2 ∨ i = 3 := by omega
        rcases this with rfl | rfl | rfl | rfl <;> (simp only [Nat.reduceMul] at h2; omega)
      have := log2_le l
      have e2 : (2147483647 : Int).natAbs.log2 ≤ 32 := log2_le (by decide)
      omega
    refine ⟨⟨[.d tok, .d (.int p), .d (.int t), .d (.int f), x4, x5], some ⟨"wide", wide, cells, rest, t⟩⟩, ⟨[.d tok, .d (.int p), .d (.int t), .d (.int (f * 2147483647 + b ^ (5 : Int).toNat % p)), .d (.int b), g], some ⟨"wide", wide, cells, rest, t⟩⟩, rfl, .inl ?_, f * 2147483647 + b ^ (5 : Int).toNat % p, .d (.int p), .d (.int b), g, ?_, ?_, rfl⟩
    · unfold E_out
      simp only [fxOf, runD, seqS, retS, retN, ifS, exprS, setS, setE, cD, vD, opd1, opd2, pkS, lift1, lift2, andD, orD, notD, boolD, ofD, boolT, notT, andT, orT, ifD, opdT, callD, callF, consA, nilA, tupD, lstD, Sl.val, nxS, bkS, ctS, raiseS, parS, par3S, asgS, gT, gsCons, gsNil, gN, drAt, drRest, drTurn, drCells, drMore, drPop, drPutS, Out.bind_ok, Out.bind_exc, Out.bind_bad, List.getElem?_cons_zero, List.getElem?_cons_succ, List.getElem?_nil, List.set_cons_zero, List.set_cons_succ, List.length_cons, List.length_nil, List.map_cons, List.map_nil, List.replicate, List.cons_append, List.nil_append, Nat.reduceAdd, Nat.reduceLT, Nat.lt_irrefl, if_true, if_false, Option.bind_some, Option.bind_none, Option.map_some, Option.map_none, and_self, and_true, true_and, ite_true, ite_false, List.cons.injEq, reduceCtorEq, not_true_eq_false, not_false_eq_true, ne_eq, Nat.reduceEqDiff, okKeyW, mulD_int hm, addD_int, fdivD_int (show (0 : Int) < 37 by decide) (show (37 : Int).natAbs.log2 < 9000 by decide), eb]
      simp only [fxOf, runD, seqS, retS, retN, ifS, exprS, setS, setE, cD, vD, opd1, opd2, pkS, lift1, lift2, andD, orD, notD, boolD, ofD, boolT, notT, andT, orT, ifD, opdT, callD, callF, consA, nilA, tupD, lstD, Sl.val, nxS, bkS, ctS, raiseS, parS, par3S, asgS, gT, gsCons, gsNil, gN, drAt, drRest, drTurn, drCells, drMore, drPop, drPutS, Out.bind_ok, Out.bind_exc, Out.bind_bad, List.getElem?_cons_zero, List.getElem?_cons_succ, List.getElem?_nil, List.set_cons_zero, List.set_cons_succ, List.length_cons, List.length_nil, List.map_cons, List.map_nil, List.replicate, List.cons_append, List.nil_append, Nat.reduceAdd, Nat.reduceLT, Nat.lt_irrefl, if_true, if_false, Option.bind_some, Option.bind_none, Option.map_some, Option.map_none, and_self, and_true, true_and, ite_true, ite_false, List.cons.injEq, reduceCtorEq, not_true_eq_false, not_false_eq_true, ne_eq, Nat.reduceEqDiff, okKeyW, mulD_int hm2, powD_int (show (0 : Int) ≤ 5 by decide) (show (5 : Int) ≤ 1000000 by decide) (show b.natAbs < 2 ^ 64 by omega), toIntD, modD_int (show 0 < p by omega), addD_int]
    · have := Int.emod_nonneg (b ^ (5 : Int).toNat) (show p ≠ 0 by omega)
      omega
    · have e1 := Int.emod_lt_of_pos (b ^ (5 : Int).toNat) (show 0 < p by omega)
      have e2 : (2 : Int) ^ (32 * (i + 1)) = 2 ^ (32 * i) * 4294967296 := by
        rw [show 32 * (i + 1) = 32 * i + 32 by omega, Int.pow_add]
        rfl
      rw [e2]
      generalize (2 : Int) ^ (32 * i) = z at h2
      generalize b ^ (5 : Int).toNat % p = y at e1
      omega)
  refine ⟨f, ⟨"wide", wide, cells, rest, t⟩, h1, ⟨rfl, hw, hc, hr, by show 0 ≤ t; omega, by show t + n ≤ _; omega⟩, ?_⟩
  unfold E_mixed
  have e : forS (gN 1) E_out [.int 2147483647, .int 2147483629, .int 2147483587, .int 2147483579] ⟨[.d tok, .u, .d (.int t), .d (.int 0), .u, .u], some ⟨"wide", wide, cells, rest, t⟩⟩ = .ok .nx ⟨[.d tok, x1, .d (.int t), .d (.int f), x4, x5], some ⟨"wide", wide, cells, rest, t⟩⟩ := e
  simp only [fxOf, runD, seqS, retS, retN, ifS, exprS, setS, setE, cD, vD, opd1, opd2, pkS, lift1, lift2, andD, orD, notD, boolD, ofD, boolT, notT, andT, orT, ifD, opdT, callD, callF, consA, nilA, tupD, lstD, Sl.val, nxS, bkS, ctS, raiseS, parS, par3S, asgS, gT, gsCons, gsNil, gN, drAt, drRest, drTurn, drCells, drMore, drPop, drPutS, Out.bind_ok, Out.bind_exc, Out.bind_bad, List.getElem?_cons_zero, List.getElem?_cons_succ, List.getElem?_nil, List.set_cons_zero, List.set_cons_succ, List.length_cons, List.length_nil, List.map_cons, List.map_nil, List.replicate, List.cons_append, List.nil_append, Nat.reduceAdd, Nat.reduceLT, Nat.lt_irrefl, if_true, if_false, Option.bind_some, Option.bind_none, Option.map_some, Option.map_none, and_self, and_true, true_and, ite_true, ite_false, List.cons.injEq, reduceCtorEq, not_true_eq_false, not_false_eq_true, ne_eq, Nat.reduceEqDiff, okKeyW, addD_int, forM, itD, if_pos (size_ok (show 0 + 1 + 1 + 1 + 1 ≤ 1000 by decide)), ← et, e]
def E_take : FD := fxOf 2 1 (seqS (ifS (opdT (.e (drRest 0)) (.e (cD (.int 0))) eqD) (drPutS 0 (fun r n => { r with rest := n }) (ifD (ofD (drMore 0 "wide")) (drPop 0 "wide") (callD E_mixed (consA (vD 0) nilA)))) nxS)
  (seqS (setS 2 (opd2 (.e (opd1 (.e (drRest 0)) (lift1 toIntD))) (.n 1) (lift2 modD)))
  (seqS (drPutS 0 (fun r n => { r with rest := n }) (opd2 (.e (drRest 0)) (.n 1) (lift2 fdivD)))
  (retS (vD 2)))))
theorem take_ok {n : Nat} {r : Dr} {m : Int} (h : Dw (n + 1) r) (hm : 0 < m) (hm2 : m.natAbs.log2 < 9000 := by first | decide | omega) : ∃ v r', 0 ≤ v ∧ v < m ∧ Dw n r' ∧ E_take [tok, .int m] (some r) = .ok (.int v) (some r') := by
  -- from a state whose rest is known
  have fin : ∀ r1 : Dr, Dw n r1 → ∃ v r', 0 ≤ v ∧ v < m ∧ Dw n r' ∧ (seqS (setS 2 (opd2 (.e (opd1 (.e (drRest 0)) (lift1 toIntD))) (.n 1) (lift2 modD)))
      (seqS (drPutS 0 (fun r n => { r with rest := n }) (opd2 (.e (drRest 0)) (.n 1) (lift2 fdivD))) (retS (vD 2)))) ⟨[.d tok, .d (.int m), .u], some r1⟩ = .ok (.rt (.d (.int v))) ⟨[.d tok, .d (.int m), .d (.int v)], some r'⟩ := by
    intro r1 h1
    refine ⟨r1.rest % m, { r1 with rest := r1.rest / m }, Int.emod_nonneg _ (by omega), Int.emod_lt_of_pos _ hm, ⟨h1.key, h1.wide, h1.cells, Int.ediv_nonneg h1.rest (by omega), h1.turn, h1.few⟩, ?_⟩
    simp only [fxOf, runD, seqS, retS, retN, ifS, exprS, setS, setE, cD, vD, opd1, opd2, pkS, lift1, lift2, andD, orD, notD, boolD, ofD, boolT, notT, andT, orT, ifD, opdT, callD, callF, consA, nilA, tupD, lstD, Sl.val, nxS, bkS, ctS, raiseS, parS, par3S, asgS, gT, gsCons, gsNil, gN, drAt, drRest, drTurn, drCells, drMore, drPop, drPutS, Out.bind_ok, Out.bind_exc, Out.bind_bad, List.getElem?_cons_zero, List.getElem?_cons_succ, List.getElem?_nil, List.set_cons_zero, List.set_cons_succ, List.length_cons, List.length_nil, List.map_cons, List.map_nil, List.replicate, List.cons_append, List.nil_append, Nat.reduceAdd, Nat.reduceLT, Nat.lt_irrefl, if_true, if_false, Option.bind_some, Option.bind_none, Option.map_some, Option.map_none, and_self, and_true, true_and, ite_true, ite_false, List.cons.injEq, reduceCtorEq, not_true_eq_false, not_false_eq_true, ne_eq, Nat.reduceEqDiff, okKeyW, h1.key, toIntD, modD_int hm, fdivD_int hm hm2]
  have go : ∀ r1 : Dr, Dw n r1 → (ifS (opdT (.e (drRest 0)) (.e (cD (.int 0))) eqD) (drPutS 0 (fun r n => { r with rest := n }) (ifD (ofD (drMore 0 "wide")) (drPop 0 "wide") (callD E_mixed (consA (vD 0) nilA)))) nxS) ⟨[.d tok, .d (.int m), .u], some r⟩ = .ok .nx ⟨[.d tok, .d (.int m), .u], some r1⟩ →
      ∃ v r', 0 ≤ v ∧ v < m ∧ Dw n r' ∧ E_take [tok, .int m] (some r) = .ok (.int v) (some r') := by
    intro r1 h1 e
    obtain ⟨v, r', v0, v1, w, e2⟩ := fin r1 h1
    refine ⟨v, r', v0, v1, w, ?_⟩
    unfold E_take fxOf runD
    simp only [List.length_cons, List.length_nil, Nat.reduceAdd, if_true, List.map_cons, List.map_nil, List.replicate, List.cons_append, List.nil_append]
    rw [seqS, e]
    simp only
    rw [e2]
    rfl
  by_cases hz : r.rest = 0
  · cases hw : r.wide with
    | nil =>
      obtain ⟨v, r', v0, w, e⟩ := mixed_ok h
      refine go { r' with rest := v } ⟨w.key, w.wide, w.cells, v0, w.turn, w.few⟩ ?_
      have k1 := h.key
      have k2 := w.key
      simp only [fxOf, runD, seqS, retS, retN, ifS, exprS, setS, setE, cD, vD, opd1, opd2, pkS, lift1, lift2, andD, orD, notD, boolD, ofD, boolT, notT, andT, orT, ifD, opdT, callD, callF, consA, nilA, tupD, lstD, Sl.val, nxS, bkS, ctS, raiseS, parS, par3S, asgS, gT, gsCons, gsNil, gN, drAt, drRest, drTurn, drCells, drMore, drPop, drPutS, Out.bind_ok, Out.bind_exc, Out.bind_bad, List.getElem?_cons_zero, List.getElem?_cons_succ, List.getElem?_nil, List.set_cons_zero, List.set_cons_succ, List.length_cons, List.length_nil, List.map_cons, List.map_nil, List.replicate, List.cons_append, List.nil_append, Nat.reduceAdd, Nat.reduceLT, Nat.lt_irrefl, if_true, if_false, Option.bind_some, Option.bind_none, Option.map_some, Option.map_none, and_self, and_true, true_and, ite_true, ite_false, List.cons.injEq, reduceCtorEq, not_true_eq_false, not_false_eq_true, ne_eq, Nat.reduceEqDiff, okKeyW, h.key, hz, eqD_int, decide_true, hw, decide_false, Bool.false_eq_true, e, k2]
    | cons z zs =>
      refine go { r with wide := zs, rest := z } ⟨h.key, fun y hy => h.wide y (by rw [hw]; exact List.mem_cons_of_mem _ hy), h.cells, h.wide z (by rw [hw]; exact List.mem_cons_self), h.turn, by have := h.few; show r.turn + n ≤ _; omega⟩ ?_
      simp only [fxOf, runD, seqS, retS, retN, ifS, exprS, setS, setE, cD, vD, opd1, opd2, pkS, lift1, lift2, andD, orD, notD, boolD, ofD, boolT, notT, andT, orT, ifD, opdT, callD, callF, consA, nilA, tupD, lstD, Sl.val, nxS, bkS, ctS, raiseS, parS, par3S, asgS, gT, gsCons, gsNil, gN, drAt, drRest, drTurn, drCells, drMore, drPop, drPutS, Out.bind_ok, Out.bind_exc, Out.bind_bad, List.getElem?_cons_zero, List.getElem?_cons_succ, List.getElem?_nil, List.set_cons_zero, List.set_cons_succ, List.length_cons, List.length_nil, List.map_cons, List.map_nil, List.replicate, List.cons_append, List.nil_append, Nat.reduceAdd, Nat.reduceLT, Nat.lt_irrefl, if_true, if_false, Option.bind_some, Option.bind_none, Option.map_some, Option.map_none, and_self, and_true, true_and, ite_true, ite_false, List.cons.injEq, reduceCtorEq, not_true_eq_false, not_false_eq_true, ne_eq, Nat.reduceEqDiff, okKeyW, h.key, hz, eqD_int, decide_true, hw, decide_false, Bool.false_eq_true]
  · refine go r (h.mono (by omega)) ?_
    simp only [fxOf, runD, seqS, retS, retN, ifS, exprS, setS, setE, cD, vD, opd1, opd2, pkS, lift1, lift2, andD, orD, notD, boolD, ofD, boolT, notT, andT, orT, ifD, opdT, callD, callF, consA, nilA, tupD, lstD, Sl.val, nxS, bkS, ctS, raiseS, parS, par3S, asgS, gT, gsCons, gsNil, gN, drAt, drRest, drTurn, drCells, drMore, drPop, drPutS, Out.bind_ok, Out.bind_exc, Out.bind_bad, List.getElem?_cons_zero, List.getElem?_cons_succ, List.getElem?_nil, List.set_cons_zero, List.set_cons_succ, List.length_cons, List.length_nil, List.map_cons, List.map_nil, List.replicate, List.cons_append, List.nil_append, Nat.reduceAdd, Nat.reduceLT, Nat.lt_irrefl, if_true, if_false, Option.bind_some, Option.bind_none, Option.map_some, Option.map_none, and_self, and_true, true_and, ite_true, ite_false, List.cons.injEq, reduceCtorEq, not_true_eq_false, not_false_eq_true, ne_eq, Nat.reduceEqDiff, okKeyW, h.key, eqD_int, hz, decide_false, Bool.false_eq_true]
def E_pick : FD := fxOf 2 0 (retS (opd2 (.n 1) (.e (callD E_take (consA (vD 0) (consA (opd1 (.n 1) (lift1 lenD)) nilA)))) (lift2 ixD)))
theorem few_log {n : Nat} (h : n ≤ 1000000) : (n : Int).natAbs.log2 < 9000 := by
  have := log2_le (n := n) (k := 20) (by omega)
  show n.log2 < 9000
  omega
theorem pick_ok {n : Nat} {r : Dr} {xs : List D} (h : Dw (n + 1) r) (hx : xs ≠ []) (hl : xs.length ≤ 1000000) : ∃ x ∈ xs, ∃ r', Dw n r' ∧ E_pick [tok, .list xs] (some r) = .ok x (some r') := by
  have hp : 0 < xs.length := List.length_pos_iff.mpr hx
  obtain ⟨v, r', v0, v1, w, e⟩ := take_ok (m := xs.length) h (by omega) (few_log hl)
  obtain ⟨k, rfl⟩ : ∃ k : Nat, v = k := ⟨v.toNat, by omega⟩
  have hk : k < xs.length := by omega
  refine ⟨xs[k], List.getElem_mem hk, r', w, ?_⟩
  unfold E_pick
  simp only [fxOf, runD, seqS, retS, retN, ifS, exprS, setS, setE, cD, vD, opd1, opd2, pkS, lift1, lift2, andD, orD, notD, boolD, ofD, boolT, notT, andT, orT, ifD, opdT, callD, callF, consA, nilA, tupD, lstD, Sl.val, nxS, bkS, ctS, raiseS, parS, par3S, asgS, gT, gsCons, gsNil, gN, drAt, drRest, drTurn, drCells, drMore, drPop, drPutS, Out.bind_ok, Out.bind_exc, Out.bind_bad, List.getElem?_cons_zero, List.getElem?_cons_succ, List.getElem?_nil, List.set_cons_zero, List.set_cons_succ, List.length_cons, List.length_nil, List.map_cons, List.map_nil, List.replicate, List.cons_append, List.nil_append, Nat.reduceAdd, Nat.reduceLT, Nat.lt_irrefl, if_true, if_false, Option.bind_some, Option.bind_none, Option.map_some, Option.map_none, and_self, and_true, true_and, ite_true, ite_false, List.cons.injEq, reduceCtorEq, not_true_eq_false, not_false_eq_true, ne_eq, Nat.reduceEqDiff, okKeyW, lenD, e, ixD, L2.atI_nat (List.getElem?_eq_getElem hk)]
theorem pick_okT {n : Nat} {r : Dr} {xs : List D} (h : Dw (n + 1) r) (hx : xs ≠ []) (hl : xs.length ≤ 1000000) : ∃ x ∈ xs, ∃ r', Dw n r' ∧ E_pick [tok, .tuple xs] (some r) = .ok x (some r') := by
  have hp : 0 < xs.length := List.length_pos_iff.mpr hx
  obtain ⟨v, r', v0, v1, w, e⟩ := take_ok (m := xs.length) h (by omega) (few_log hl)
  obtain ⟨k, rfl⟩ : ∃ k : Nat, v = k := ⟨v.toNat, by omega⟩
  have hk : k < xs.length := by omega
  refine ⟨xs[k], List.getElem_mem hk, r', w, ?_⟩
  unfold E_pick
  simp only [fxOf, runD, seqS, retS, retN, ifS, exprS, setS, setE, cD, vD, opd1, opd2, pkS, lift1, lift2, andD, orD, notD, boolD, ofD, boolT, notT, andT, orT, ifD, opdT, callD, callF, consA, nilA, tupD, lstD, Sl.val, nxS, bkS, ctS, raiseS, parS, par3S, asgS, gT, gsCons, gsNil, gN, drAt, drRest, drTurn, drCells, drMore, drPop, drPutS, Out.bind_ok, Out.bind_exc, Out.bind_bad, List.getElem?_cons_zero, List.getElem?_cons_succ, List.getElem?_nil, List.set_cons_zero, List.set_cons_succ, List.length_cons, List.length_nil, List.map_cons, List.map_nil, List.replicate, List.cons_append, List.nil_append, Nat.reduceAdd, Nat.reduceLT, Nat.lt_irrefl, if_true, if_false, Option.bind_some, Option.bind_none, Option.map_some, Option.map_none, and_self, and_true, true_and, ite_true, ite_false, List.cons.injEq, reduceCtorEq, not_true_eq_false, not_false_eq_true, ne_eq, Nat.reduceEqDiff, okKeyW, lenD, e, ixD, L2.atI_nat (List.getElem?_eq_getElem hk)]
theorem pick_okS {n : Nat} {r : Dr} {z : Str} (h : Dw (n + 1) r) (hx : z.cps.toList ≠ []) (hl : z.length ≤ 1000000) : ∃ c ∈ z.cps.toList, ∃ r', Dw n r' ∧ E_pick [tok, .str z] (some r) = .ok (.str ⟨#[c]⟩) (some r') := by
  have hp : 0 < z.cps.toList.length := List.length_pos_iff.mpr hx
  have hz : z.length = z.cps.toList.length := by simp [Str.length]
  obtain ⟨v, r', v0, v1, w, e⟩ := take_ok (m := z.length) h (by omega) (few_log hl)
  obtain ⟨k, rfl⟩ : ∃ k : Nat, v = k := ⟨v.toNat, by omega⟩
  have hk : k < z.cps.toList.length := by omega
  refine ⟨z.cps.toList[k], List.getElem_mem hk, r', w, ?_⟩
  unfold E_pick
  have hs : z.length ≤ sizeLine := by rw [sizeLine_eq]; omega
  simp only [fxOf, runD, seqS, retS, retN, ifS, exprS, setS, setE, cD, vD, opd1, opd2, pkS, lift1, lift2, andD, orD, notD, boolD, ofD, boolT, notT, andT, orT, ifD, opdT, callD, callF, consA, nilA, tupD, lstD, Sl.val, nxS, bkS, ctS, raiseS, parS, par3S, asgS, gT, gsCons, gsNil, gN, drAt, drRest, drTurn, drCells, drMore, drPop, drPutS, Out.bind_ok, Out.bind_exc, Out.bind_bad, List.getElem?_cons_zero, List.getElem?_cons_succ, List.getElem?_nil, List.set_cons_zero, List.set_cons_succ, List.length_cons, List.length_nil, List.map_cons, List.map_nil, List.replicate, List.cons_append, List.nil_append, Nat.reduceAdd, Nat.reduceLT, Nat.lt_irrefl, if_true, if_false, Option.bind_some, Option.bind_none, Option.map_some, Option.map_none, and_self, and_true, true_and, ite_true, ite_false, List.cons.injEq, reduceCtorEq, not_true_eq_false, not_false_eq_true, ne_eq, Nat.reduceEqDiff, okKeyW, lenD, if_pos hs, e, ixD, L2.atI_nat (List.getElem?_eq_getElem hk)]
/-! ### shuffled -/
theorem while_done {t : M Bool} {body : M Fl} (I : Nat → S → Prop) (Post : S → Prop) (h0 : ∀ s, I 0 s → ∃ s1, t s = .ok false s1 ∧ Post s1) (hS : ∀ k s, I (k + 1) s → ∃ s1 s2, t s = .ok true s1 ∧ (body s1 = .ok .nx s2 ∨ body s1 = .ok .ct s2) ∧ I k s2) :
    ∀ (k fuel : Nat) (s : S), k < fuel → I k s → ∃ s', whileF t body fuel s = .ok .nx s' ∧ Post s'
  | 0, 0, s, h, _ => by omega
  | 0, f + 1, s, _, hi => by
    obtain ⟨s1, e, p⟩ := h0 s hi
    refine ⟨s1, ?_, p⟩
    rw [whileF, e]
  | k + 1, 0, s, h, _ => by omega
  | k + 1, f + 1, s, h, hi => by
    obtain ⟨s1, s2, e, e2, hi2⟩ := hS k s hi
    obtain ⟨s3, e3, p⟩ := while_done I Post h0 hS k f s2 (by omega) hi2
    refine ⟨s3, ?_, p⟩
    rw [whileF, e]
    rcases e2 with e2 | e2 <;> simp only [e2] <;> exact e3
theorem few_FU {k : Nat} (h : k ≤ 1000000) : k < FU := by
  unfold FU
  omega
theorem seqIx {k n : Nat} (h : k < n) : seqIndex? (k : Int) n = some k := by
  unfold seqIndex?
  have h1 : ¬ ((k : Int) < 0) := by omega
  simp only [h1, if_false]
  have h2 : (decide ((0 : Int) ≤ k) && decide ((k : Int) < n)) = true := by simp [h]
  rw [if_pos h2]
  simp
theorem popD_nat {i j : Nat} {m : M Sl} {s s1 : S} {xs ys : List D} (e0 : s.env[i]? = some (.o (.list ys))) (e2 : m s = .ok (.d (.int (j : Nat))) s1) (e1 : s1.env[i]? = some (.o (.list xs))) (hj : j < xs.length) (hl : xs.length ≤ 1000000) :
    popD i m s = .ok (.d xs[j]) { s1 with env := s1.env.set i (.o (.list (xs.eraseIdx j))) } := by
  have hj2 : -(2 ^ 63) ≤ (j : Int) ∧ (j : Int) < 2 ^ 63 := by omega
  unfold popD ownL
  rw [e0]
  simp only [e2, Out.bind_ok, e1, Sl.val]
  refine (if_pos hj2).trans ?_
  rw [seqIx hj]
  simp only [List.getElem?_eq_getElem hj]
theorem appD_ok {i : Nat} {m : M Sl} {s s1 : S} {r : Sl} {xs ys : List D} (e0 : s.env[i]? = some (.o (.list ys))) (e2 : m s = .ok r s1) (e1 : s1.env[i]? = some (.o (.list xs))) (hl : xs.length ≤ 1000000) :
    appD i m s = .ok (.d .none) { s1 with env := s1.env.set i (.o (.list (xs ++ [r.val]))) } := by
  have hb : xs.length < sizeLine := by rw [sizeLine_eq]; omega
  unfold appD ownL
  rw [e0]
  simp only [e2, Out.bind_ok, e1]
  exact if_pos hb
def shOkD (xs : List D) : Prop := ∀ x ∈ xs, x.plain = true ∧ x.depth ≤ 58
theorem okD_list {xs : List D} (h : shOkD xs) : okD (.list xs) = true := by
  have h1 : PyData.plainAll xs = true ∧ PyData.depthAll xs ≤ 58 := by
    induction xs with
    | nil => exact ⟨rfl, by simp [PyData.depthAll]⟩
    | cons x xs ih =>
      obtain ⟨a, b⟩ := h x List.mem_cons_self
      obtain ⟨c, d⟩ := ih fun y hy => h y (List.mem_cons_of_mem _ hy)
      exact ⟨by rw [PyData.plainAll, a, c]; rfl, by rw [PyData.depthAll]; omega⟩
  unfold okD
  have h2 : (PyData.list xs).depth ≤ 60 := by
    rw [PyData.depth]
    omega
  simp [PyData.plain, h1.1, h2]
theorem neD_nil {xs : List D} (h : shOkD xs) : neD (.list xs) (.list []) = some (.d (.bool (!xs.isEmpty))) := by
  unfold neD
  rw [if_pos ⟨okD_list h, rfl⟩]
  cases xs <;> rfl
theorem eqD_nil {xs : List D} (h : shOkD xs) : eqD (.list xs) (.list []) = some (.d (.bool xs.isEmpty)) := by
  unfold eqD
  rw [if_pos ⟨okD_list h, rfl⟩]
  cases xs <;> rfl
def E_sT : M Bool := opdT (.n 2) (.e (lstD nilA)) neD
def E_sB : M Fl := exprS (appD 3 (popD 2 (callD E_take (consA (vD 0) (consA (opd1 (.n 2) (lift1 lenD)) nilA)))))
def E_shuffled : FD := fxOf 2 2 (seqS (parS 2 3 (opd1 (.n 1) (lift1 listD)) (lstD nilA))
  (seqS (whileF E_sT E_sB FU)
  (retS (vD 3))))
theorem seqS_nx {m n : M Fl} {s s1 : S} (h : m s = .ok .nx s1) : seqS m n s = n s1 := by
  unfold seqS
  rw [h]
theorem seqS_rt {m n : M Fl} {s s1 : S} {r : Sl} (h : m s = .ok (.rt r) s1) : seqS m n s = .ok (.rt r) s1 := by
  unfold seqS
  rw [h]
theorem seqS_exc {m n : M Fl} {s s1 : S} {c : Str} (h : m s = .exc c s1) : seqS m n s = .exc c s1 := by
  unfold seqS
  rw [h]
theorem fx_rt {k n : Nat} {m : M Fl} {ds : List D} {dr : Option Dr} {r : Sl} {s : S} (hl : ds.length = k) (h : m ⟨ds.map .d ++ List.replicate n .u, dr⟩ = .ok (.rt r) s) : fxOf k n m ds dr = .ok r.val s.dr := by
  unfold fxOf runD
  rw [if_pos hl, h]
theorem fx_nx {k n : Nat} {m : M Fl} {ds : List D} {dr : Option Dr} {s : S} (hl : ds.length = k) (h : m ⟨ds.map .d ++ List.replicate n .u, dr⟩ = .ok .nx s) : fxOf k n m ds dr = .ok .none s.dr := by
  unfold fxOf runD
  rw [if_pos hl, h]
theorem fx_exc {k n : Nat} {m : M Fl} {ds : List D} {dr : Option Dr} {c : Str} {s : S} (hl : ds.length = k) (h : m ⟨ds.map .d ++ List.replicate n .u, dr⟩ = .exc c s) : fxOf k n m ds dr = .exc c s.dr := by
  unfold fxOf runD
  rw [if_pos hl, h]
theorem perm_erase {xs : List D} {k : Nat} (h : k < xs.length) : (xs[k] :: xs.eraseIdx k).Perm xs := by
  induction xs generalizing k with
  | nil => simp at h
  | cons x xs ih =>
    cases k with
    | zero => exact .refl _
    | succ k =>
      have := ih (k := k) (by simpa using h)
      exact (List.Perm.swap _ _ _).trans (this.cons x)
theorem shuffled_ok {n : Nat} {r : Dr} {xs : List D} (hp : shOkD xs) (h : Dw (n + xs.length) r) (hl : xs.length ≤ 1000000) (c : D) (hc : c = .list xs ∨ c = .tuple xs) : ∃ ys : List D, ys.Perm xs ∧ ∃ r', Dw n r' ∧ E_shuffled [tok, c] (some r) = .ok (.list ys) (some r') := by
  obtain ⟨s', e, ys, x, r', hperm, hw, rfl⟩ := while_done (t := E_sT) (body := E_sB)
    (fun k s => ∃ (as bs : List D) (r' : Dr), as.length = k ∧ (as ++ bs).Perm xs ∧ Dw (n + k) r' ∧ s = ⟨[.d tok, .d c, .o (.list as), .o (.list bs)], some r'⟩)
    (fun s => ∃ (ys : List D) (x : Sl) (r' : Dr), ys.Perm xs ∧ Dw n r' ∧ s = ⟨[.d tok, .d c, x, .o (.list ys)], some r'⟩)
    (by
      rintro s ⟨as, bs, r', h1, h2, h3, rfl⟩
      obtain rfl : as = [] := List.length_eq_zero_iff.mp h1
      refine ⟨_, ?_, bs, .o (.list []), r', h2, h3, rfl⟩
      have := neD_nil (xs := []) (fun x hx => by cases hx)
      simp only [E_sT, fxOf, runD, seqS, retS, retN, ifS, exprS, setS, setE, cD, vD, opd1, opd2, pkS, lift1, lift2, andD, orD, notD, boolD, ofD, boolT, notT, andT, orT, ifD, opdT, callD, callF, consA, nilA, tupD, lstD, Sl.val, nxS, bkS, ctS, raiseS, parS, par3S, asgS, gT, gsCons, gsNil, gN, drAt, drRest, drTurn, drCells, drMore, drPop, drPutS, Out.bind_ok, Out.bind_exc, Out.bind_bad, List.getElem?_cons_zero, List.getElem?_cons_succ, List.getElem?_nil, List.set_cons_zero, List.set_cons_succ, List.length_cons, List.length_nil, List.map_cons, List.map_nil, List.replicate, List.cons_append, List.nil_append, Nat.reduceAdd, Nat.reduceLT, Nat.lt_irrefl, if_true, if_false, Option.bind_some, Option.bind_none, Option.map_some, Option.map_none, and_self, and_true, true_and, ite_true, ite_false, List.cons.injEq, reduceCtorEq, not_true_eq_false, not_false_eq_true, ne_eq, Nat.reduceEqDiff, okKeyW, if_pos (size_ok (show 0 ≤ 1000 by decide)), this, List.isEmpty_nil, Bool.not_true])
    (by
      rintro k s ⟨as, bs, r1, h1, h2, h3, rfl⟩
      have has : shOkD as := fun y hy => hp y (h2.mem_iff.mp (List.mem_append_left _ hy))
      have hlen := h2.length_eq
      rw [List.length_append] at hlen
      obtain ⟨v, r2, v0, v1, w, e⟩ := take_ok (m := as.length) (n := n + k) h3 (by omega) (few_log (by omega))
      obtain ⟨j, rfl⟩ : ∃ j : Nat, v = j := ⟨v.toNat, by omega⟩
      have hj : j < as.length := by omega
      refine ⟨⟨[.d tok, .d c, .o (.list as), .o (.list bs)], some r1⟩, ⟨[.d tok, .d c, .o (.list (as.eraseIdx j)), .o (.list (bs ++ [as[j]]))], some r2⟩, ?_, .inl ?_, as.eraseIdx j, bs ++ [as[j]], r2, ?_, ?_, w, rfl⟩
      · have : as.isEmpty = false := by
          cases as with
          | nil => simp at h1
          | cons _ _ => rfl
        simp only [E_sT, fxOf, runD, seqS, retS, retN, ifS, exprS, setS, setE, cD, vD, opd1, opd2, pkS, lift1, lift2, andD, orD, notD, boolD, ofD, boolT, notT, andT, orT, ifD, opdT, callD, callF, consA, nilA, tupD, lstD, Sl.val, nxS, bkS, ctS, raiseS, parS, par3S, asgS, gT, gsCons, gsNil, gN, drAt, drRest, drTurn, drCells, drMore, drPop, drPutS, Out.bind_ok, Out.bind_exc, Out.bind_bad, List.getElem?_cons_zero, List.getElem?_cons_succ, List.getElem?_nil, List.set_cons_zero, List.set_cons_succ, List.length_cons, List.length_nil, List.map_cons, List.map_nil, List.replicate, List.cons_append, List.nil_append, Nat.reduceAdd, Nat.reduceLT, Nat.lt_irrefl, if_true, if_false, Option.bind_some, Option.bind_none, Option.map_some, Option.map_none, and_self, and_true, true_and, ite_true, ite_false, List.cons.injEq, reduceCtorEq, not_true_eq_false, not_false_eq_true, ne_eq, Nat.reduceEqDiff, okKeyW, if_pos (size_ok (show 0 ≤ 1000 by decide)), neD_nil has, this, Bool.not_false]
      · have e4 : callD E_take (consA (vD 0) (consA (opd1 (.n 2) (lift1 lenD)) nilA)) ⟨[.d tok, .d c, .o (.list as), .o (.list bs)], some r1⟩ = .ok (.d (.int j)) ⟨[.d tok, .d c, .o (.list as), .o (.list bs)], some r2⟩ := by
          simp only [fxOf, runD, seqS, retS, retN, ifS, exprS, setS, setE, cD, vD, opd1, opd2, pkS, lift1, lift2, andD, orD, notD, boolD, ofD, boolT, notT, andT, orT, ifD, opdT, callD, callF, consA, nilA, tupD, lstD, Sl.val, nxS, bkS, ctS, raiseS, parS, par3S, asgS, gT, gsCons, gsNil, gN, drAt, drRest, drTurn, drCells, drMore, drPop, drPutS, Out.bind_ok, Out.bind_exc, Out.bind_bad, List.getElem?_cons_zero, List.getElem?_cons_succ, List.getElem?_nil, List.set_cons_zero, List.set_cons_succ, List.length_cons, List.length_nil, List.map_cons, List.map_nil, List.replicate, List.cons_append, List.nil_append, Nat.reduceAdd, Nat.reduceLT, Nat.lt_irrefl, if_true, if_false, Option.bind_some, Option.bind_none, Option.map_some, Option.map_none, and_self, and_true, true_and, ite_true, ite_false, List.cons.injEq, reduceCtorEq, not_true_eq_false, not_false_eq_true, ne_eq, Nat.reduceEqDiff, okKeyW, lenD, e]
        have e5 := popD_nat (i := 2) rfl e4 rfl hj (by omega)
        have e6 := appD_ok (i := 3) rfl e5 rfl (by omega)
        unfold E_sB exprS
        rw [e6]
        rfl
      · rw [List.length_eraseIdx_of_lt hj]
        omega
      · refine List.Perm.trans ?_ h2
        have p1 := perm_erase hj
        have p2 : (as.eraseIdx j ++ (bs ++ [as[j]])).Perm ((as[j] :: as.eraseIdx j) ++ bs) := by
          rw [← List.append_assoc]
          exact (List.perm_append_comm (l₁ := as.eraseIdx j ++ bs) (l₂ := [as[j]]))
        exact p2.trans (p1.append_right bs))
    xs.length FU ⟨[.d tok, .d c, .o (.list xs), .o (.list [])], some r⟩ (few_FU hl) ⟨xs, [], r, rfl, by rw [List.append_nil], h, rfl⟩
  refine ⟨ys, hperm, r', hw, ?_⟩
  have e1 : parS 2 3 (opd1 (.n 1) (lift1 listD)) (lstD nilA) ⟨[.d tok, .d c, .u, .u], some r⟩ = .ok .nx ⟨[.d tok, .d c, .o (.list xs), .o (.list [])], some r⟩ := by
    rcases hc with rfl | rfl <;> simp only [fxOf, runD, seqS, retS, retN, ifS, exprS, setS, setE, cD, vD, opd1, opd2, pkS, lift1, lift2, andD, orD, notD, boolD, ofD, boolT, notT, andT, orT, ifD, opdT, callD, callF, consA, nilA, tupD, lstD, Sl.val, nxS, bkS, ctS, raiseS, parS, par3S, asgS, gT, gsCons, gsNil, gN, drAt, drRest, drTurn, drCells, drMore, drPop, drPutS, Out.bind_ok, Out.bind_exc, Out.bind_bad, List.getElem?_cons_zero, List.getElem?_cons_succ, List.getElem?_nil, List.set_cons_zero, List.set_cons_succ, List.length_cons, List.length_nil, List.map_cons, List.map_nil, List.replicate, List.cons_append, List.nil_append, Nat.reduceAdd, Nat.reduceLT, Nat.lt_irrefl, if_true, if_false, Option.bind_some, Option.bind_none, Option.map_some, Option.map_none, and_self, and_true, true_and, ite_true, ite_false, List.cons.injEq, reduceCtorEq, not_true_eq_false, not_false_eq_true, ne_eq, Nat.reduceEqDiff, okKeyW, listD, if_pos (size_ok (show 0 ≤ 1000 by decide))]
  have e3 : retS (vD 3) ⟨[.d tok, .d c, x, .o (.list ys)], some r'⟩ = .ok (.rt (.d (.list ys))) ⟨[.d tok, .d c, x, .d (.list ys)], some r'⟩ := by
    simp only [fxOf, runD, seqS, retS, retN, ifS, exprS, setS, setE, cD, vD, opd1, opd2, pkS, lift1, lift2, andD, orD, notD, boolD, ofD, boolT, notT, andT, orT, ifD, opdT, callD, callF, consA, nilA, tupD, lstD, Sl.val, nxS, bkS, ctS, raiseS, parS, par3S, asgS, gT, gsCons, gsNil, gN, drAt, drRest, drTurn, drCells, drMore, drPop, drPutS, Out.bind_ok, Out.bind_exc, Out.bind_bad, List.getElem?_cons_zero, List.getElem?_cons_succ, List.getElem?_nil, List.set_cons_zero, List.set_cons_succ, List.length_cons, List.length_nil, List.map_cons, List.map_nil, List.replicate, List.cons_append, List.nil_append, Nat.reduceAdd, Nat.reduceLT, Nat.lt_irrefl, if_true, if_false, Option.bind_some, Option.bind_none, Option.map_some, Option.map_none, and_self, and_true, true_and, ite_true, ite_false, List.cons.injEq, reduceCtorEq, not_true_eq_false, not_false_eq_true, ne_eq, Nat.reduceEqDiff, okKeyW]
  exact fx_rt (k := 2) (n := 2) (ds := [tok, c]) (dr := some r) (s := ⟨[.d tok, .d c, x, .d (.list ys)], some r'⟩) rfl ((seqS_nx e1).trans ((seqS_nx e).trans e3))
end Dy
end
section
set_option Elab.async false
set_option linter.all false
set_option maxRecDepth 100000
set_option maxHeartbeats 4000000
/-! data: equal to itself, shown in a bounded text; told == due and repr(told) == repr(due) -/
namespace Dy
open PySem PySem.Spec
variable [LawI] [Ph]
mutual
theorem eqv_self : ∀ {d : D}, d.plain = true → PyData.eqv d d = true
  | .none, _ => rfl
  | .bool b, _ => by simp [PyData.eqv]
  | .int i, _ => by simp [PyData.eqv]
  | .str z, _ => by simp [PyData.eqv]
  | .list xs, h => by rw [PyData.eqv]; exact eqvs_self (by simpa [PyData.plain] using h)
  | .tuple xs, h => by rw [PyData.eqv]; exact eqvs_self (by simpa [PyData.plain] using h)
  | .dict _, h => nomatch h
theorem eqvs_self : ∀ {ds : List D}, PyData.plainAll ds = true → PyData.eqvAll ds ds = true
  | [], _ => rfl
  | d :: ds, h => by
    have h' : d.plain = true ∧ PyData.plainAll ds = true := by simpa [PyData.plainAll] using h
    rw [PyData.eqvAll, eqv_self h'.1, eqvs_self h'.2]
    rfl
end
mutual
/-- a bound of the text that is shown -/
def shB : D → Nat
  | .none => 4
  | .bool _ => 5
  | .int _ => 1921
  | .str z => 10 * z.length + 2
  | .list xs => shBs xs + 2
  | .tuple xs => shBs xs + 3
  | .dict _ => 0
def shBs : List D → Nat
  | [] => 0
  | d :: ds => shB d + 2 + shBs ds
end
mutual
/-- it may be shown: no dict, no too great number, signs alone in texts -/
def shOk : D → Bool
  | .none => true
  | .bool _ => true
  | .int i => decide (i.natAbs.log2 < 1920)
  | .str z => z.cps.toList.all fun c => decide (c < 4294967296)
  | .list xs => shOks xs
  | .tuple xs => shOks xs
  | .dict _ => false
def shOks : List D → Bool
  | [] => true
  | d :: ds => shOk d && shOks ds
end
theorem slen (z : String) : (z : Str).length = z.length := ofString_length z
def sumLen (ts : List Str) : Nat := (ts.map fun t => t.length + 2).foldr (· + ·) 0
theorem textFrom_len : ∀ (ts : List Str) (k : Nat) (acc : Str), (textFrom k acc ts).length ≤ acc.length + sumLen ts
  | [], _, _ => by simp [textFrom, sumLen]
  | t :: ts, k, acc => by
    have h := textFrom_len ts (k + 1) (acc ++ (if k > 0 then ", " else "" : String) ++ t)
    have h2 : ((if k > 0 then ", " else "" : String) : Str).length ≤ 2 := by
      split <;> (rw [slen]; decide)
    rw [textFrom]
    rw [strLen_append, strLen_append] at h
    have e : sumLen (t :: ts) = t.length + 2 + sumLen ts := rfl
    omega
theorem join_len : ∀ (ts : List Str), (Str.join ", " ts).length ≤ sumLen ts
  | [] => by simp [Str.join, sumLen, Str.length, Str.empty]
  | [t] => by simp [Str.join, sumLen]
  | t :: u :: ts => by
    have h := join_len (u :: ts)
    have e : sumLen (t :: u :: ts) = t.length + 2 + sumLen (u :: ts) := rfl
    rw [Str.join, strLen_append, strLen_append]
    rotate_left
    · intro z; cases z
    have h2 : ((", " : String) : Str).length = 2 := by rw [slen]; rfl
    omega
mutual
theorem shown_len : ∀ {d : D}, shOk d = true → d.shown.length ≤ shB d ∧ d.showable = true ∧ d.plain = true
  | .none, _ => by
    refine ⟨?_, rfl, rfl⟩
    rw [PyData.shown, slen]
    decide
  | .bool b, _ => by
    refine ⟨?_, rfl, rfl⟩
    rw [PyData.shown]
    cases b
    · rw [if_neg (by decide), slen]; decide
    · rw [if_pos rfl, slen]; decide
  | .int i, h => by
    have h' : i.natAbs.log2 < 1920 := by simpa [shOk] using h
    refine ⟨?_, by simpa [PyData.showable] using h', rfl⟩
    rw [PyData.shown, shB]
    exact PyProof.Rows.int_text_len_1921 h'
  | .str z, h => by
    refine ⟨?_, rfl, rfl⟩
    rw [PyData.shown, shB]
    have h' : (z.cps.toList.all fun c => decide (c < 4294967296)) = true := h
    exact StrLaws.reprText_len z fun c hc => of_decide_eq_true (List.all_eq_true.mp h' c hc)
  | .list xs, h => by
    obtain ⟨h1, h2, h3⟩ := showns_len (ds := xs) (by simpa [shOk] using h)
    refine ⟨?_, by simpa [PyData.showable] using h2, by simpa [PyData.plain] using h3⟩
    rw [PyData.shown, shB, listText, strLen_append]
    have := textFrom_len (PyData.shownAll xs) 0 "["
    have e1 : (("[" : String) : Str).length = 1 := by rw [slen]; rfl
    have e2 : (("]" : String) : Str).length = 1 := by rw [slen]; rfl
    omega
  | .tuple xs, h => by
    obtain ⟨h1, h2, h3⟩ := showns_len (ds := xs) (by simpa [shOk] using h)
    refine ⟨?_, by simpa [PyData.showable] using h2, by simpa [PyData.plain] using h3⟩
    rw [PyData.shown, shB, tupleText, strLen_append, strLen_append]
    have := join_len (PyData.shownAll xs)
    have e1 : (("(" : String) : Str).length = 1 := by rw [slen]; rfl
    have e2 : ((if (PyData.shownAll xs).length == 1 then ",)" else ")" : String) : Str).length ≤ 2 := by
      split <;> (rw [slen]; decide)
    omega
  | .dict _, h => nomatch h
theorem showns_len : ∀ {ds : List D}, shOks ds = true → sumLen (PyData.shownAll ds) ≤ shBs ds ∧ PyData.showableAll ds = true ∧ PyData.plainAll ds = true
  | [], _ => ⟨Nat.le_refl _, rfl, rfl⟩
  | d :: ds, h => by
    have h' : shOk d = true ∧ shOks ds = true := by simpa [shOks] using h
    obtain ⟨h1, h2, h3⟩ := shown_len h'.1
    obtain ⟨h4, h5, h6⟩ := showns_len h'.2
    refine ⟨?_, by rw [PyData.showableAll, h2, h5]; rfl, by rw [PyData.plainAll, h3, h6]; rfl⟩
    have e : sumLen (PyData.shownAll (d :: ds)) = d.shown.length + 2 + sumLen (PyData.shownAll ds) := rfl
    rw [e, shBs]
    omega
end
/-- what may be compared and shown -/
structure Sh (d : D) : Prop where
  ok : shOk d = true
  dep : d.depth ≤ 60
  few : shB d ≤ 16777216
theorem Sh.okD {d : D} (h : Sh d) : okD d = true := by
  obtain ⟨_, _, h3⟩ := shown_len h.ok
  unfold Dy.okD
  rw [h3]
  simpa using h.dep
theorem Sh.repr {d : D} (h : Sh d) : reprD d = some (.d (.str d.shown)) := by
  obtain ⟨h1, h2, _⟩ := shown_len h.ok
  unfold reprD
  rw [if_pos ⟨h.okD, h2, by rw [sizeLine_eq]; exact Nat.le_trans h1 h.few⟩]
theorem Sh.eq {d : D} (h : Sh d) : eqD d d = some (.d (.bool true)) := by
  unfold eqD
  rw [if_pos ⟨h.okD, h.okD⟩, eqv_self (shown_len h.ok).2.2]
theorem eqD_str (x y : Str) : eqD (.str x) (.str y) = some (.d (.bool (decide (x = y)))) := by
  unfold eqD
  rw [if_pos ⟨rfl, rfl⟩]
  congr 3
def E_same : FD := fxOf 2 0 (retS (andD (opd2 (.n 0) (.n 1) (lift2 eqD)) (opd2 (.e (opd1 (.n 0) (lift1 reprD))) (.e (opd1 (.n 1) (lift1 reprD))) (lift2 eqD))))
theorem same_self {d : D} {dr : Option Dr} (h : Sh d) : E_same [d, d] dr = .ok (.bool true) dr := by
  unfold E_same
  simp only [fxOf, runD, seqS, retS, retN, ifS, exprS, setS, setE, cD, vD, opd1, opd2, pkS, lift1, lift2, andD, orD, notD, boolD, ofD, boolT, notT, andT, orT, ifD, opdT, callD, callF, consA, nilA, tupD, lstD, Sl.val, nxS, bkS, ctS, raiseS, parS, par3S, asgS, gT, gsCons, gsNil, gN, drAt, drRest, drTurn, drCells, drMore, drPop, drPutS, Out.bind_ok, Out.bind_exc, Out.bind_bad, List.getElem?_cons_zero, List.getElem?_cons_succ, List.getElem?_nil, List.set_cons_zero, List.set_cons_succ, List.length_cons, List.length_nil, List.map_cons, List.map_nil, List.replicate, List.cons_append, List.nil_append, Nat.reduceAdd, Nat.reduceLT, Nat.lt_irrefl, if_true, if_false, Option.bind_some, Option.bind_none, Option.map_some, Option.map_none, and_self, and_true, true_and, ite_true, ite_false, List.cons.injEq, reduceCtorEq, not_true_eq_false, not_false_eq_true, ne_eq, Nat.reduceEqDiff, okKeyW, h.eq, h.repr, eqD_str, decide_true]
end Dy
end
section
set_option Elab.async false
set_option linter.all false
set_option maxRecDepth 100000
set_option maxHeartbeats 4000000
/-! the draw's beginning -/
namespace Dy
open PySem PySem.Spec
variable [LawI] [Ph]
def E_bt : M Bool := opdT (.e (opd1 (.n 2) (lift1 absD))) (.e (opd2 (.e (cD (.int 10))) (.e (cD (.int 18))) (lift2 powD))) geD
def E_bm : M Sl := opd2 (.e (opd1 (.n 2) (lift1 absD))) (.e (opd2 (.e (cD (.int 10))) (.e (cD (.int 18))) (lift2 powD))) (lift2 subD)
def E_bc : M Sl := opd2 (.e (opd1 (.e (opd1 (.n 2) (lift1 absD))) (lift1 toIntD))) (.e (cD (.int 2147483629))) (lift2 modD)
def E_begun : FD := fxOf 1 2 (seqS (setS 1 (lcD (itD (vD 0)) (gN 2) E_bt E_bm [2]))
  (retS (mkDrD 1 "wide" (lcD (itD (vD 0)) (gN 2) yesT E_bc [2]))))
def absI (z : Int) : Int := if z < 0 then -z else z
def asI : D → Int
  | .int i => i
  | _ => 0
theorem listInts_map (l : List Int) : listInts (.list (l.map .int)) = some l := by
  show intsOf _ = _
  exact intsOf_map l
theorem begun_ok {ns : List Int} (hl : ns.length ≤ 1000) : ∃ r, Dw 999999999999 r ∧ E_begun [.list (ns.map .int)] none = .ok tok (some r) := by
  have hp : powD (.int 10) (.int 18) = some (.d (.int (10 ^ 18))) := powD_int (by decide) (by decide) (by decide)
  have hs : ns.length ≤ sizeLine := size_ok hl
  have e1 : lcD (itD (vD 0)) (gN 2) E_bt E_bm [2] ⟨[.d (.list (ns.map .int)), .u, .u], none⟩ = .ok (.o (.list (((ns.filter fun z => decide (10 ^ 18 ≤ absI z)).map fun z => absI z - 10 ^ 18).map .int))) ⟨[.d (.list (ns.map .int)), .u, .u], none⟩ := by
    have z := lcD_eq (g := gN 2) (t := E_bt) (me := E_bm) (vs := [2]) (mi := itD (vD 0)) (s := ⟨[.d (.list (ns.map .int)), .u, .u], none⟩) (s1 := ⟨[.d (.list (ns.map .int)), .u, .u], none⟩) (items := ns.map .int)
      (fun x => decide (10 ^ 18 ≤ absI (asI x))) (fun x => .int (absI (asI x) - 10 ^ 18)) rfl (by
        intro x hx
        obtain ⟨i, _, rfl⟩ := List.mem_map.mp hx
        refine ⟨⟨[.d (.list (ns.map .int)), .u, .d (.int i)], none⟩, rfl, ?_, fun _ => ⟨.d (.int (absI i - 10 ^ 18)), ?_, rfl⟩, rfl⟩
        · unfold E_bt
          simp only [fxOf, runD, seqS, retS, retN, ifS, exprS, setS, setE, cD, vD, opd1, opd2, pkS, lift1, lift2, andD, orD, notD, boolD, ofD, boolT, notT, andT, orT, ifD, opdT, callD, callF, consA, nilA, tupD, lstD, Sl.val, nxS, bkS, ctS, raiseS, parS, par3S, asgS, gT, gsCons, gsNil, gN, drAt, drRest, drTurn, drCells, drMore, drPop, drPutS, Out.bind_ok, Out.bind_exc, Out.bind_bad, List.getElem?_cons_zero, List.getElem?_cons_succ, List.getElem?_nil, List.set_cons_zero, List.set_cons_succ, List.length_cons, List.length_nil, List.map_cons, List.map_nil, List.replicate, List.cons_append, List.nil_append, Nat.reduceAdd, Nat.reduceLT, Nat.lt_irrefl, if_true, if_false, Option.bind_some, Option.bind_none, Option.map_some, Option.map_none, and_self, and_true, true_and, ite_true, ite_false, List.cons.injEq, reduceCtorEq, not_true_eq_false, not_false_eq_true, ne_eq, Nat.reduceEqDiff, okKeyW, absD, hp, intD, asI, absI]
          rfl
        · unfold E_bm
          simp only [fxOf, runD, seqS, retS, retN, ifS, exprS, setS, setE, cD, vD, opd1, opd2, pkS, lift1, lift2, andD, orD, notD, boolD, ofD, boolT, notT, andT, orT, ifD, opdT, callD, callF, consA, nilA, tupD, lstD, Sl.val, nxS, bkS, ctS, raiseS, parS, par3S, asgS, gT, gsCons, gsNil, gN, drAt, drRest, drTurn, drCells, drMore, drPop, drPutS, Out.bind_ok, Out.bind_exc, Out.bind_bad, List.getElem?_cons_zero, List.getElem?_cons_succ, List.getElem?_nil, List.set_cons_zero, List.set_cons_succ, List.length_cons, List.length_nil, List.map_cons, List.map_nil, List.replicate, List.cons_append, List.nil_append, Nat.reduceAdd, Nat.reduceLT, Nat.lt_irrefl, if_true, if_false, Option.bind_some, Option.bind_none, Option.map_some, Option.map_none, and_self, and_true, true_and, ite_true, ite_false, List.cons.injEq, reduceCtorEq, not_true_eq_false, not_false_eq_true, ne_eq, Nat.reduceEqDiff, okKeyW, absD, hp, subD_int, absI]) (by rw [List.length_map]; exact hs) rfl
    rw [z, List.filter_map, List.map_map, List.map_map]
    rfl
  have e2 : lcD (itD (vD 0)) (gN 2) yesT E_bc [2] ⟨[.d (.list (ns.map .int)), .o (.list (((ns.filter fun z => decide (10 ^ 18 ≤ absI z)).map fun z => absI z - 10 ^ 18).map .int)), .u], none⟩ = .ok (.o (.list ((ns.map fun z => absI z % 2147483629).map .int))) ⟨[.d (.list (ns.map .int)), .o (.list (((ns.filter fun z => decide (10 ^ 18 ≤ absI z)).map fun z => absI z - 10 ^ 18).map .int)), .u], none⟩ := by
    have z := lcD_map (g := gN 2) (me := E_bc) (vs := [2]) (mi := itD (vD 0)) (s := ⟨[.d (.list (ns.map .int)), .o (.list (((ns.filter fun z => decide (10 ^ 18 ≤ absI z)).map fun z => absI z - 10 ^ 18).map .int)), .u], none⟩) (s1 := ⟨[.d (.list (ns.map .int)), .o (.list (((ns.filter fun z => decide (10 ^ 18 ≤ absI z)).map fun z => absI z - 10 ^ 18).map .int)), .u], none⟩) (items := ns.map .int)
      (fun x => .int (absI (asI x) % 2147483629)) rfl (by
        intro x hx
        obtain ⟨i, _, rfl⟩ := List.mem_map.mp hx
        refine ⟨⟨[.d (.list (ns.map .int)), .o (.list (((ns.filter fun z => decide (10 ^ 18 ≤ absI z)).map fun z => absI z - 10 ^ 18).map .int)), .d (.int i)], none⟩, rfl, ⟨.d (.int (absI i % 2147483629)), ?_, rfl⟩, rfl⟩
        unfold E_bc
        simp only [fxOf, runD, seqS, retS, retN, ifS, exprS, setS, setE, cD, vD, opd1, opd2, pkS, lift1, lift2, andD, orD, notD, boolD, ofD, boolT, notT, andT, orT, ifD, opdT, callD, callF, consA, nilA, tupD, lstD, Sl.val, nxS, bkS, ctS, raiseS, parS, par3S, asgS, gT, gsCons, gsNil, gN, drAt, drRest, drTurn, drCells, drMore, drPop, drPutS, Out.bind_ok, Out.bind_exc, Out.bind_bad, List.getElem?_cons_zero, List.getElem?_cons_succ, List.getElem?_nil, List.set_cons_zero, List.set_cons_succ, List.length_cons, List.length_nil, List.map_cons, List.map_nil, List.replicate, List.cons_append, List.nil_append, Nat.reduceAdd, Nat.reduceLT, Nat.lt_irrefl, if_true, if_false, Option.bind_some, Option.bind_none, Option.map_some, Option.map_none, and_self, and_true, true_and, ite_true, ite_false, List.cons.injEq, reduceCtorEq, not_true_eq_false, not_false_eq_true, ne_eq, Nat.reduceEqDiff, okKeyW, absD, toIntD, modD_int (show (0 : Int) < 2147483629 by decide), absI]) (by rw [List.length_map]; exact hs) rfl
    rw [z]
    simp only [List.map_map]
    rfl
  refine ⟨⟨"wide", (ns.filter fun z => decide (10 ^ 18 ≤ absI z)).map fun z => absI z - 10 ^ 18, ns.map fun z => absI z % 2147483629, 0, 0⟩, ⟨rfl, fun z hz => ?_, fun z hz => ?_, Int.le_refl 0, Int.le_refl 0, by show (0 : Int) + 999999999999 ≤ 1000000000000; decide⟩, ?_⟩
  · obtain ⟨i, hi, rfl⟩ := List.mem_map.mp hz
    have := of_decide_eq_true (List.mem_filter.mp hi).2
    omega
  · obtain ⟨i, hi, rfl⟩ := List.mem_map.mp hz
    exact ⟨Int.emod_nonneg _ (by decide), Int.emod_lt_of_pos _ (by decide)⟩
  · refine fx_rt (k := 1) (n := 2) (s := ⟨[.d (.list (ns.map .int)), .u, .u], some ⟨"wide", (ns.filter fun z => decide (10 ^ 18 ≤ absI z)).map fun z => absI z - 10 ^ 18, ns.map fun z => absI z % 2147483629, 0, 0⟩⟩) (r := .d tok) rfl ((seqS_nx (s1 := ⟨[.d (.list (ns.map .int)), .o (.list (((ns.filter fun z => decide (10 ^ 18 ≤ absI z)).map fun z => absI z - 10 ^ 18).map .int)), .u], none⟩) ?_).trans ?_)
    · unfold setS
      show (lcD (itD (vD 0)) (gN 2) E_bt E_bm [2] ⟨[.d (.list (ns.map .int)), .u, .u], none⟩).bind _ = _
      rw [e1]
      rfl
    · unfold retS mkDrD
      simp only [ownInts, List.getElem?_cons_succ, List.getElem?_cons_zero, intsOf_map]
      rw [e2]
      simp only [Out.bind_ok, mkDr2, Sl.val, listInts_map, ownInts, List.getElem?_cons_succ, List.getElem?_cons_zero, intsOf_map]
      rfl
end Dy
end
section
set_option Elab.async false
set_option linter.all false
set_option maxRecDepth 100000
set_option maxHeartbeats 4000000
/-! drawn names -/
namespace Dy
open PySem PySem.Spec
variable [LawI] [Ph]
abbrev tl (z : Str) : List Nat := z.cps.toList
theorem tl_len (z : Str) : z.length = (tl z).length := by simp [Str.length]
theorem tl_append (a b : Str) : tl (a ++ b) = tl a ++ tl b := by
  show (a.cps ++ b.cps).toList = _
  simp
theorem str_ext {a b : Str} (h : tl a = tl b) : a = b := by
  obtain ⟨x⟩ := a
  obtain ⟨y⟩ := b
  exact congrArg Str.mk (Array.toList_inj.mp h)
theorem tl_join0 : ∀ bs : List Str, tl (Str.join "" bs) = bs.flatMap tl
  | [] => rfl
  | [b] => by simp [Str.join]
  | b :: c :: r => by
    have h := tl_join0 (c :: r)
    rw [Str.join]
    · rw [tl_append, tl_append, h]
      have : tl (("" : String) : Str) = [] := by decide
      rw [this]
      simp
    · intro z
      cases z
def sgS : Str := "abcdefghijklmnopqrstuvwxyz"
theorem sg_tl : tl sgS = List.range' 97 26 := by decide
theorem sg_mem {c : Nat} (h : c ∈ tl sgS) : 97 ≤ c ∧ c ≤ 122 := by
  rw [sg_tl, List.mem_range'] at h
  omega
def keptL : List Str := ["add", "base", "block", "cannot", "copy", "done", "end", "goto", "if", "less", "mul", "none", "nothing", "num", "param", "program", "same", "set", "show", "stop", "sub", "what"]
def othersL : List Str := ["x", "y", "a", "b", "entry", "loop", "head", "cell", "run", "node", "shows", "sets", "branch", "words"]
/-- a name -/
structure IsNm (z : Str) : Prop where
  lo : 1 ≤ (tl z).length
  hi : (tl z).length ≤ 8
  low : ∀ c ∈ tl z, 97 ≤ c ∧ c ≤ 122
  kept : z ∉ keptL
def lets (z : Str) : Bool := (tl z).all fun c => decide (97 ≤ c) && decide (c ≤ 122)
theorem lets_ok {z : Str} (h : lets z = true) : ∀ c ∈ tl z, 97 ≤ c ∧ c ≤ 122 := fun c hc => by
  have := List.all_eq_true.mp h c hc
  simpa using this
def nmB (z : Str) : Bool := decide (1 ≤ (tl z).length) && decide ((tl z).length ≤ 8) && lets z && !keptL.contains z
theorem nmB_iff {z : Str} : nmB z = true ↔ IsNm z := by
  unfold nmB
  simp only [Bool.and_eq_true, decide_eq_true_eq, Bool.not_eq_true', List.contains_eq_mem, decide_eq_false_iff_not]
  constructor
  · rintro ⟨⟨⟨h1, h2⟩, h3⟩, h4⟩
    exact ⟨h1, h2, lets_ok h3, h4⟩
  · rintro ⟨h1, h2, h3, h4⟩
    refine ⟨⟨⟨h1, h2⟩, ?_⟩, h4⟩
    unfold lets
    rw [List.all_eq_true]
    intro c hc
    have := h3 c hc
    simp [this]
def snd2 (z : Str) : Option Nat := (tl z).reverse[1]?
theorem others_ok : ∀ o ∈ othersL, IsNm o ∧ snd2 o ≠ some 122 := by
  intro o ho
  have h1 : (othersL.all nmB) = true := by decide +kernel
  have h2 : (othersL.all fun o => decide (snd2 o ≠ some 122)) = true := by decide +kernel
  exact ⟨nmB_iff.mp (List.all_eq_true.mp h1 o ho), by simpa using List.all_eq_true.mp h2 o ho⟩
theorem kept_snd : ∀ o ∈ keptL, snd2 o ≠ some 122 := by
  intro o ho
  have h2 : (keptL.all fun o => decide (snd2 o ≠ some 122)) = true := by decide +kernel
  simpa using List.all_eq_true.mp h2 o ho
/-- letters, a z, the j-th letter -/
def Wk (j : Nat) (w : Str) : Prop := ∃ cs, tl w = cs ++ [122, 97 + j]
theorem Wk.snd {j : Nat} {w : Str} (h : Wk j w) : snd2 w = some 122 ∧ (tl w).reverse[0]? = some (97 + j) := by
  obtain ⟨cs, e⟩ := h
  unfold snd2
  rw [e]
  simp
/-! ### comprehensions that ask the draw -/
theorem lc_run {items : List D} {g : D → S → Option S} {t : M Bool} {me : M Sl} {vs : List Nat} (I : Nat → List D → S → Prop)
    (h : ∀ (i : Nat) (x : D) (acc : List D) (s : S), items[i]? = some x → I i acc s → ∃ s1, g x s = some s1 ∧ ((∃ s2, t s1 = .ok false s2 ∧ I (i + 1) acc (wipeS vs s2)) ∨ (∃ s2 s3 r, t s1 = .ok true s2 ∧ me s2 = .ok r s3 ∧ acc.length < sizeLine ∧ I (i + 1) (acc ++ [r.val]) (wipeS vs s3)))) :
    ∀ (k i : Nat) (acc : List D) (s : S), items.length - i = k → i ≤ items.length → I i acc s → ∃ acc' s', lcLoop g t me vs (items.drop i) acc s = .ok acc' s' ∧ I items.length acc' s' := by
  intro k
  induction k with
  | zero =>
    intro i acc s hk hi hI
    have : i = items.length := by omega
    subst this
    exact ⟨acc, s, by rw [List.drop_length]; rfl, hI⟩
  | succ k ih =>
    intro i acc s hk hi hI
    have hlt : i < items.length := by omega
    obtain ⟨s1, e1, h2⟩ := h i items[i] acc s (List.getElem?_eq_getElem hlt) hI
    rw [List.drop_eq_getElem_cons hlt]
    rcases h2 with ⟨s2, e2, hI2⟩ | ⟨s2, s3, r, e2, e3, hl, hI2⟩
    · obtain ⟨acc', s', e4, hI3⟩ := ih (i + 1) acc _ (by omega) hlt hI2
      refine ⟨acc', s', ?_, hI3⟩
      rw [lcLoop, e1]
      simp only [e2]
      exact e4
    · obtain ⟨acc', s', e4, hI3⟩ := ih (i + 1) _ _ (by omega) hlt hI2
      refine ⟨acc', s', ?_, hI3⟩
      rw [lcLoop, e1]
      simp only [e2, e3, if_pos hl]
      exact e4
theorem lc_done {mi : M (List D)} {items : List D} {g : D → S → Option S} {t : M Bool} {me : M Sl} {vs : List Nat} {s0 s1 : S} (I : Nat → List D → S → Prop) (hmi : mi s0 = .ok items s1) (h0 : I 0 [] (wipeS vs s1))
    (h : ∀ (i : Nat) (x : D) (acc : List D) (s : S), items[i]? = some x → I i acc s → ∃ s1, g x s = some s1 ∧ ((∃ s2, t s1 = .ok false s2 ∧ I (i + 1) acc (wipeS vs s2)) ∨ (∃ s2 s3 r, t s1 = .ok true s2 ∧ me s2 = .ok r s3 ∧ acc.length < sizeLine ∧ I (i + 1) (acc ++ [r.val]) (wipeS vs s3)))) :
    ∃ acc s', lcD mi g t me vs s0 = .ok (.o (.list acc)) (backS vs s1 s') ∧ I items.length acc s' := by
  obtain ⟨acc, s', e, hI⟩ := lc_run (g := g) (t := t) (me := me) (vs := vs) I h items.length 0 [] (wipeS vs s1) (by omega) (by omega) h0
  refine ⟨acc, s', ?_, hI⟩
  unfold lcD
  rw [hmi]
  rw [List.drop_zero] at e
  show (match lcLoop g t me vs items [] (wipeS vs s1) with
    | .ok acc s3 => Out.ok (Sl.o (.list acc)) (backS vs s1 s3)
    | _ => .bad) = _
  rw [e]
theorem rng1_ok {m : M Sl} {s s1 : S} {r : Sl} {j : Nat} (h : m s = .ok r s1) (hr : r.val = .int (j : Nat)) (hj : j ≤ 1000000) : rng1D m s = .ok ((List.range j).map fun i => .int (i : Nat)) s1 := by
  unfold rng1D
  rw [h]
  simp only [Out.bind_ok, hr]
  have : fitsR (j : Int) = true := by
    unfold fitsR
    rw [decide_eq_true_eq]
    omega
  rw [if_pos this]
  unfold rngL
  simp
/-! ### names -/
def E_n1 : M Sl := callD E_pick (consA (vD 0) (consA (vD 4) nilA))
def E_n2 : M Fl := (seqS (setS 5 (opd2 (.e (opd2 (.e (opd2 (.e (cD (.str ""))) (.e (lcD (rng1D (callD E_take (consA (vD 0) (consA (cD (.int 7)) nilA)))) (gN 7) yesT E_n1 [7])) (lift2 joinD))) (.e (cD (.str "z"))) (lift2 addD))) (.e (opd2 (.n 4) (.n 2) (lift2 ixD))) (lift2 addD)))
  (seqS (setS 6 (callD E_pick (consA (vD 0) (consA (lstD (consA (cD (.str "x")) (consA (cD (.str "y")) (consA (cD (.str "a")) (consA (cD (.str "b")) (consA (cD (.str "entry")) (consA (cD (.str "loop")) (consA (cD (.str "head")) (consA (cD (.str "cell")) (consA (cD (.str "run")) (consA (cD (.str "node")) (consA (cD (.str "shows")) (consA (cD (.str "sets")) (consA (cD (.str "branch")) (consA (cD (.str "words")) nilA))))))))))))))) nilA))))
  (exprS (appD 3 (ifD (andT (opdT (.e (callD E_take (consA (vD 0) (consA (cD (.int 4)) nilA)))) (.e (cD (.int 0))) eqD) (opdT (.n 6) (.n 3) notInD)) (vD 6) (vD 5))))))
def E_names : FD := fxOf 2 6 (seqS (parS 3 4 (lstD nilA) (cD (.str "abcdefghijklmnopqrstuvwxyz")))
  (seqS (forM (rng1D (vD 1)) (gN 2) E_n2)
  (retS (callD E_shuffled (consA (vD 0) (consA (vD 3) nilA))))))
/-- up to six letters -/
theorem letters_ok {n : Nat} {r : Dr} {x1 x2 x3 x5 x6 x7 : Sl} (h : Dw (n + 7) r) (hx : x7 = .u ∨ ∃ d, x7 = .d d) : ∃ (bs : List Str) (r' : Dr) (y7 : Sl), bs.length ≤ 6 ∧ (∀ b ∈ bs, ∃ c, b = ⟨#[c]⟩ ∧ 97 ≤ c ∧ c ≤ 122) ∧ Dw n r' ∧ (y7 = .u ∨ ∃ d, y7 = .d d) ∧
    lcD (rng1D (callD E_take (consA (vD 0) (consA (cD (.int 7)) nilA)))) (gN 7) yesT E_n1 [7] ⟨[.d tok, x1, x2, x3, .d (.str sgS), x5, x6, x7], some r⟩ = .ok (.o (.list (bs.map .str))) ⟨[.d tok, x1, x2, x3, .d (.str sgS), x5, x6, y7], some r'⟩ := by
  obtain ⟨v, r1, v0, v1, w, e⟩ := take_ok (m := 7) (n := n + 6) h (by decide)
  obtain ⟨k, rfl⟩ : ∃ k : Nat, v = k := ⟨v.toNat, by omega⟩
  have e1 : callD E_take (consA (vD 0) (consA (cD (.int 7)) nilA)) ⟨[.d tok, x1, x2, x3, .d (.str sgS), x5, x6, x7], some r⟩ = .ok (.d (.int k)) ⟨[.d tok, x1, x2, x3, .d (.str sgS), x5, x6, x7], some r1⟩ := by
    simp only [fxOf, runD, seqS, retS, retN, ifS, exprS, setS, setE, cD, vD, opd1, opd2, pkS, lift1, lift2, andD, orD, notD, boolD, ofD, boolT, notT, andT, orT, ifD, opdT, callD, callF, consA, nilA, tupD, lstD, Sl.val, nxS, bkS, ctS, raiseS, parS, par3S, asgS, gT, gsCons, gsNil, gN, drAt, drRest, drTurn, drCells, drMore, drPop, drPutS, Out.bind_ok, Out.bind_exc, Out.bind_bad, List.getElem?_cons_zero, List.getElem?_cons_succ, List.getElem?_nil, List.set_cons_zero, List.set_cons_succ, List.length_cons, List.length_nil, List.map_cons, List.map_nil, List.replicate, List.cons_append, List.nil_append, Nat.reduceAdd, Nat.reduceLT, Nat.lt_irrefl, if_true, if_false, Option.bind_some, Option.bind_none, Option.map_some, Option.map_none, and_self, and_true, true_and, ite_true, ite_false, List.cons.injEq, reduceCtorEq, not_true_eq_false, not_false_eq_true, ne_eq, Nat.reduceEqDiff, okKeyW, e]
  obtain ⟨acc, s', e2, bs, r2, hb, hc, hw, rfl, rfl⟩ := lc_done (g := gN 7) (t := yesT) (me := E_n1) (vs := [7]) (fun i acc s => ∃ (bs : List Str) (r2 : Dr), bs.length = i ∧ (∀ b ∈ bs, ∃ c, b = ⟨#[c]⟩ ∧ 97 ≤ c ∧ c ≤ 122) ∧ Dw (n + (k - i)) r2 ∧ acc = bs.map .str ∧ s = ⟨[.d tok, x1, x2, x3, .d (.str sgS), x5, x6, .u], some r2⟩)
    (rng1_ok (j := k) e1 rfl (by omega)) ⟨[], r1, rfl, (fun b hb => by cases hb), w.mono (by omega), rfl, rfl⟩ (by
      rintro i x acc s hx ⟨bs, r2, hb, hc, hw, rfl, rfl⟩
      have hi : i < k := by
        have := (List.getElem?_eq_some_iff.mp hx).1
        simpa using this
      obtain ⟨c, c1, r3, w3, e3⟩ := pick_okS (n := n + (k - (i + 1))) (z := sgS) (r := r2) (hw.mono (by omega)) (by decide) (by decide)
      refine ⟨⟨[.d tok, x1, x2, x3, .d (.str sgS), x5, x6, .d x], some r2⟩, rfl, .inr ⟨⟨[.d tok, x1, x2, x3, .d (.str sgS), x5, x6, .d x], some r2⟩, ⟨[.d tok, x1, x2, x3, .d (.str sgS), x5, x6, .d x], some r3⟩, .d (.str ⟨#[c]⟩), rfl, ?_, ?_, bs ++ [⟨#[c]⟩], r3, ?_, ?_, w3, ?_, rfl⟩⟩
      · unfold E_n1
        simp only [fxOf, runD, seqS, retS, retN, ifS, exprS, setS, setE, cD, vD, opd1, opd2, pkS, lift1, lift2, andD, orD, notD, boolD, ofD, boolT, notT, andT, orT, ifD, opdT, callD, callF, consA, nilA, tupD, lstD, Sl.val, nxS, bkS, ctS, raiseS, parS, par3S, asgS, gT, gsCons, gsNil, gN, drAt, drRest, drTurn, drCells, drMore, drPop, drPutS, Out.bind_ok, Out.bind_exc, Out.bind_bad, List.getElem?_cons_zero, List.getElem?_cons_succ, List.getElem?_nil, List.set_cons_zero, List.set_cons_succ, List.length_cons, List.length_nil, List.map_cons, List.map_nil, List.replicate, List.cons_append, List.nil_append, Nat.reduceAdd, Nat.reduceLT, Nat.lt_irrefl, if_true, if_false, Option.bind_some, Option.bind_none, Option.map_some, Option.map_none, and_self, and_true, true_and, ite_true, ite_false, List.cons.injEq, reduceCtorEq, not_true_eq_false, not_false_eq_true, ne_eq, Nat.reduceEqDiff, okKeyW, e3]
      · rw [List.length_map, sizeLine_eq]
        omega
      · rw [List.length_append, hb]
        rfl
      · intro b hb
        rcases List.mem_append.mp hb with hb | hb
        · exact hc b hb
        · rw [List.mem_singleton] at hb
          exact ⟨c, hb, sg_mem c1⟩
      · rw [List.map_append]
        rfl)
  refine ⟨bs, r2, _, ?_, hc, ?_, ?_, e2⟩
  · rw [hb, List.length_map, List.length_range]
    omega
  · rw [List.length_map, List.length_range] at hw
    exact hw.mono (by omega)
  · rcases hx with rfl | ⟨d, rfl⟩
    · exact .inl rfl
    · exact .inr ⟨d, rfl⟩
theorem ones_flat : ∀ (bs : List Str), (∀ b ∈ bs, ∃ c, b = ⟨#[c]⟩ ∧ 97 ≤ c ∧ c ≤ 122) → (bs.flatMap tl).length = bs.length
  | [], _ => rfl
  | b :: bs, h => by
    obtain ⟨c, rfl, _⟩ := h b List.mem_cons_self
    rw [List.flatMap_cons, List.length_append, ones_flat bs fun b hb => h b (List.mem_cons_of_mem _ hb)]
    simp
    omega
theorem ones_sum : ∀ (bs : List Str), (∀ b ∈ bs, ∃ c, b = ⟨#[c]⟩ ∧ 97 ≤ c ∧ c ≤ 122) → (bs.map (·.length)).sum = bs.length
  | [], _ => rfl
  | b :: bs, h => by
    obtain ⟨c, rfl, _⟩ := h b List.mem_cons_self
    rw [List.map_cons, List.sum_cons, ones_sum bs fun b hb => h b (List.mem_cons_of_mem _ hb)]
    simp [Str.length]
    omega
structure Good (i : Nat) (ws : List Str) : Prop where
  len : ws.length = i
  nod : ws.Nodup
  all : ∀ w ∈ ws, IsNm w ∧ (w ∈ othersL ∨ ∃ j, j < i ∧ Wk j w)
theorem notIn_strs {o : Str} {ws : List Str} : notInD (.str o) (.list (ws.map .str)) = some (.d (.bool (decide (o ∉ ws)))) := by
  unfold notInD memD
  have hp : PyData.plainAll (ws.map .str) = true := by
    induction ws with
    | nil => rfl
    | cons w ws ih => rw [List.map_cons, PyData.plainAll, ih]; rfl
  simp only
  rw [if_pos ⟨hp, okD_str o⟩]
  have e : ((ws.map PyData.str).any fun y => PyData.eqv y (.str o)) = decide (o ∈ ws) := by
    rw [Bool.eq_iff_iff, List.any_map, List.any_eq_true, decide_eq_true_eq]
    constructor
    · rintro ⟨x, hx, e⟩
      have : x = o := by simpa [PyData.eqv] using e
      rw [← this]
      exact hx
    · intro h
      exact ⟨o, h, by simp [PyData.eqv]⟩
  rw [e]
  simp
theorem ix_sg {k : Nat} (h : k < 26) : ixD (.str sgS) (.int (k : Nat)) = some (.d (.str ⟨#[97 + k]⟩)) := by
  unfold ixD
  simp only
  have hs : sgS.length ≤ sizeLine := by rw [sizeLine_eq]; decide
  rw [if_pos hs]
  have e : (tl sgS)[k]? = some (97 + k) := by
    rw [sg_tl, List.getElem?_range']
    · simp
    · exact h
  rw [L2.atI_nat e]
  rfl
theorem turn_ok {n i many : Nat} {r : Dr} {ws : List Str} {x1 x2 x5 x6 x7 : Sl} (h : Dw (n + 10) r) (hg : Good i ws) (hi : i < 26) (hx : x7 = .u ∨ ∃ d, x7 = .d d) : ∃ (w : Str) (r' : Dr) (y5 y6 y7 : Sl), Good (i + 1) (ws ++ [w]) ∧ Dw n r' ∧ (y7 = .u ∨ ∃ d, y7 = .d d) ∧
    E_n2 ⟨[.d tok, x1, .d (.int (i : Nat)), .o (.list (ws.map .str)), .d (.str sgS), x5, x6, x7], some r⟩ = .ok .nx ⟨[.d tok, x1, .d (.int (i : Nat)), .o (.list ((ws ++ [w]).map .str)), .d (.str sgS), y5, y6, y7], some r'⟩ := by
  obtain ⟨bs, r1, y7, hb, hc, w1, hy, e1⟩ := letters_ok (n := n + 3) (x1 := x1) (x2 := .d (.int (i : Nat))) (x3 := .o (.list (ws.map .str))) (x5 := x5) (x6 := x6) h hx
  obtain ⟨o, ho, r2, w2, e2⟩ := pick_ok (n := n + 2) (xs := othersL.map .str) (w1.mono (by omega)) (by decide) (by decide)
  obtain ⟨oz, hoz, rfl⟩ := List.mem_map.mp ho
  obtain ⟨v, r3, v0, v1, w3, e3⟩ := take_ok (m := 4) (n := n + 1) w2 (by decide)
  let word : Str := Str.join "" bs ++ "z" ++ ⟨#[97 + i]⟩
  have tw : tl word = bs.flatMap tl ++ [122, 97 + i] := by
    show tl (Str.join "" bs ++ "z" ++ ⟨#[97 + i]⟩) = _
    rw [tl_append, tl_append, tl_join0]
    have : tl (("z" : String) : Str) = [122] := by decide
    rw [this]
    simp
  have flen : (bs.flatMap tl).length = bs.length := ones_flat bs hc
  have hword : IsNm word ∧ Wk i word := by
    have hw : Wk i word := ⟨_, tw⟩
    refine ⟨⟨?_, ?_, ?_, fun hk => kept_snd _ hk hw.snd.1⟩, hw⟩
    · rw [tw, List.length_append]
      simp
    · rw [tw, List.length_append, flen]
      simp
      omega
    · rw [tw]
      intro c hc'
      rcases List.mem_append.mp hc' with hc' | hc'
      · obtain ⟨b, hb', hcb⟩ := List.mem_flatMap.mp hc'
        obtain ⟨c2, rfl, h2⟩ := hc b hb'
        simp at hcb
        omega
      · simp at hc'
        omega
  have hnew : word ∉ ws := fun hm => by
    obtain ⟨_, h2⟩ := hg.all _ hm
    have s := hword.2.snd
    rcases h2 with h2 | ⟨j, hj, h2⟩
    · exact (others_ok _ h2).2 s.1
    · have := h2.snd.2
      rw [s.2] at this
      injection this with this
      omega
  have jn : joinD (.str "") (.list (bs.map .str)) = some (.d (.str (Str.join "" bs))) := by
    unfold joinD
    simp only [strsOf_map]
    have : (bs.map (·.length)).sum + bs.length * ((("" : String) : Str).length) ≤ 16777216 := by
      have e0 : ((("" : String) : Str).length) = 0 := by decide
      have e9 : (bs.map (·.length)).sum = bs.length := ones_sum bs hc
      rw [e0, e9]
      omega
    rw [if_pos this]
    exact congrArg (fun z => some (Sl.d (PyData.str z))) (StrLaws.glued_eq_join _ _)
  have l1 : (Str.join "" bs).length + ((("z" : String) : Str)).length ≤ sizeLine := by
    rw [tl_len, tl_join0, flen, sizeLine_eq]
    have : ((("z" : String) : Str)).length = 1 := by decide
    omega
  have l2 : (Str.join "" bs ++ (("z" : String) : Str)).length + (⟨#[97 + i]⟩ : Str).length ≤ sizeLine := by
    rw [strLen_append, tl_len, tl_join0, flen, sizeLine_eq]
    have : ((("z" : String) : Str)).length = 1 := by decide
    have : (⟨#[97 + i]⟩ : Str).length = 1 := rfl
    omega
  have f1 : setS 5 (opd2 (.e (opd2 (.e (opd2 (.e (cD (.str ""))) (.e (lcD (rng1D (callD E_take (consA (vD 0) (consA (cD (.int 7)) nilA)))) (gN 7) yesT E_n1 [7])) (lift2 joinD))) (.e (cD (.str "z"))) (lift2 addD))) (.e (opd2 (.n 4) (.n 2) (lift2 ixD))) (lift2 addD)) ⟨[.d tok, x1, .d (.int (i : Nat)), .o (.list (ws.map .str)), .d (.str sgS), x5, x6, x7], some r⟩ =
      .ok .nx ⟨[.d tok, x1, .d (.int (i : Nat)), .o (.list (ws.map .str)), .d (.str sgS), .d (.str word), x6, y7], some r1⟩ := by
    generalize lcD (rng1D (callD E_take (consA (vD 0) (consA (cD (.int 7)) nilA)))) (gN 7) yesT E_n1 [7] = M0 at e1
    simp only [fxOf, runD, seqS, retS, retN, ifS, exprS, setS, setE, cD, vD, opd1, opd2, pkS, lift1, lift2, andD, orD, notD, boolD, ofD, boolT, notT, andT, orT, ifD, opdT, callD, callF, consA, nilA, tupD, lstD, Sl.val, nxS, bkS, ctS, raiseS, parS, par3S, asgS, gT, gsCons, gsNil, gN, drAt, drRest, drTurn, drCells, drMore, drPop, drPutS, Out.bind_ok, Out.bind_exc, Out.bind_bad, List.getElem?_cons_zero, List.getElem?_cons_succ, List.getElem?_nil, List.set_cons_zero, List.set_cons_succ, List.length_cons, List.length_nil, List.map_cons, List.map_nil, List.replicate, List.cons_append, List.nil_append, Nat.reduceAdd, Nat.reduceLT, Nat.lt_irrefl, if_true, if_false, Option.bind_some, Option.bind_none, Option.map_some, Option.map_none, and_self, and_true, true_and, ite_true, ite_false, List.cons.injEq, reduceCtorEq, not_true_eq_false, not_false_eq_true, ne_eq, Nat.reduceEqDiff, okKeyW, e1, jn, addD, if_pos l1, ix_sg hi, if_pos l2]
    rfl
  have f2 : setS 6 (callD E_pick (consA (vD 0) (consA (lstD (consA (cD (.str "x")) (consA (cD (.str "y")) (consA (cD (.str "a")) (consA (cD (.str "b")) (consA (cD (.str "entry")) (consA (cD (.str "loop")) (consA (cD (.str "head")) (consA (cD (.str "cell")) (consA (cD (.str "run")) (consA (cD (.str "node")) (consA (cD (.str "shows")) (consA (cD (.str "sets")) (consA (cD (.str "branch")) (consA (cD (.str "words")) nilA))))))))))))))) nilA))) ⟨[.d tok, x1, .d (.int (i : Nat)), .o (.list (ws.map .str)), .d (.str sgS), .d (.str word), x6, y7], some r1⟩ =
      .ok .nx ⟨[.d tok, x1, .d (.int (i : Nat)), .o (.list (ws.map .str)), .d (.str sgS), .d (.str word), .d (.str oz), y7], some r2⟩ := by
    have e2' : E_pick [tok, .list [.str "x", .str "y", .str "a", .str "b", .str "entry", .str "loop", .str "head", .str "cell", .str "run", .str "node", .str "shows", .str "sets", .str "branch", .str "words"]] (some r1) = .ok (.str oz) (some r2) := e2
    simp only [fxOf, runD, seqS, retS, retN, ifS, exprS, setS, setE, cD, vD, opd1, opd2, pkS, lift1, lift2, andD, orD, notD, boolD, ofD, boolT, notT, andT, orT, ifD, opdT, callD, callF, consA, nilA, tupD, lstD, Sl.val, nxS, bkS, ctS, raiseS, parS, par3S, asgS, gT, gsCons, gsNil, gN, drAt, drRest, drTurn, drCells, drMore, drPop, drPutS, Out.bind_ok, Out.bind_exc, Out.bind_bad, List.getElem?_cons_zero, List.getElem?_cons_succ, List.getElem?_nil, List.set_cons_zero, List.set_cons_succ, List.length_cons, List.length_nil, List.map_cons, List.map_nil, List.replicate, List.cons_append, List.nil_append, Nat.reduceAdd, Nat.reduceLT, Nat.lt_irrefl, if_true, if_false, Option.bind_some, Option.bind_none, Option.map_some, Option.map_none, and_self, and_true, true_and, ite_true, ite_false, List.cons.injEq, reduceCtorEq, not_true_eq_false, not_false_eq_true, ne_eq, Nat.reduceEqDiff, okKeyW, if_pos (size_ok (show 0 + 1 + 1 + 1 + 1 + 1 + 1 + 1 + 1 + 1 + 1 + 1 + 1 + 1 + 1 ≤ 1000 by decide)), if_pos (size_ok (show 14 ≤ 1000 by decide)), e2']
  have ht : callD E_take (consA (vD 0) (consA (cD (.int 4)) nilA)) ⟨[.d tok, x1, .d (.int (i : Nat)), .o (.list (ws.map .str)), .d (.str sgS), .d (.str word), .d (.str oz), y7], some r2⟩ = .ok (.d (.int v)) ⟨[.d tok, x1, .d (.int (i : Nat)), .o (.list (ws.map .str)), .d (.str sgS), .d (.str word), .d (.str oz), y7], some r3⟩ := by
    simp only [fxOf, runD, seqS, retS, retN, ifS, exprS, setS, setE, cD, vD, opd1, opd2, pkS, lift1, lift2, andD, orD, notD, boolD, ofD, boolT, notT, andT, orT, ifD, opdT, callD, callF, consA, nilA, tupD, lstD, Sl.val, nxS, bkS, ctS, raiseS, parS, par3S, asgS, gT, gsCons, gsNil, gN, drAt, drRest, drTurn, drCells, drMore, drPop, drPutS, Out.bind_ok, Out.bind_exc, Out.bind_bad, List.getElem?_cons_zero, List.getElem?_cons_succ, List.getElem?_nil, List.set_cons_zero, List.set_cons_succ, List.length_cons, List.length_nil, List.map_cons, List.map_nil, List.replicate, List.cons_append, List.nil_append, Nat.reduceAdd, Nat.reduceLT, Nat.lt_irrefl, if_true, if_false, Option.bind_some, Option.bind_none, Option.map_some, Option.map_none, and_self, and_true, true_and, ite_true, ite_false, List.cons.injEq, reduceCtorEq, not_true_eq_false, not_false_eq_true, ne_eq, Nat.reduceEqDiff, okKeyW, e3]
  -- which of the two
  have fin : ∀ (x : Str), (ifD (andT (opdT (.e (callD E_take (consA (vD 0) (consA (cD (.int 4)) nilA)))) (.e (cD (.int 0))) eqD) (opdT (.n 6) (.n 3) notInD)) (vD 6) (vD 5)) ⟨[.d tok, x1, .d (.int (i : Nat)), .o (.list (ws.map .str)), .d (.str sgS), .d (.str word), .d (.str oz), y7], some r2⟩ = .ok (.d (.str x)) ⟨[.d tok, x1, .d (.int (i : Nat)), .o (.list (ws.map .str)), .d (.str sgS), .d (.str word), .d (.str oz), y7], some r3⟩ →
      Good (i + 1) (ws ++ [x]) → ∃ (w : Str) (r' : Dr) (y5 y6 y7 : Sl), Good (i + 1) (ws ++ [w]) ∧ Dw n r' ∧ (y7 = .u ∨ ∃ d, y7 = .d d) ∧
    E_n2 ⟨[.d tok, x1, .d (.int (i : Nat)), .o (.list (ws.map .str)), .d (.str sgS), x5, x6, x7], some r⟩ = .ok .nx ⟨[.d tok, x1, .d (.int (i : Nat)), .o (.list ((ws ++ [w]).map .str)), .d (.str sgS), y5, y6, y7], some r'⟩ := by
    intro x ex gx
    refine ⟨x, r3, .d (.str word), .d (.str oz), y7, gx, w3.mono (by omega), hy, ?_⟩
    have e7 := appD_ok (i := 3) rfl ex rfl (by rw [List.length_map, hg.len]; omega)
    unfold E_n2
    refine (seqS_nx f1).trans ((seqS_nx f2).trans ?_)
    unfold exprS
    rw [e7, List.map_append]
    rfl
  have gw : Good (i + 1) (ws ++ [word]) := by
    refine ⟨by rw [List.length_append, hg.len]; rfl, ?_, ?_⟩
    · rw [List.nodup_append]
      exact ⟨hg.nod, by simp, fun a ha b hb => by rw [List.mem_singleton] at hb; subst hb; exact fun z => hnew (z ▸ ha)⟩
    · intro w hw
      rcases List.mem_append.mp hw with hw | hw
      · obtain ⟨a, b⟩ := hg.all w hw
        exact ⟨a, b.imp id fun ⟨j, hj, q⟩ => ⟨j, by omega, q⟩⟩
      · rw [List.mem_singleton] at hw
        subst hw
        exact ⟨hword.1, .inr ⟨i, by omega, hword.2⟩⟩
  by_cases hv : v = 0 ∧ oz ∉ ws
  · refine fin oz ?_ ?_
    · unfold ifD andT opdT ofD
      simp only [fxOf, runD, seqS, retS, retN, ifS, exprS, setS, setE, cD, vD, opd1, opd2, pkS, lift1, lift2, andD, orD, notD, boolD, ofD, boolT, notT, andT, orT, ifD, opdT, callD, callF, consA, nilA, tupD, lstD, Sl.val, nxS, bkS, ctS, raiseS, parS, par3S, asgS, gT, gsCons, gsNil, gN, drAt, drRest, drTurn, drCells, drMore, drPop, drPutS, Out.bind_ok, Out.bind_exc, Out.bind_bad, List.getElem?_cons_zero, List.getElem?_cons_succ, List.getElem?_nil, List.set_cons_zero, List.set_cons_succ, List.length_cons, List.length_nil, List.map_cons, List.map_nil, List.replicate, List.cons_append, List.nil_append, Nat.reduceAdd, Nat.reduceLT, Nat.lt_irrefl, if_true, if_false, Option.bind_some, Option.bind_none, Option.map_some, Option.map_none, and_self, and_true, true_and, ite_true, ite_false, List.cons.injEq, reduceCtorEq, not_true_eq_false, not_false_eq_true, ne_eq, Nat.reduceEqDiff, okKeyW, e3, hv.1, eqD_int, decide_true, notIn_strs, hv.2, not_false_eq_true]
    · refine ⟨by rw [List.length_append, hg.len]; rfl, ?_, ?_⟩
      · rw [List.nodup_append]
        exact ⟨hg.nod, by simp, fun a ha b hb => by rw [List.mem_singleton] at hb; subst hb; exact fun z => hv.2 (z ▸ ha)⟩
      · intro w hw
        rcases List.mem_append.mp hw with hw | hw
        · obtain ⟨a, b⟩ := hg.all w hw
          exact ⟨a, b.imp id fun ⟨j, hj, q⟩ => ⟨j, by omega, q⟩⟩
        · rw [List.mem_singleton] at hw
          subst hw
          exact ⟨(others_ok _ hoz).1, .inl hoz⟩
  · refine fin word ?_ gw
    by_cases h0 : v = 0
    · have h1 : ¬ (oz ∉ ws) := fun z => hv ⟨h0, z⟩
      unfold ifD andT opdT ofD
      simp only [fxOf, runD, seqS, retS, retN, ifS, exprS, setS, setE, cD, vD, opd1, opd2, pkS, lift1, lift2, andD, orD, notD, boolD, ofD, boolT, notT, andT, orT, ifD, opdT, callD, callF, consA, nilA, tupD, lstD, Sl.val, nxS, bkS, ctS, raiseS, parS, par3S, asgS, gT, gsCons, gsNil, gN, drAt, drRest, drTurn, drCells, drMore, drPop, drPutS, Out.bind_ok, Out.bind_exc, Out.bind_bad, List.getElem?_cons_zero, List.getElem?_cons_succ, List.getElem?_nil, List.set_cons_zero, List.set_cons_succ, List.length_cons, List.length_nil, List.map_cons, List.map_nil, List.replicate, List.cons_append, List.nil_append, Nat.reduceAdd, Nat.reduceLT, Nat.lt_irrefl, if_true, if_false, Option.bind_some, Option.bind_none, Option.map_some, Option.map_none, and_self, and_true, true_and, ite_true, ite_false, List.cons.injEq, reduceCtorEq, not_true_eq_false, not_false_eq_true, ne_eq, Nat.reduceEqDiff, okKeyW, e3, h0, eqD_int, decide_true, notIn_strs, h1, decide_false, Bool.false_eq_true]
    · unfold ifD andT opdT ofD
      simp only [fxOf, runD, seqS, retS, retN, ifS, exprS, setS, setE, cD, vD, opd1, opd2, pkS, lift1, lift2, andD, orD, notD, boolD, ofD, boolT, notT, andT, orT, ifD, opdT, callD, callF, consA, nilA, tupD, lstD, Sl.val, nxS, bkS, ctS, raiseS, parS, par3S, asgS, gT, gsCons, gsNil, gN, drAt, drRest, drTurn, drCells, drMore, drPop, drPutS, Out.bind_ok, Out.bind_exc, Out.bind_bad, List.getElem?_cons_zero, List.getElem?_cons_succ, List.getElem?_nil, List.set_cons_zero, List.set_cons_succ, List.length_cons, List.length_nil, List.map_cons, List.map_nil, List.replicate, List.cons_append, List.nil_append, Nat.reduceAdd, Nat.reduceLT, Nat.lt_irrefl, if_true, if_false, Option.bind_some, Option.bind_none, Option.map_some, Option.map_none, and_self, and_true, true_and, ite_true, ite_false, List.cons.injEq, reduceCtorEq, not_true_eq_false, not_false_eq_true, ne_eq, Nat.reduceEqDiff, okKeyW, e3, h0, eqD_int, decide_false, Bool.false_eq_true]
theorem names_ok {n many : Nat} {r : Dr} (h : Dw (n + 11 * many) r) (hm : many ≤ 26) : ∃ (ws : List Str) (r' : Dr), ws.length = many ∧ ws.Nodup ∧ (∀ w ∈ ws, IsNm w) ∧ Dw n r' ∧ E_names [tok, .int (many : Nat)] (some r) = .ok (.list (ws.map .str)) (some r') := by
  obtain ⟨s2, e, ws, r1, x2, x5, x6, x7, hg, hw, hx, rfl⟩ := for_done (g := gN 2) (body := E_n2) (fun i s => ∃ (ws : List Str) (r1 : Dr) (x2 x5 x6 x7 : Sl), Good i ws ∧ Dw (n + many + 10 * (many - i)) r1 ∧ (x7 = .u ∨ ∃ d, x7 = .d d) ∧ s = ⟨[.d tok, .d (.int (many : Nat)), x2, .o (.list (ws.map .str)), .d (.str sgS), x5, x6, x7], some r1⟩)
    ((List.range many).map fun i => .int (i : Nat)) ⟨[.d tok, .d (.int (many : Nat)), .u, .o (.list []), .d (.str sgS), .u, .u, .u], some r⟩ ⟨[], r, .u, .u, .u, .u, ⟨rfl, .nil, fun w hw => by cases hw⟩, h.mono (by omega), .inl rfl, rfl⟩ (by
    rintro i x s hx ⟨ws, r1, x2, x5, x6, x7, hg, hw, h7, rfl⟩
    rw [List.getElem?_map] at hx
    obtain ⟨j, hj, rfl⟩ := Option.map_eq_some_iff.mp hx
    have hi : i < many := by
      have := (List.getElem?_eq_some_iff.mp hj).1
      simpa using this
    have : j = i := by
      rw [List.getElem?_range hi] at hj
      exact (Option.some.inj hj).symm
    subst this
    obtain ⟨w, r2, y5, y6, y7, g2, w2, hy, e2⟩ := turn_ok (many := many) (n := n + many + 10 * (many - (j + 1))) (x1 := .d (.int (many : Nat))) (x2 := .u) (x5 := x5) (x6 := x6) (hw.mono (by omega)) hg (by omega) h7
    exact ⟨⟨[.d tok, .d (.int (many : Nat)), .d (.int (j : Nat)), .o (.list (ws.map .str)), .d (.str sgS), x5, x6, x7], some r1⟩, _, rfl, .inl e2, ws ++ [w], r2, _, y5, y6, y7, g2, w2, hy, rfl⟩)
  have hlen : ws.length = many := by rw [hg.len, List.length_map, List.length_range]
  obtain ⟨ys, hp, r2, w2, e2⟩ := shuffled_ok (n := n) (r := r1) (xs := ws.map .str) (fun x hx => by obtain ⟨w, _, rfl⟩ := List.mem_map.mp hx; exact ⟨rfl, by simp [PyData.depth]⟩) (hw.mono (by rw [List.length_map]; omega)) (by rw [List.length_map]; omega) (.list (ws.map .str)) (.inl rfl)
  have hys : ∃ zs : List Str, ys = zs.map .str ∧ zs.Perm ws := by
    have : ∀ {as bs : List D}, as.Perm bs → ∀ ws : List Str, bs = ws.map .str → ∃ zs : List Str, as = zs.map .str ∧ zs.Perm ws := by
      intro as bs hp ws hb
      have hall : ∀ a ∈ as, ∃ w, a = PyData.str w := fun a ha => by
        have := hp.mem_iff.mp ha
        rw [hb] at this
        obtain ⟨w, _, rfl⟩ := List.mem_map.mp this
        exact ⟨w, rfl⟩
      refine ⟨as.map fun a => match a with | .str w => w | _ => "", ?_, ?_⟩
      · rw [List.map_map]
        conv => lhs; rw [← List.map_id as]
        apply List.map_congr_left
        intro a ha
        obtain ⟨w, rfl⟩ := hall a ha
        rfl
      · have := hp.map (fun a => match a with | .str w => w | _ => ("" : Str))
        rw [hb, List.map_map] at this
        refine this.trans ?_
        exact (List.Perm.of_eq ((List.map_congr_left (g := id) fun w _ => rfl).trans (List.map_id ws)))
    exact this hp ws rfl
  obtain ⟨zs, rfl, hz⟩ := hys
  refine ⟨zs, r2, by rw [hz.length_eq, hlen], hz.nodup_iff.mpr hg.nod, fun w hw => (hg.all w (hz.mem_iff.mp hw)).1, w2, ?_⟩
  have f1 : parS 3 4 (lstD nilA) (cD (.str "abcdefghijklmnopqrstuvwxyz")) ⟨[.d tok, .d (.int (many : Nat)), .u, .u, .u, .u, .u, .u], some r⟩ = .ok .nx ⟨[.d tok, .d (.int (many : Nat)), .u, .o (.list []), .d (.str sgS), .u, .u, .u], some r⟩ := by
    simp only [fxOf, runD, seqS, retS, retN, ifS, exprS, setS, setE, cD, vD, opd1, opd2, pkS, lift1, lift2, andD, orD, notD, boolD, ofD, boolT, notT, andT, orT, ifD, opdT, callD, callF, consA, nilA, tupD, lstD, Sl.val, nxS, bkS, ctS, raiseS, parS, par3S, asgS, gT, gsCons, gsNil, gN, drAt, drRest, drTurn, drCells, drMore, drPop, drPutS, Out.bind_ok, Out.bind_exc, Out.bind_bad, List.getElem?_cons_zero, List.getElem?_cons_succ, List.getElem?_nil, List.set_cons_zero, List.set_cons_succ, List.length_cons, List.length_nil, List.map_cons, List.map_nil, List.replicate, List.cons_append, List.nil_append, Nat.reduceAdd, Nat.reduceLT, Nat.lt_irrefl, if_true, if_false, Option.bind_some, Option.bind_none, Option.map_some, Option.map_none, and_self, and_true, true_and, ite_true, ite_false, List.cons.injEq, reduceCtorEq, not_true_eq_false, not_false_eq_true, ne_eq, Nat.reduceEqDiff, okKeyW, if_pos (size_ok (show 0 ≤ 1000 by decide))]
    rfl
  have f2 : forM (rng1D (vD 1)) (gN 2) E_n2 ⟨[.d tok, .d (.int (many : Nat)), .u, .o (.list []), .d (.str sgS), .u, .u, .u], some r⟩ = .ok .nx ⟨[.d tok, .d (.int (many : Nat)), x2, .o (.list (ws.map .str)), .d (.str sgS), x5, x6, x7], some r1⟩ := by
    unfold forM
    rw [rng1_ok (m := vD 1) (j := many) (r := .d (.int (many : Nat))) (s1 := ⟨[.d tok, .d (.int (many : Nat)), .u, .o (.list []), .d (.str sgS), .u, .u, .u], some r⟩) rfl rfl (by omega)]
    exact e
  have f3 : retS (callD E_shuffled (consA (vD 0) (consA (vD 3) nilA))) ⟨[.d tok, .d (.int (many : Nat)), x2, .o (.list (ws.map .str)), .d (.str sgS), x5, x6, x7], some r1⟩ = .ok (.rt (.d (.list (zs.map .str)))) ⟨[.d tok, .d (.int (many : Nat)), x2, .d (.list (ws.map .str)), .d (.str sgS), x5, x6, x7], some r2⟩ := by
    simp only [fxOf, runD, seqS, retS, retN, ifS, exprS, setS, setE, cD, vD, opd1, opd2, pkS, lift1, lift2, andD, orD, notD, boolD, ofD, boolT, notT, andT, orT, ifD, opdT, callD, callF, consA, nilA, tupD, lstD, Sl.val, nxS, bkS, ctS, raiseS, parS, par3S, asgS, gT, gsCons, gsNil, gN, drAt, drRest, drTurn, drCells, drMore, drPop, drPutS, Out.bind_ok, Out.bind_exc, Out.bind_bad, List.getElem?_cons_zero, List.getElem?_cons_succ, List.getElem?_nil, List.set_cons_zero, List.set_cons_succ, List.length_cons, List.length_nil, List.map_cons, List.map_nil, List.replicate, List.cons_append, List.nil_append, Nat.reduceAdd, Nat.reduceLT, Nat.lt_irrefl, if_true, if_false, Option.bind_some, Option.bind_none, Option.map_some, Option.map_none, and_self, and_true, true_and, ite_true, ite_false, List.cons.injEq, reduceCtorEq, not_true_eq_false, not_false_eq_true, ne_eq, Nat.reduceEqDiff, okKeyW, e2]
  exact fx_rt (k := 2) (n := 6) (ds := [tok, .int (many : Nat)]) (dr := some r) rfl ((seqS_nx f1).trans ((seqS_nx f2).trans f3))
end Dy
end
section
set_option Elab.async false
set_option linter.all false
set_option maxRecDepth 100000
set_option maxHeartbeats 4000000
noncomputable section
namespace Lw
open PySem PySem.Spec PyProof.Rows L2 Dy LamX
def top (i : Nat) : Stmt := PySem.Challenge.pw_runskept_k00_names_and_words.main.body.getD i (.Pass ⟨0, 0, 0, 0⟩)
abbrev FnP (K : PySem.W.Frag) (x : Str) (st : Stmt) (f : Addr) (fd : FuncData) : Prop := L2.FunD K x x (defArgs st) (defBody st) (defScope st) [] [] f fd
abbrev st_is_number : Stmt := top 19
theorem sc_is_number : FnScope ["thing"] ["thing"] (defScope st_is_number) := ⟨rfl, rfl, rfl, by decide +kernel, rfl, by decide +kernel, by decide +kernel⟩
abbrev st_is_name : Stmt := top 20
theorem sc_is_name : FnScope ["thing", "sign"] ["thing"] (defScope st_is_name) := ⟨rfl, rfl, rfl, by decide +kernel, rfl, by decide +kernel, by decide +kernel⟩
abbrev st_is_word : Stmt := top 26
theorem sc_is_word : FnScope ["thing"] ["thing"] (defScope st_is_word) := ⟨rfl, rfl, rfl, by decide +kernel, rfl, by decide +kernel, by decide +kernel⟩
abbrev st_is_op : Stmt := top 27
theorem sc_is_op : FnScope ["thing"] ["thing"] (defScope st_is_op) := ⟨rfl, rfl, rfl, by decide +kernel, rfl, by decide +kernel, by decide +kernel⟩
abbrev st_wrapped : Stmt := top 28
theorem sc_wrapped : FnScope ["number"] ["number"] (defScope st_wrapped) := ⟨rfl, rfl, rfl, by decide +kernel, rfl, by decide +kernel, by decide +kernel⟩
abbrev st_wrap : Stmt := top 29
theorem sc_wrap : FnScope ["number"] ["number"] (defScope st_wrap) := ⟨rfl, rfl, rfl, by decide +kernel, rfl, by decide +kernel, by decide +kernel⟩
abbrev st_result : Stmt := top 30
theorem sc_result : FnScope ["op", "words", "one", "other"] ["op", "words"] (defScope st_result) := ⟨rfl, rfl, rfl, by decide +kernel, rfl, by decide +kernel, by decide +kernel⟩
abbrev st_computed : Stmt := top 31
theorem sc_computed : FnScope ["op", "words", "word"] ["op", "words"] (defScope st_computed) := ⟨rfl, rfl, rfl, by decide +kernel, rfl, by decide +kernel, by decide +kernel⟩
abbrev st__law_begun : Stmt := top 33
theorem sc__law_begun : FnScope ["script", "wide", "grain"] ["script"] (defScope st__law_begun) := ⟨rfl, rfl, rfl, by decide +kernel, rfl, by decide +kernel, by decide +kernel⟩
abbrev st__law_mixed : Stmt := top 34
theorem sc__law_mixed : FnScope ["draw", "prime", "turn", "found", "blend", "grain"] ["draw"] (defScope st__law_mixed) := ⟨rfl, rfl, rfl, by decide +kernel, rfl, by decide +kernel, by decide +kernel⟩
abbrev st__law_take : Stmt := top 35
theorem sc__law_take : FnScope ["draw", "many", "found"] ["draw", "many"] (defScope st__law_take) := ⟨rfl, rfl, rfl, by decide +kernel, rfl, by decide +kernel, by decide +kernel⟩
abbrev st__law_pick : Stmt := top 36
theorem sc__law_pick : FnScope ["draw", "some"] ["draw", "some"] (defScope st__law_pick) := ⟨rfl, rfl, rfl, by decide +kernel, rfl, by decide +kernel, by decide +kernel⟩
abbrev st__law_shuffled : Stmt := top 37
theorem sc__law_shuffled : FnScope ["draw", "some", "remain", "found"] ["draw", "some"] (defScope st__law_shuffled) := ⟨rfl, rfl, rfl, by decide +kernel, rfl, by decide +kernel, by decide +kernel⟩
abbrev st__law_kept : Stmt := top 38
theorem sc__law_kept : FnScope ["found"] [] (defScope st__law_kept) := ⟨rfl, rfl, rfl, by decide +kernel, rfl, by decide +kernel, by decide +kernel⟩
abbrev st__law_names : Stmt := top 39
theorem sc__law_names : FnScope ["draw", "many", "k", "found", "signs", "word", "other", "turn"] ["draw", "many"] (defScope st__law_names) := ⟨rfl, rfl, rfl, by decide +kernel, rfl, by decide +kernel, by decide +kernel⟩
abbrev st__law_is_name : Stmt := top 40
theorem sc__law_is_name : FnScope ["thing", "sign"] ["thing"] (defScope st__law_is_name) := ⟨rfl, rfl, rfl, by decide +kernel, rfl, by decide +kernel, by decide +kernel⟩
abbrev st__law_same : Stmt := top 41
theorem sc__law_same : FnScope ["told", "due"] ["told", "due"] (defScope st__law_same) := ⟨rfl, rfl, rfl, by decide +kernel, rfl, by decide +kernel, by decide +kernel⟩
abbrev st__law_folded : Stmt := top 42
theorem sc__law_folded : FnScope ["number", "low"] ["number"] (defScope st__law_folded) := ⟨rfl, rfl, rfl, by decide +kernel, rfl, by decide +kernel, by decide +kernel⟩
abbrev st__law_word : Stmt := top 43
theorem sc__law_word : FnScope ["draw", "kind"] ["draw"] (defScope st__law_word) := ⟨rfl, rfl, rfl, by decide +kernel, rfl, by decide +kernel, by decide +kernel⟩
abbrev st__law_worth : Stmt := top 44
theorem sc__law_worth : FnScope ["op", "words"] ["op", "words"] (defScope st__law_worth) := ⟨rfl, rfl, rfl, by decide +kernel, rfl, by decide +kernel, by decide +kernel⟩
abbrev st__law_many_args : Stmt := top 45
theorem sc__law_many_args : FnScope ["op"] ["op"] (defScope st__law_many_args) := ⟨rfl, rfl, rfl, by decide +kernel, rfl, by decide +kernel, by decide +kernel⟩
abbrev st__law_ops : Stmt := top 46
theorem sc__law_ops : FnScope [] [] (defScope st__law_ops) := ⟨rfl, rfl, rfl, by decide +kernel, rfl, by decide +kernel, by decide +kernel⟩
abbrev st__law_near_word : Stmt := top 47
theorem sc__law_near_word : FnScope ["draw", "word", "sign", "at", "kind"] ["draw"] (defScope st__law_near_word) := ⟨rfl, rfl, rfl, by decide +kernel, rfl, by decide +kernel, by decide +kernel⟩
abbrev st__law_number : Stmt := top 50
theorem sc__law_number : FnScope ["draw", "kind"] ["draw"] (defScope st__law_number) := ⟨rfl, rfl, rfl, by decide +kernel, rfl, by decide +kernel, by decide +kernel⟩
abbrev st__law_told : Stmt := top 48
theorem sc__law_told : FnScope ["work", "error", "found", "caught"] ["work"] (defScope st__law_told) := ⟨rfl, rfl, rfl, by decide +kernel, rfl, by decide +kernel, by decide +kernel⟩
abbrev st__law_all : Stmt := top 49
theorem sc__law_all : FnScope ["works", "found", "work"] ["works"] (defScope st__law_all) := ⟨rfl, rfl, rfl, by decide +kernel, rfl, by decide +kernel, by decide +kernel⟩
abbrev st__law_is_computed : Stmt := top 51
theorem sc__law_is_computed : FnScope ["draw", "op", "words", "wrong", "bad", "found", "k"] ["draw"] (defScope st__law_is_computed) := ⟨rfl, rfl, rfl, by decide +kernel, rfl, by decide +kernel, by decide +kernel⟩
abbrev st_law : Stmt := top 52
theorem sc_law : FnScope ["script", "draw", "word", "turn", "some", "pair", "one", "other"] ["script"] (defScope st_law) := ⟨rfl, rfl, rfl, by decide +kernel, rfl, by decide +kernel, by decide +kernel⟩
def lamA_0 : LamA := match lamAt ((("_law_is_computed" : Str) ++ ".<locals>.") ++ "<lambda>") (defBody st__law_is_computed) [5] 0 [1, 0] with
  | some a => a
  | none => ⟨"", defArgs st__law_is_computed, .Constant .none 0 ⟨0, 0, 0, 0⟩, defScope st__law_is_computed⟩
def lamA_1 : LamA := match lamAt ((("_law_is_computed" : Str) ++ ".<locals>.") ++ "<lambda>") (defBody st__law_is_computed) [5] 0 [1, 1] with
  | some a => a
  | none => ⟨"", defArgs st__law_is_computed, .Constant .none 0 ⟨0, 0, 0, 0⟩, defScope st__law_is_computed⟩
def lamA_2 : LamA := match lamAt ((("_law_is_computed" : Str) ++ ".<locals>.") ++ "<lambda>") (defBody st__law_is_computed) [5] 0 [1, 2] with
  | some a => a
  | none => ⟨"", defArgs st__law_is_computed, .Constant .none 0 ⟨0, 0, 0, 0⟩, defScope st__law_is_computed⟩
instance lawI : LawI := ⟨["_law_is_computed"], fun i => match i with
  | 0 => some lamA_0
  | 1 => some lamA_1
  | 2 => some lamA_2
  | _ => none⟩
theorem la_0 : LawI.lamAst 0 = some lamA_0 := rfl
theorem la_1 : LawI.lamAst 1 = some lamA_1 := rfl
theorem la_2 : LawI.lamAst 2 = some lamA_2 := rfl
variable [Ph]
def g_KEPT : List Str := ["add", "base", "block", "cannot", "copy", "done", "end", "goto", "if", "less", "mul", "none", "nothing", "num", "param", "program", "same", "set", "show", "stop", "sub", "what"]
def g_TAKES : List (Str × D) := [("num", .int 1), ("copy", .int 1), ("add", .int 2), ("sub", .int 2), ("mul", .int 2), ("less", .int 2), ("same", .int 2)]
def subx_BadCount (c : Str) : Option Bool := ([("CodeError", false), ("BadCount", true), ("BadEnd", false), ("BadGraph", false), ("BadInputs", false), ("BadLabel", false), ("BadMoment", false), ("BadNode", false), ("BadNumber", false), ("BadOp", false), ("BadOther", false), ("BadPlace", false), ("BadProgram", false), ("BadStep", false), ("BadWords", false)] : List (Str × Bool)).lookup c
def subx_BadEnd (c : Str) : Option Bool := ([("CodeError", false), ("BadCount", false), ("BadEnd", true), ("BadGraph", false), ("BadInputs", false), ("BadLabel", false), ("BadMoment", false), ("BadNode", false), ("BadNumber", false), ("BadOp", false), ("BadOther", false), ("BadPlace", false), ("BadProgram", false), ("BadStep", false), ("BadWords", false)] : List (Str × Bool)).lookup c
def subx_BadGraph (c : Str) : Option Bool := ([("CodeError", false), ("BadCount", false), ("BadEnd", false), ("BadGraph", true), ("BadInputs", false), ("BadLabel", false), ("BadMoment", false), ("BadNode", false), ("BadNumber", false), ("BadOp", false), ("BadOther", false), ("BadPlace", false), ("BadProgram", false), ("BadStep", false), ("BadWords", false)] : List (Str × Bool)).lookup c
def subx_BadInputs (c : Str) : Option Bool := ([("CodeError", false), ("BadCount", false), ("BadEnd", false), ("BadGraph", false), ("BadInputs", true), ("BadLabel", false), ("BadMoment", false), ("BadNode", false), ("BadNumber", false), ("BadOp", false), ("BadOther", false), ("BadPlace", false), ("BadProgram", false), ("BadStep", false), ("BadWords", false)] : List (Str × Bool)).lookup c
def subx_BadLabel (c : Str) : Option Bool := ([("CodeError", false), ("BadCount", false), ("BadEnd", false), ("BadGraph", false), ("BadInputs", false), ("BadLabel", true), ("BadMoment", false), ("BadNode", false), ("BadNumber", false), ("BadOp", false), ("BadOther", false), ("BadPlace", false), ("BadProgram", false), ("BadStep", false), ("BadWords", false)] : List (Str × Bool)).lookup c
def subx_BadMoment (c : Str) : Option Bool := ([("CodeError", false), ("BadCount", false), ("BadEnd", false), ("BadGraph", false), ("BadInputs", false), ("BadLabel", false), ("BadMoment", true), ("BadNode", false), ("BadNumber", false), ("BadOp", false), ("BadOther", false), ("BadPlace", false), ("BadProgram", false), ("BadStep", false), ("BadWords", false)] : List (Str × Bool)).lookup c
def subx_BadNode (c : Str) : Option Bool := ([("CodeError", false), ("BadCount", false), ("BadEnd", false), ("BadGraph", false), ("BadInputs", false), ("BadLabel", false), ("BadMoment", false), ("BadNode", true), ("BadNumber", false), ("BadOp", false), ("BadOther", false), ("BadPlace", false), ("BadProgram", false), ("BadStep", false), ("BadWords", false)] : List (Str × Bool)).lookup c
def subx_BadNumber (c : Str) : Option Bool := ([("CodeError", false), ("BadCount", false), ("BadEnd", false), ("BadGraph", false), ("BadInputs", false), ("BadLabel", false), ("BadMoment", false), ("BadNode", false), ("BadNumber", true), ("BadOp", false), ("BadOther", false), ("BadPlace", false), ("BadProgram", false), ("BadStep", false), ("BadWords", false)] : List (Str × Bool)).lookup c
def subx_BadOp (c : Str) : Option Bool := ([("CodeError", false), ("BadCount", false), ("BadEnd", false), ("BadGraph", false), ("BadInputs", false), ("BadLabel", false), ("BadMoment", false), ("BadNode", false), ("BadNumber", false), ("BadOp", true), ("BadOther", false), ("BadPlace", false), ("BadProgram", false), ("BadStep", false), ("BadWords", false)] : List (Str × Bool)).lookup c
def subx_BadOther (c : Str) : Option Bool := ([("CodeError", false), ("BadCount", false), ("BadEnd", false), ("BadGraph", false), ("BadInputs", false), ("BadLabel", false), ("BadMoment", false), ("BadNode", false), ("BadNumber", false), ("BadOp", false), ("BadOther", true), ("BadPlace", false), ("BadProgram", false), ("BadStep", false), ("BadWords", false)] : List (Str × Bool)).lookup c
def subx_BadPlace (c : Str) : Option Bool := ([("CodeError", false), ("BadCount", false), ("BadEnd", false), ("BadGraph", false), ("BadInputs", false), ("BadLabel", false), ("BadMoment", false), ("BadNode", false), ("BadNumber", false), ("BadOp", false), ("BadOther", false), ("BadPlace", true), ("BadProgram", false), ("BadStep", false), ("BadWords", false)] : List (Str × Bool)).lookup c
def subx_BadProgram (c : Str) : Option Bool := ([("CodeError", false), ("BadCount", false), ("BadEnd", false), ("BadGraph", false), ("BadInputs", false), ("BadLabel", false), ("BadMoment", false), ("BadNode", false), ("BadNumber", false), ("BadOp", false), ("BadOther", false), ("BadPlace", false), ("BadProgram", true), ("BadStep", false), ("BadWords", false)] : List (Str × Bool)).lookup c
def subx_BadStep (c : Str) : Option Bool := ([("CodeError", false), ("BadCount", false), ("BadEnd", false), ("BadGraph", false), ("BadInputs", false), ("BadLabel", false), ("BadMoment", false), ("BadNode", false), ("BadNumber", false), ("BadOp", false), ("BadOther", false), ("BadPlace", false), ("BadProgram", false), ("BadStep", true), ("BadWords", false)] : List (Str × Bool)).lookup c
def subx_BadWords (c : Str) : Option Bool := ([("CodeError", false), ("BadCount", false), ("BadEnd", false), ("BadGraph", false), ("BadInputs", false), ("BadLabel", false), ("BadMoment", false), ("BadNode", false), ("BadNumber", false), ("BadOp", false), ("BadOther", false), ("BadPlace", false), ("BadProgram", false), ("BadStep", false), ("BadWords", true)] : List (Str × Bool)).lookup c
def sub_CodeError (c : Str) : Option Bool := ([("CodeError", true), ("BadCount", true), ("BadEnd", true), ("BadGraph", true), ("BadInputs", true), ("BadLabel", true), ("BadMoment", true), ("BadNode", true), ("BadNumber", true), ("BadOp", true), ("BadOther", true), ("BadPlace", true), ("BadProgram", true), ("BadStep", true), ("BadWords", true)] : List (Str × Bool)).lookup c
structure Fc (K : PySem.W.Frag) (w : World) (mg : Str → Option Value) : Prop where
  gi_HIGH : ∃ t, mg "HIGH" = some (.int 2147483647 t)
  gt_KEPT : ∃ p, mg "KEPT" = some (.ref p) ∧ ∀ H, SqT K H p (g_KEPT.map V.str)
  gs_LETTERS : ∃ t, mg "LETTERS" = some (.str "abcdefghijklmnopqrstuvwxyz" t)
  gi_LOW : ∃ t, mg "LOW" = some (.int (-2147483648) t)
  gi_SPAN : ∃ t, mg "SPAN" = some (.int 4294967296 t)
  tb_TAKES : TabG K w mg "TAKES" g_TAKES
  fr_abs : mg "abs" = none
  fr_all : mg "all" = none
  fr_bool : mg "bool" = none
  fr_int : mg "int" = none
  fr_isinstance : mg "isinstance" = none
  fr_len : mg "len" = none
  fr_list : mg "list" = none
  fr_min : mg "min" = none
  fr_range : mg "range" = none
  fr_repr : mg "repr" = none
  fr_str : mg "str" = none
  fr_tuple : mg "tuple" = none
  ex_BadCount : ExCl K mg "BadCount"
  ex_BadEnd : ExCl K mg "BadEnd"
  ex_BadGraph : ExCl K mg "BadGraph"
  ex_BadInputs : ExCl K mg "BadInputs"
  ex_BadLabel : ExCl K mg "BadLabel"
  ex_BadMoment : ExCl K mg "BadMoment"
  ex_BadNode : ExCl K mg "BadNode"
  ex_BadNumber : ExCl K mg "BadNumber"
  ex_BadOp : ExCl K mg "BadOp"
  ex_BadOther : ExCl K mg "BadOther"
  ex_BadPlace : ExCl K mg "BadPlace"
  ex_BadProgram : ExCl K mg "BadProgram"
  ex_BadStep : ExCl K mg "BadStep"
  ex_BadWords : ExCl K mg "BadWords"
  ex_CodeError : ExCl K mg "CodeError"
  ix_BadCount : IsX K "BadCount" subx_BadCount
  ix_BadEnd : IsX K "BadEnd" subx_BadEnd
  ix_BadGraph : IsX K "BadGraph" subx_BadGraph
  ix_BadInputs : IsX K "BadInputs" subx_BadInputs
  ix_BadLabel : IsX K "BadLabel" subx_BadLabel
  ix_BadMoment : IsX K "BadMoment" subx_BadMoment
  ix_BadNode : IsX K "BadNode" subx_BadNode
  ix_BadNumber : IsX K "BadNumber" subx_BadNumber
  ix_BadOp : IsX K "BadOp" subx_BadOp
  ix_BadOther : IsX K "BadOther" subx_BadOther
  ix_BadPlace : IsX K "BadPlace" subx_BadPlace
  ix_BadProgram : IsX K "BadProgram" subx_BadProgram
  ix_BadStep : IsX K "BadStep" subx_BadStep
  ix_BadWords : IsX K "BadWords" subx_BadWords
  em_CodeError : ∀ c b, sub_CodeError c = some b → PySem.W.exmOne K (.ref (He.ga K c)) (.ref (He.ga K "CodeError")) = some b
section
variable {P : Program} {w : World} {K : PySem.W.Frag} {mg : Str → Option Value} {base : Heap}
/-! ### is_number -/
def m_is_number : M Fl :=
  (retS (andD (opd1 (.n 0) (lift1 (isaD fun d => d.isInt))) (notD (opd1 (.n 0) (lift1 (isaD fun d => d.isBool))))))
def fx_is_number : FD := fxOf 1 0 m_is_number
theorem fk_is_number {f : Addr} {fd : FuncData} (F : Fc K w mg)   (Fd : FnP K "is_number" st_is_number f fd) : FnOkG P w K mg base (L2.CX P w) 1 f fd ["thing"] (spD K 1 fx_is_number) :=
  fn_D Fd sc_is_number rfl (fun cdv A outer s H E hr => by
    have hu := hr.units
    have hu1 := hr.units1
    have nd := sc_is_number.nd
    have tkM : Takes (cxOf (L2.CX P w) P w K mg base ["thing"] "is_number" (defScope st_is_number) f cdv A outer s H E) (fun c d _ H => E c d H) := takes_of rfl rfl rfl rfl
    have hp := passes_of (X := (cxOf (L2.CX P w) P w K mg base ["thing"] "is_number" (defScope st_is_number) f cdv A outer s H E)) rfl
    exact (ds_one (ds_ret (d_and (d_isa (oa := (.n 0)) isa_int rfl F.fr_isinstance rfl F.fr_int (by decide +kernel) (nv 0)) (d_one (d_not (d_isa (oa := (.n 0)) isa_bool rfl F.fr_isinstance rfl F.fr_bool (by decide +kernel) (nv 0)))))))) fun ds dr h _ => by unfold fx_is_number fxOf; exact (if_pos h).symm
/-! ### is_name -/
def b_is_name_1 : M Sl :=
  (opd2 (.n 1) (.e (cD (.str "abcdefghijklmnopqrstuvwxyz"))) (lift2 inD))
def m_is_name : M Fl :=
  (seqS (ifS (orT (notT (ofD (opd1 (.n 0) (lift1 (isaD fun d => d.isStr))))) (orT (opdT (.e (opd1 (.n 0) (lift1 lenD))) (.e (cD (.int 1))) ltD) (orT (opdT (.e (opd1 (.n 0) (lift1 lenD))) (.e (cD (.int 8))) gtD) (opdT (.n 0) (.e (cD (.tuple (g_KEPT.map .str)))) inD)))) (retS (cD (.bool false))) nxS)
  (retS (opd1 (.e (lcD (itD (vD 0)) (gN 1) yesT b_is_name_1 [1])) (lift1 allD))))
def fx_is_name : FD := fxOf 1 1 m_is_name
theorem fk_is_name {f : Addr} {fd : FuncData} (F : Fc K w mg)   (Fd : FnP K "is_name" st_is_name f fd) : FnOkG P w K mg base (L2.CX P w) 1 f fd ["thing"] (spD K 1 fx_is_name) :=
  fn_D Fd sc_is_name rfl (fun cdv A outer s H E hr => by
    have hu := hr.units
    have hu1 := hr.units1
    have nd := sc_is_name.nd
    have tkM : Takes (cxOf (L2.CX P w) P w K mg base ["thing", "sign"] "is_name" (defScope st_is_name) f cdv A outer s H E) (fun c d _ H => E c d H) := takes_of rfl rfl rfl rfl
    have hp := passes_of (X := (cxOf (L2.CX P w) P w K mg base ["thing", "sign"] "is_name" (defScope st_is_name) f cdv A outer s H E)) rfl
    exact (ds_cons (ds_if (DW.pt (dw_or (dt_not (dt_val (d_isa (oa := (.n 0)) isa_str rfl F.fr_isinstance rfl F.fr_str (by decide +kernel) (nv 0)))) (dw_or (dt_cmp (oa := (.e (opd1 (.n 0) (lift1 lenD)))) (ob := (.e (cD (.int 1)))) (o_lt hu) (oE (d_call1 (oa := (.n 0)) c_len rfl F.fr_len (by decide +kernel) (nv 0))) (oE d_int) (nomark _)) (dw_or (dt_cmp (oa := (.e (opd1 (.n 0) (lift1 lenD)))) (ob := (.e (cD (.int 8)))) o_gt (oE (d_call1 (oa := (.n 0)) c_len rfl F.fr_len (by decide +kernel) (nv 0))) (oE d_int) (nomark _)) (dw_or1 (dt_cmp (oa := (.n 0)) (ob := (.e (cD (.tuple (g_KEPT.map .str))))) (o_in hu) (nv 0) (oE (d_gTupS rfl F.gt_KEPT)) (by first | exact nobehind _ (by decide) (by decide) | rfl))))))) (ds_one (ds_ret d_bl)) ds_nil)
  (ds_one (ds_ret (d_call1 (oa := (.e (lcD (itD (vD 0)) (gN 1) yesT b_is_name_1 [1]))) (c_all rfl) rfl F.fr_all (by decide +kernel) (oE (d_lc (own := [("sign", 1)]) (ws := [1]) rfl nd (di_iter (d_var (nv 0))) (blkOk_by (N := ["thing", "sign"]) (sc := defScope st_is_name) (own := [("sign", 1)]) (by decide +kernel)) (fun _ _ _ _ _ => (dg_name (i := 1) nd rfl (by first | exact .inl rfl | exact .inr rfl))) (fun _ _ _ _ _ => dts_nil) (fun _ _ _ _ _ => (d_cmp (oa := (.n 1)) (ob := (.e (cD (.str "abcdefghijklmnopqrstuvwxyz")))) (o_in hu) (nv 1) (oE (d_gStr rfl F.gs_LETTERS)) (by first | exact nobehind _ (by decide) (by decide) | rfl))) (by decide)))))))) fun ds dr h _ => by unfold fx_is_name fxOf; exact (if_pos h).symm
/-! ### is_word -/
def m_is_word : M Fl :=
  (retS (andD (callD fx_is_number (consA (vD 0) nilA)) (andD (opd2 (.n 0) (.e (cD (.int (-2147483648)))) (lift2 geD)) (opd2 (.n 0) (.e (cD (.int 2147483647))) (lift2 leD)))))
def fx_is_word : FD := fxOf 1 0 m_is_word
theorem fk_is_word {f : Addr} {fd : FuncData} (F : Fc K w mg) (h_is_number : Has P w K mg base "is_number" 1 1 fx_is_number)  (Fd : FnP K "is_word" st_is_word f fd) : FnOkG P w K mg base (L2.CX P w) 2 f fd ["thing"] (spD K 1 fx_is_word) :=
  fn_D Fd sc_is_word rfl (fun cdv A outer s H E hr => by
    have hu := hr.units
    have hu1 := hr.units1
    have nd := sc_is_word.nd
    have tkM : Takes (cxOf (L2.CX P w) P w K mg base ["thing"] "is_word" (defScope st_is_word) f cdv A outer s H E) (fun c d _ H => E c d H) := takes_of rfl rfl rfl rfl
    have hp := passes_of (X := (cxOf (L2.CX P w) P w K mg base ["thing"] "is_word" (defScope st_is_word) f cdv A outer s H E)) rfl
    exact (ds_one (ds_ret (d_and (d_callH h_is_number tkM hr (by decide) (da_cons (d_var (nv 0)) da_nil) (consA_len nilA_len)) (d_and (d_cmp (oa := (.n 0)) (ob := (.e (cD (.int (-2147483648))))) o_ge (nv 0) (oE (d_gInt rfl F.gi_LOW)) (nomark _)) (d_one (d_cmp (oa := (.n 0)) (ob := (.e (cD (.int 2147483647)))) o_le (nv 0) (oE (d_gInt rfl F.gi_HIGH)) (nomark _)))))))) fun ds dr h _ => by unfold fx_is_word fxOf; exact (if_pos h).symm
/-! ### is_op -/
def m_is_op : M Fl :=
  (retS (andD (opd1 (.n 0) (lift1 (isaD fun d => d.isStr))) (opd1 (.n 0) (lift1 (inGD g_TAKES)))))
def fx_is_op : FD := fxOf 1 0 m_is_op
theorem fk_is_op {f : Addr} {fd : FuncData} (F : Fc K w mg)   (Fd : FnP K "is_op" st_is_op f fd) : FnOkG P w K mg base (L2.CX P w) 1 f fd ["thing"] (spD K 1 fx_is_op) :=
  fn_D Fd sc_is_op rfl (fun cdv A outer s H E hr => by
    have hu := hr.units
    have hu1 := hr.units1
    have nd := sc_is_op.nd
    have tkM : Takes (cxOf (L2.CX P w) P w K mg base ["thing"] "is_op" (defScope st_is_op) f cdv A outer s H E) (fun c d _ H => E c d H) := takes_of rfl rfl rfl rfl
    have hp := passes_of (X := (cxOf (L2.CX P w) P w K mg base ["thing"] "is_op" (defScope st_is_op) f cdv A outer s H E)) rfl
    exact (ds_one (ds_ret (d_and (d_isa (oa := (.n 0)) isa_str rfl F.fr_isinstance rfl F.fr_str (by decide +kernel) (nv 0)) (d_one (d_inG (oa := (.n 0)) F.tb_TAKES (nv 0))))))) fun ds dr h _ => by unfold fx_is_op fxOf; exact (if_pos h).symm
/-! ### wrapped -/
def m_wrapped : M Fl :=
  (retS (opd2 (.e (opd2 (.e (opd1 (.e (opd2 (.n 0) (.e (cD (.int (-2147483648)))) (lift2 subD))) (lift1 toIntD))) (.e (cD (.int 4294967296))) (lift2 modD))) (.e (cD (.int (-2147483648)))) (lift2 addD)))
def fx_wrapped : FD := fxOf 1 0 m_wrapped
theorem fk_wrapped {f : Addr} {fd : FuncData} (F : Fc K w mg)   (Fd : FnP K "wrapped" st_wrapped f fd) : FnOkG P w K mg base (L2.CX P w) 1 f fd ["number"] (spD K 1 fx_wrapped) :=
  fn_D Fd sc_wrapped rfl (fun cdv A outer s H E hr => by
    have hu := hr.units
    have hu1 := hr.units1
    have nd := sc_wrapped.nd
    have tkM : Takes (cxOf (L2.CX P w) P w K mg base ["number"] "wrapped" (defScope st_wrapped) f cdv A outer s H E) (fun c d _ H => E c d H) := takes_of rfl rfl rfl rfl
    have hp := passes_of (X := (cxOf (L2.CX P w) P w K mg base ["number"] "wrapped" (defScope st_wrapped) f cdv A outer s H E)) rfl
    exact (ds_one (ds_ret (d_op (oa := (.e (opd2 (.e (opd1 (.e (opd2 (.n 0) (.e (cD (.int (-2147483648)))) (lift2 subD))) (lift1 toIntD))) (.e (cD (.int 4294967296))) (lift2 modD)))) (ob := (.e (cD (.int (-2147483648))))) o_add (oE (d_op (oa := (.e (opd1 (.e (opd2 (.n 0) (.e (cD (.int (-2147483648)))) (lift2 subD))) (lift1 toIntD)))) (ob := (.e (cD (.int 4294967296)))) o_mod (oE (d_callT1 (oa := (.e (opd2 (.n 0) (.e (cD (.int (-2147483648)))) (lift2 subD)))) c_int rfl F.fr_int (by decide +kernel) (oE (d_op (oa := (.n 0)) (ob := (.e (cD (.int (-2147483648))))) o_sub (nv 0) (oE (d_gInt rfl F.gi_LOW)))))) (oE (d_gInt rfl F.gi_SPAN)))) (oE (d_gInt rfl F.gi_LOW)))))) fun ds dr h _ => by unfold fx_wrapped fxOf; exact (if_pos h).symm
/-! ### wrap -/
def m_wrap : M Fl :=
  (seqS (ifS (notT (ofD (callD fx_is_number (consA (vD 0) nilA)))) (raiseS "BadNumber") nxS)
  (retS (callD fx_wrapped (consA (vD 0) nilA))))
def fx_wrap : FD := fxOf 1 0 m_wrap
theorem fk_wrap {f : Addr} {fd : FuncData} (F : Fc K w mg) (h_is_number : Has P w K mg base "is_number" 1 1 fx_is_number) (h_wrapped : Has P w K mg base "wrapped" 1 1 fx_wrapped)  (Fd : FnP K "wrap" st_wrap f fd) : FnOkG P w K mg base (L2.CX P w) 2 f fd ["number"] (spD K 1 fx_wrap) :=
  fn_D Fd sc_wrap rfl (fun cdv A outer s H E hr => by
    have hu := hr.units
    have hu1 := hr.units1
    have nd := sc_wrap.nd
    have tkM : Takes (cxOf (L2.CX P w) P w K mg base ["number"] "wrap" (defScope st_wrap) f cdv A outer s H E) (fun c d _ H => E c d H) := takes_of rfl rfl rfl rfl
    have hp := passes_of (X := (cxOf (L2.CX P w) P w K mg base ["number"] "wrap" (defScope st_wrap) f cdv A outer s H E)) rfl
    exact (ds_cons (ds_if (dt_not (dt_val (d_callH h_is_number tkM hr (by decide) (da_cons (d_var (nv 0)) da_nil) (consA_len nilA_len)))) (ds_one (ds_raise tkM F.ex_BadNumber)) ds_nil)
  (ds_one (ds_ret (d_callH h_wrapped tkM hr (by decide) (da_cons (d_var (nv 0)) da_nil) (consA_len nilA_len)))))) fun ds dr h _ => by unfold fx_wrap fxOf; exact (if_pos h).symm
/-! ### result -/
def m_result : M Fl :=
  (seqS (ifS (orT (opdT (.n 0) (.e (cD (.str "num"))) eqD) (opdT (.n 0) (.e (cD (.str "copy"))) eqD)) (retS (opd2 (.n 1) (.e (cD (.int 0))) (lift2 ixD))) nxS)
  (seqS (asgS (vD 1) (gT (gsCons (gN 2) (gsCons (gN 3) gsNil))))
  (seqS (ifS (opdT (.n 0) (.e (cD (.str "add"))) eqD) (retS (callD fx_wrapped (consA (opd2 (.n 2) (.n 3) (lift2 addD)) nilA))) nxS)
  (seqS (ifS (opdT (.n 0) (.e (cD (.str "sub"))) eqD) (retS (callD fx_wrapped (consA (opd2 (.n 2) (.n 3) (lift2 subD)) nilA))) nxS)
  (seqS (ifS (opdT (.n 0) (.e (cD (.str "mul"))) eqD) (retS (callD fx_wrapped (consA (opd2 (.n 2) (.n 3) (lift2 mulD)) nilA))) nxS)
  (seqS (ifS (opdT (.n 0) (.e (cD (.str "less"))) eqD) (retS (ifD (opdT (.n 2) (.n 3) ltD) (cD (.int 1)) (cD (.int 0)))) nxS)
  (retS (ifD (opdT (.n 2) (.n 3) eqD) (cD (.int 1)) (cD (.int 0))))))))))
def fx_result : FD := fxOf 2 2 m_result
theorem fk_result {f : Addr} {fd : FuncData} (F : Fc K w mg) (h_wrapped : Has P w K mg base "wrapped" 1 1 fx_wrapped)  (Fd : FnP K "result" st_result f fd) : FnOkG P w K mg base (L2.CX P w) 2 f fd ["op", "words"] (spD K 2 fx_result) :=
  fn_D Fd sc_result rfl (fun cdv A outer s H E hr => by
    have hu := hr.units
    have hu1 := hr.units1
    have nd := sc_result.nd
    have tkM : Takes (cxOf (L2.CX P w) P w K mg base ["op", "words", "one", "other"] "result" (defScope st_result) f cdv A outer s H E) (fun c d _ H => E c d H) := takes_of rfl rfl rfl rfl
    have hp := passes_of (X := (cxOf (L2.CX P w) P w K mg base ["op", "words", "one", "other"] "result" (defScope st_result) f cdv A outer s H E)) rfl
    exact (ds_cons (ds_if (DW.pt (dw_or (dt_cmp (oa := (.n 0)) (ob := (.e (cD (.str "num")))) (o_eq hu) (nv 0) (oE d_str) (nomark _)) (dw_or1 (dt_cmp (oa := (.n 0)) (ob := (.e (cD (.str "copy")))) (o_eq hu) (nv 0) (oE d_str) (nomark _))))) (ds_one (ds_ret (d_ix (oa := (.n 1)) (ob := (.e (cD (.int 0)))) i_ix (by first | exact .inl rfl | decide | exact rfl | (intro _ _; rfl) | (intros; rfl)) (nv 1) (oE d_int)))) ds_nil)
  (ds_cons (ds_asg (vs := ([2] ++ ([3] ++ []))) (d_var (nv 1)) (dg_tup rfl (dgs_cons (dg_name (i := 2) nd rfl (by first | exact .inl rfl | exact .inr rfl)) (dgs_cons (dg_name (i := 3) nd rfl (by first | exact .inl rfl | exact .inr rfl)) dgs_nil)) (gs_lenS (gs_lenS gs_len0))))
  (ds_cons (ds_if (dt_cmp (oa := (.n 0)) (ob := (.e (cD (.str "add")))) (o_eq hu) (nv 0) (oE d_str) (nomark _)) (ds_one (ds_ret (d_callH h_wrapped tkM hr (by decide) (da_cons (d_op (oa := (.n 2)) (ob := (.n 3)) o_add (nv 2) (nv 3)) da_nil) (consA_len nilA_len)))) ds_nil)
  (ds_cons (ds_if (dt_cmp (oa := (.n 0)) (ob := (.e (cD (.str "sub")))) (o_eq hu) (nv 0) (oE d_str) (nomark _)) (ds_one (ds_ret (d_callH h_wrapped tkM hr (by decide) (da_cons (d_op (oa := (.n 2)) (ob := (.n 3)) o_sub (nv 2) (nv 3)) da_nil) (consA_len nilA_len)))) ds_nil)
  (ds_cons (ds_if (dt_cmp (oa := (.n 0)) (ob := (.e (cD (.str "mul")))) (o_eq hu) (nv 0) (oE d_str) (nomark _)) (ds_one (ds_ret (d_callH h_wrapped tkM hr (by decide) (da_cons (d_op (oa := (.n 2)) (ob := (.n 3)) o_mul (nv 2) (nv 3)) da_nil) (consA_len nilA_len)))) ds_nil)
  (ds_cons (ds_if (dt_cmp (oa := (.n 0)) (ob := (.e (cD (.str "less")))) (o_eq hu) (nv 0) (oE d_str) (nomark _)) (ds_one (ds_ret (d_if (dt_cmp (oa := (.n 2)) (ob := (.n 3)) (o_lt hu) (nv 2) (nv 3) (nomark _)) d_int d_int))) ds_nil)
  (ds_one (ds_ret (d_if (dt_cmp (oa := (.n 2)) (ob := (.n 3)) (o_eq hu) (nv 2) (nv 3) (nomark _)) d_int d_int)))))))))) fun ds dr h _ => by unfold fx_result fxOf; exact (if_pos h).symm
/-! ### computed -/
def m_computed : M Fl :=
  (seqS (ifS (notT (ofD (callD fx_is_op (consA (vD 0) nilA)))) (raiseS "BadOp") nxS)
  (seqS (ifS (orT (notT (ofD (opd1 (.n 1) (lift1 (isaD fun d => d.isTuple))))) (orT (opdT (.e (opd1 (.n 1) (lift1 lenD))) (.e (opd1 (.n 0) (lift1 (getGD g_TAKES)))) neD) (notT (ofD (opd1 (.e (lcD (itD (vD 1)) (gN 2) yesT (callD fx_is_word (consA (vD 2) nilA)) [2])) (lift1 allD)))))) (raiseS "BadWords") nxS)
  (retS (callD fx_result (consA (vD 0) (consA (vD 1) nilA))))))
def fx_computed : FD := fxOf 2 1 m_computed
theorem fk_computed {f : Addr} {fd : FuncData} (F : Fc K w mg) (h_is_op : Has P w K mg base "is_op" 1 1 fx_is_op) (h_is_word : Has P w K mg base "is_word" 1 2 fx_is_word) (h_result : Has P w K mg base "result" 2 2 fx_result)  (Fd : FnP K "computed" st_computed f fd) : FnOkG P w K mg base (L2.CX P w) 3 f fd ["op", "words"] (spD K 2 fx_computed) :=
  fn_D Fd sc_computed rfl (fun cdv A outer s H E hr => by
    have hu := hr.units
    have hu1 := hr.units1
    have nd := sc_computed.nd
    have tkM : Takes (cxOf (L2.CX P w) P w K mg base ["op", "words", "word"] "computed" (defScope st_computed) f cdv A outer s H E) (fun c d _ H => E c d H) := takes_of rfl rfl rfl rfl
    have hp := passes_of (X := (cxOf (L2.CX P w) P w K mg base ["op", "words", "word"] "computed" (defScope st_computed) f cdv A outer s H E)) rfl
    exact (ds_cons (ds_if (dt_not (dt_val (d_callH h_is_op tkM hr (by decide) (da_cons (d_var (nv 0)) da_nil) (consA_len nilA_len)))) (ds_one (ds_raise tkM F.ex_BadOp)) ds_nil)
  (ds_cons (ds_if (DW.pt (dw_or (dt_not (dt_val (d_isa (oa := (.n 1)) isa_tuple rfl F.fr_isinstance rfl F.fr_tuple (by decide +kernel) (nv 1)))) (dw_or (dt_cmp (oa := (.e (opd1 (.n 1) (lift1 lenD)))) (ob := (.e (opd1 (.n 0) (lift1 (getGD g_TAKES))))) (o_ne hu) (oE (d_call1 (oa := (.n 1)) c_len rfl F.fr_len (by decide +kernel) (nv 1))) (oE (d_getG (ob := (.n 0)) F.tb_TAKES (by first | exact .inl rfl | decide | exact rfl | (intro _ _; rfl) | (intros; rfl)) (nv 0))) (nomark _)) (dw_or1 (dt_not (dt_val (d_call1 (oa := (.e (lcD (itD (vD 1)) (gN 2) yesT (callD fx_is_word (consA (vD 2) nilA)) [2]))) (c_all rfl) rfl F.fr_all (by decide +kernel) (oE (d_lc (own := [("word", 2)]) (ws := [2]) rfl nd (di_iter (d_var (nv 1))) (blkOk_by (N := ["op", "words", "word"]) (sc := defScope st_computed) (own := [("word", 2)]) (by decide +kernel)) (fun _ _ _ _ _ => (dg_name (i := 2) nd rfl (by first | exact .inl rfl | exact .inr rfl))) (fun _ _ _ _ _ => dts_nil) (fun _ _ _ _ _ => (d_callH h_is_word tk0 hr (by decide) (da_cons (d_var (nv 2)) da_nil) (consA_len nilA_len))) (by decide)))))))))) (ds_one (ds_raise tkM F.ex_BadWords)) ds_nil)
  (ds_one (ds_ret (d_callH h_result tkM hr (by decide) (da_cons (d_var (nv 0)) (da_cons (d_var (nv 1)) da_nil)) (consA_len (consA_len nilA_len)))))))) fun ds dr h _ => by unfold fx_computed fxOf; exact (if_pos h).symm
/-! ### _law_begun -/
def b__law_begun_1 : M Bool :=
  (opdT (.e (opd1 (.n 2) (lift1 absD))) (.e (opd2 (.e (cD (.int 10))) (.e (cD (.int 18))) (lift2 powD))) geD)
def b__law_begun_2 : M Sl :=
  (opd2 (.e (opd1 (.n 2) (lift1 absD))) (.e (opd2 (.e (cD (.int 10))) (.e (cD (.int 18))) (lift2 powD))) (lift2 subD))
def b__law_begun_3 : M Sl :=
  (opd2 (.e (opd1 (.e (opd1 (.n 2) (lift1 absD))) (lift1 toIntD))) (.e (cD (.int 2147483629))) (lift2 modD))
def m__law_begun : M Fl :=
  (seqS (setS 1 (lcD (itD (vD 0)) (gN 2) b__law_begun_1 b__law_begun_2 [2]))
  (retS (mkDrD 1 "wide" (lcD (itD (vD 0)) (gN 2) yesT b__law_begun_3 [2]))))
def fx__law_begun : FD := fxOf 1 2 m__law_begun
theorem fk__law_begun {f : Addr} {fd : FuncData} (F : Fc K w mg)   (Fd : FnP K "_law_begun" st__law_begun f fd) : FnOkG P w K mg base (L2.CX P w) 1 f fd ["script"] (spD K 1 fx__law_begun) :=
  fn_D Fd sc__law_begun rfl (fun cdv A outer s H E hr => by
    have hu := hr.units
    have hu1 := hr.units1
    have nd := sc__law_begun.nd
    have tkM : Takes (cxOf (L2.CX P w) P w K mg base ["script", "wide", "grain"] "_law_begun" (defScope st__law_begun) f cdv A outer s H E) (fun c d _ H => E c d H) := takes_of rfl rfl rfl rfl
    have hp := passes_of (X := (cxOf (L2.CX P w) P w K mg base ["script", "wide", "grain"] "_law_begun" (defScope st__law_begun) f cdv A outer s H E)) rfl
    exact (ds_cons (ds_setLc (i := 1) (own := [("grain", 2)]) (ws := [2]) rfl nd rfl rfl (sw_true rfl rfl rfl (by decide +kernel)) (di_iter (d_var (nv 0))) (blkOk_by (N := ["script", "wide", "grain"]) (sc := defScope st__law_begun) (own := [("grain", 2)]) (by decide +kernel)) (fun _ _ _ _ _ => (dg_name (i := 2) nd rfl (by first | exact .inl rfl | exact .inr rfl))) (fun _ _ _ _ _ => (dts_one (dt_cmp (oa := (.e (opd1 (.n 2) (lift1 absD)))) (ob := (.e (opd2 (.e (cD (.int 10))) (.e (cD (.int 18))) (lift2 powD)))) o_ge (oE (d_call1 (oa := (.n 2)) c_abs rfl F.fr_abs (by decide +kernel) (nv 2))) (oE (d_op (oa := (.e (cD (.int 10)))) (ob := (.e (cD (.int 18)))) o_pow (oE d_int) (oE d_int))) (nomark _)))) (fun _ _ _ _ _ => (d_op (oa := (.e (opd1 (.n 2) (lift1 absD)))) (ob := (.e (opd2 (.e (cD (.int 10))) (.e (cD (.int 18))) (lift2 powD)))) o_sub (oE (d_call1 (oa := (.n 2)) c_abs rfl F.fr_abs (by decide +kernel) (nv 2))) (oE (d_op (oa := (.e (cD (.int 10)))) (ob := (.e (cD (.int 18)))) o_pow (oE d_int) (oE d_int))))) (by decide))
  (ds_one (ds_ret (d_mkDr (nv 1) (d_lc (own := [("grain", 2)]) (ws := [2]) rfl nd (di_iter (d_var (nv 0))) (blkOk_by (N := ["script", "wide", "grain"]) (sc := defScope st__law_begun) (own := [("grain", 2)]) (by decide +kernel)) (fun _ _ _ _ _ => (dg_name (i := 2) nd rfl (by first | exact .inl rfl | exact .inr rfl))) (fun _ _ _ _ _ => dts_nil) (fun _ _ _ _ _ => (d_op (oa := (.e (opd1 (.e (opd1 (.n 2) (lift1 absD))) (lift1 toIntD)))) (ob := (.e (cD (.int 2147483629)))) o_mod (oE (d_callT1 (oa := (.e (opd1 (.n 2) (lift1 absD)))) c_int rfl F.fr_int (by decide +kernel) (oE (d_call1 (oa := (.n 2)) c_abs rfl F.fr_abs (by decide +kernel) (nv 2))))) (oE d_int))) (by decide))))))) fun ds dr h _ => by unfold fx__law_begun fxOf; exact (if_pos h).symm
/-! ### _law_mixed -/
def b__law_mixed_1 : M Fl :=
  (setS 4 (opd2 (.e (opd1 (.e (opd2 (.e (opd2 (.e (opd2 (.n 4) (.e (cD (.int 69621))) (lift2 mulD))) (.n 5) (lift2 addD))) (.n 2) (lift2 addD))) (lift1 toIntD))) (.n 1) (lift2 modD)))
def b__law_mixed_2 : M Fl :=
  (seqS (setS 4 (opd2 (.e (opd2 (.e (cD (.int 48271))) (.n 2) (lift2 mulD))) (.e (opd2 (.n 1) (.e (cD (.int 37))) (lift2 fdivD))) (lift2 addD)))
  (seqS (forM (itD (drCells 0)) (gN 5) b__law_mixed_1)
  (setS 3 (opd2 (.e (opd2 (.n 3) (.e (cD (.int 2147483647))) (lift2 mulD))) (.e (opd2 (.e (opd1 (.e (opd2 (.n 4) (.e (cD (.int 5))) (lift2 powD))) (lift1 toIntD))) (.n 1) (lift2 modD))) (lift2 addD)))))
def m__law_mixed : M Fl :=
  (seqS (parS 2 3 (opd2 (.e (drTurn 0)) (.e (cD (.int 1))) (lift2 addD)) (cD (.int 0)))
  (seqS (drPutS 0 (fun r n => { r with turn := n }) (vD 2))
  (seqS (forM (itD (lstD (consA (cD (.int 2147483647)) (consA (cD (.int 2147483629)) (consA (cD (.int 2147483587)) (consA (cD (.int 2147483579)) nilA)))))) (gN 1) b__law_mixed_2)
  (retS (vD 3)))))
def fx__law_mixed : FD := fxOf 1 5 m__law_mixed
theorem fk__law_mixed {f : Addr} {fd : FuncData} (F : Fc K w mg)   (Fd : FnP K "_law_mixed" st__law_mixed f fd) : FnOkG P w K mg base (L2.CX P w) 1 f fd ["draw"] (spD K 1 fx__law_mixed) :=
  fn_D Fd sc__law_mixed rfl (fun cdv A outer s H E hr => by
    have hu := hr.units
    have hu1 := hr.units1
    have nd := sc__law_mixed.nd
    have tkM : Takes (cxOf (L2.CX P w) P w K mg base ["draw", "prime", "turn", "found", "blend", "grain"] "_law_mixed" (defScope st__law_mixed) f cdv A outer s H E) (fun c d _ H => E c d H) := takes_of rfl rfl rfl rfl
    have hp := passes_of (X := (cxOf (L2.CX P w) P w K mg base ["draw", "prime", "turn", "found", "blend", "grain"] "_law_mixed" (defScope st__law_mixed) f cdv A outer s H E)) rfl
    exact (ds_cons (ds_par (i := 2) (j := 3) rfl nd rfl rfl (by decide) rfl rfl (d_op (oa := (.e (drTurn 0))) (ob := (.e (cD (.int 1)))) o_add (oE (d_drTurn hu1 (nv 0))) (oE d_int)) d_int (by rfl))
  (ds_cons (ds_drTurn hu1 (nv 0) (d_var (nv 2)))
  (ds_cons (ds_for (vs := [1]) hp rfl (di_iter (d_lst (da_cons d_int (da_cons d_int (da_cons d_int (da_cons d_int da_nil)))))) (dg_name (i := 1) nd rfl (by first | exact .inl rfl | exact .inr rfl)) (ds_cons (ds_set (i := 4) nd rfl (by first | exact .inl rfl | exact .inr rfl) (d_op (oa := (.e (opd2 (.e (cD (.int 48271))) (.n 2) (lift2 mulD)))) (ob := (.e (opd2 (.n 1) (.e (cD (.int 37))) (lift2 fdivD)))) o_add (oE (d_op (oa := (.e (cD (.int 48271)))) (ob := (.n 2)) o_mul (oE d_int) (nv 2))) (oE (d_op (oa := (.n 1)) (ob := (.e (cD (.int 37)))) o_fdiv (nv 1) (oE d_int)))))
  (ds_cons (ds_for (vs := [5]) hp rfl (di_iter (d_drCells hu1 (nv 0))) (dg_name (i := 5) nd rfl (by first | exact .inl rfl | exact .inr rfl)) (ds_one (ds_set (i := 4) nd rfl (by first | exact .inl rfl | exact .inr rfl) (d_op (oa := (.e (opd1 (.e (opd2 (.e (opd2 (.e (opd2 (.n 4) (.e (cD (.int 69621))) (lift2 mulD))) (.n 5) (lift2 addD))) (.n 2) (lift2 addD))) (lift1 toIntD)))) (ob := (.n 1)) o_mod (oE (d_callT1 (oa := (.e (opd2 (.e (opd2 (.e (opd2 (.n 4) (.e (cD (.int 69621))) (lift2 mulD))) (.n 5) (lift2 addD))) (.n 2) (lift2 addD)))) c_int rfl F.fr_int (by decide +kernel) (oE (d_op (oa := (.e (opd2 (.e (opd2 (.n 4) (.e (cD (.int 69621))) (lift2 mulD))) (.n 5) (lift2 addD)))) (ob := (.n 2)) o_add (oE (d_op (oa := (.e (opd2 (.n 4) (.e (cD (.int 69621))) (lift2 mulD)))) (ob := (.n 5)) o_add (oE (d_op (oa := (.n 4)) (ob := (.e (cD (.int 69621)))) o_mul (nv 4) (oE d_int))) (nv 5))) (nv 2))))) (nv 1)))))
  (ds_one (ds_set (i := 3) nd rfl (by first | exact .inl rfl | exact .inr rfl) (d_op (oa := (.e (opd2 (.n 3) (.e (cD (.int 2147483647))) (lift2 mulD)))) (ob := (.e (opd2 (.e (opd1 (.e (opd2 (.n 4) (.e (cD (.int 5))) (lift2 powD))) (lift1 toIntD))) (.n 1) (lift2 modD)))) o_add (oE (d_op (oa := (.n 3)) (ob := (.e (cD (.int 2147483647)))) o_mul (nv 3) (oE d_int))) (oE (d_op (oa := (.e (opd1 (.e (opd2 (.n 4) (.e (cD (.int 5))) (lift2 powD))) (lift1 toIntD)))) (ob := (.n 1)) o_mod (oE (d_callT1 (oa := (.e (opd2 (.n 4) (.e (cD (.int 5))) (lift2 powD)))) c_int rfl F.fr_int (by decide +kernel) (oE (d_op (oa := (.n 4)) (ob := (.e (cD (.int 5)))) o_pow (nv 4) (oE d_int))))) (nv 1)))))))))
  (ds_one (ds_ret (d_var (nv 3)))))))) fun ds dr h _ => by unfold fx__law_mixed fxOf; exact (if_pos h).symm
/-! ### _law_take -/
def m__law_take : M Fl :=
  (seqS (ifS (opdT (.e (drRest 0)) (.e (cD (.int 0))) eqD) (drPutS 0 (fun r n => { r with rest := n }) (ifD (ofD (drMore 0 "wide")) (drPop 0 "wide") (callD fx__law_mixed (consA (vD 0) nilA)))) nxS)
  (seqS (setS 2 (opd2 (.e (opd1 (.e (drRest 0)) (lift1 toIntD))) (.n 1) (lift2 modD)))
  (seqS (drPutS 0 (fun r n => { r with rest := n }) (opd2 (.e (drRest 0)) (.n 1) (lift2 fdivD)))
  (retS (vD 2)))))
def fx__law_take : FD := fxOf 2 1 m__law_take
theorem fk__law_take {f : Addr} {fd : FuncData} (F : Fc K w mg) (h__law_mixed : Has P w K mg base "_law_mixed" 1 1 fx__law_mixed)  (Fd : FnP K "_law_take" st__law_take f fd) : FnOkG P w K mg base (L2.CX P w) 2 f fd ["draw", "many"] (spD K 2 fx__law_take) :=
  fn_D Fd sc__law_take rfl (fun cdv A outer s H E hr => by
    have hu := hr.units
    have hu1 := hr.units1
    have nd := sc__law_take.nd
    have tkM : Takes (cxOf (L2.CX P w) P w K mg base ["draw", "many", "found"] "_law_take" (defScope st__law_take) f cdv A outer s H E) (fun c d _ H => E c d H) := takes_of rfl rfl rfl rfl
    have hp := passes_of (X := (cxOf (L2.CX P w) P w K mg base ["draw", "many", "found"] "_law_take" (defScope st__law_take) f cdv A outer s H E)) rfl
    exact (ds_cons (ds_if (dt_cmp (oa := (.e (drRest 0))) (ob := (.e (cD (.int 0)))) (o_eq hu) (oE (d_drRest hu1 (nv 0))) (oE d_int) (nomark _)) (ds_one (ds_drRest hu1 (nv 0) (d_if (dt_drMore hu1 hu (nv 0)) (d_drPop hu1 (nv 0)) (d_callH h__law_mixed tkM hr (by decide) (da_cons (d_var (nv 0)) da_nil) (consA_len nilA_len))))) ds_nil)
  (ds_cons (ds_set (i := 2) nd rfl (by first | exact .inl rfl | exact .inr rfl) (d_op (oa := (.e (opd1 (.e (drRest 0)) (lift1 toIntD)))) (ob := (.n 1)) o_mod (oE (d_callT1 (oa := (.e (drRest 0))) c_int rfl F.fr_int (by decide +kernel) (oE (d_drRest hu1 (nv 0))))) (nv 1)))
  (ds_cons (ds_drRest hu1 (nv 0) (d_op (oa := (.e (drRest 0))) (ob := (.n 1)) o_fdiv (oE (d_drRest hu1 (nv 0))) (nv 1)))
  (ds_one (ds_ret (d_var (nv 2)))))))) fun ds dr h _ => by unfold fx__law_take fxOf; exact (if_pos h).symm
/-! ### _law_pick -/
def m__law_pick : M Fl :=
  (retS (opd2 (.n 1) (.e (callD fx__law_take (consA (vD 0) (consA (opd1 (.n 1) (lift1 lenD)) nilA)))) (lift2 ixD)))
def fx__law_pick : FD := fxOf 2 0 m__law_pick
theorem fk__law_pick {f : Addr} {fd : FuncData} (F : Fc K w mg) (h__law_take : Has P w K mg base "_law_take" 2 2 fx__law_take)  (Fd : FnP K "_law_pick" st__law_pick f fd) : FnOkG P w K mg base (L2.CX P w) 3 f fd ["draw", "some"] (spD K 2 fx__law_pick) :=
  fn_D Fd sc__law_pick rfl (fun cdv A outer s H E hr => by
    have hu := hr.units
    have hu1 := hr.units1
    have nd := sc__law_pick.nd
    have tkM : Takes (cxOf (L2.CX P w) P w K mg base ["draw", "some"] "_law_pick" (defScope st__law_pick) f cdv A outer s H E) (fun c d _ H => E c d H) := takes_of rfl rfl rfl rfl
    have hp := passes_of (X := (cxOf (L2.CX P w) P w K mg base ["draw", "some"] "_law_pick" (defScope st__law_pick) f cdv A outer s H E)) rfl
    exact (ds_one (ds_ret (d_ix (oa := (.n 1)) (ob := (.e (callD fx__law_take (consA (vD 0) (consA (opd1 (.n 1) (lift1 lenD)) nilA))))) i_ix (by first | exact .inl rfl | decide | exact rfl | (intro _ _; rfl) | (intros; rfl)) (nv 1) (oE (d_callH h__law_take tkM hr (by decide) (da_cons (d_var (nv 0)) (da_cons (d_call1 (oa := (.n 1)) c_len rfl F.fr_len (by decide +kernel) (nv 1)) da_nil)) (consA_len (consA_len nilA_len)))))))) fun ds dr h _ => by unfold fx__law_pick fxOf; exact (if_pos h).symm
/-! ### _law_shuffled -/
def b__law_shuffled_1 : M Fl :=
  (exprS (appD 3 (popD 2 (callD fx__law_take (consA (vD 0) (consA (opd1 (.n 2) (lift1 lenD)) nilA))))))
def m__law_shuffled : M Fl :=
  (seqS (parS 2 3 (opd1 (.n 1) (lift1 listD)) (lstD nilA))
  (seqS (whileF (opdT (.n 2) (.e (lstD nilA)) neD) b__law_shuffled_1 FU)
  (retS (vD 3))))
def fx__law_shuffled : FD := fxOf 2 2 m__law_shuffled
theorem fk__law_shuffled {f : Addr} {fd : FuncData} (F : Fc K w mg) (h__law_take : Has P w K mg base "_law_take" 2 2 fx__law_take)  (Fd : FnP K "_law_shuffled" st__law_shuffled f fd) : FnOkG P w K mg base (L2.CX P w) 3 f fd ["draw", "some"] (spD K 2 fx__law_shuffled) :=
  fn_D Fd sc__law_shuffled rfl (fun cdv A outer s H E hr => by
    have hu := hr.units
    have hu1 := hr.units1
    have nd := sc__law_shuffled.nd
    have tkM : Takes (cxOf (L2.CX P w) P w K mg base ["draw", "some", "remain", "found"] "_law_shuffled" (defScope st__law_shuffled) f cdv A outer s H E) (fun c d _ H => E c d H) := takes_of rfl rfl rfl rfl
    have hp := passes_of (X := (cxOf (L2.CX P w) P w K mg base ["draw", "some", "remain", "found"] "_law_shuffled" (defScope st__law_shuffled) f cdv A outer s H E)) rfl
    exact (ds_cons (ds_par (i := 2) (j := 3) rfl nd rfl rfl (by decide) rfl rfl (d_callT1 (oa := (.n 1)) c_list rfl F.fr_list (by decide +kernel) (nv 1)) (d_lst da_nil) (by rfl))
  (ds_cons (ds_while FU hp (dt_cmp (oa := (.n 2)) (ob := (.e (lstD nilA))) (o_ne hu) (nv 2) (oE (d_lst da_nil)) (nomark _)) (ds_one (ds_expr (d_append (nv 3) (d_pop (nv 2) (d_callH h__law_take tkM hr (by decide) (da_cons (d_var (nv 0)) (da_cons (d_call1 (oa := (.n 2)) c_len rfl F.fr_len (by decide +kernel) (nv 2)) da_nil)) (consA_len (consA_len nilA_len))))))))
  (ds_one (ds_ret (d_var (nv 3))))))) fun ds dr h _ => by unfold fx__law_shuffled fxOf; exact (if_pos h).symm
/-! ### _law_kept -/
def m__law_kept : M Fl :=
  (seqS (setS 0 (lstD (consA (cD (.str "add")) (consA (cD (.str "base")) (consA (cD (.str "block")) (consA (cD (.str "cannot")) (consA (cD (.str "copy")) (consA (cD (.str "done")) (consA (cD (.str "end")) (consA (cD (.str "goto")) (consA (cD (.str "if")) (consA (cD (.str "less")) (consA (cD (.str "mul")) (consA (cD (.str "none")) (consA (cD (.str "nothing")) (consA (cD (.str "num")) nilA))))))))))))))))
  (retS (opd2 (.n 0) (.e (lstD (consA (cD (.str "param")) (consA (cD (.str "program")) (consA (cD (.str "same")) (consA (cD (.str "set")) (consA (cD (.str "show")) (consA (cD (.str "stop")) (consA (cD (.str "sub")) (consA (cD (.str "what")) nilA)))))))))) (lift2 addD))))
def fx__law_kept : FD := fxOf 0 1 m__law_kept
theorem fk__law_kept {f : Addr} {fd : FuncData} (F : Fc K w mg)   (Fd : FnP K "_law_kept" st__law_kept f fd) : FnOkG P w K mg base (L2.CX P w) 1 f fd [] (spD K 0 fx__law_kept) :=
  fn_D Fd sc__law_kept rfl (fun cdv A outer s H E hr => by
    have hu := hr.units
    have hu1 := hr.units1
    have nd := sc__law_kept.nd
    have tkM : Takes (cxOf (L2.CX P w) P w K mg base ["found"] "_law_kept" (defScope st__law_kept) f cdv A outer s H E) (fun c d _ H => E c d H) := takes_of rfl rfl rfl rfl
    have hp := passes_of (X := (cxOf (L2.CX P w) P w K mg base ["found"] "_law_kept" (defScope st__law_kept) f cdv A outer s H E)) rfl
    exact (ds_cons (ds_set (i := 0) nd rfl (by first | exact .inl rfl | exact .inr rfl) (d_lst (da_cons d_str (da_cons d_str (da_cons d_str (da_cons d_str (da_cons d_str (da_cons d_str (da_cons d_str (da_cons d_str (da_cons d_str (da_cons d_str (da_cons d_str (da_cons d_str (da_cons d_str (da_cons d_str da_nil))))))))))))))))
  (ds_one (ds_ret (d_op (oa := (.n 0)) (ob := (.e (lstD (consA (cD (.str "param")) (consA (cD (.str "program")) (consA (cD (.str "same")) (consA (cD (.str "set")) (consA (cD (.str "show")) (consA (cD (.str "stop")) (consA (cD (.str "sub")) (consA (cD (.str "what")) nilA))))))))))) o_add (nv 0) (oE (d_lst (da_cons d_str (da_cons d_str (da_cons d_str (da_cons d_str (da_cons d_str (da_cons d_str (da_cons d_str (da_cons d_str da_nil))))))))))))))) fun ds dr h _ => by unfold fx__law_kept fxOf; exact (if_pos h).symm
/-! ### _law_names -/
def b__law_names_1 : M Sl :=
  (callD fx__law_pick (consA (vD 0) (consA (vD 4) nilA)))
def b__law_names_2 : M Fl :=
  (seqS (setS 5 (opd2 (.e (opd2 (.e (opd2 (.e (cD (.str ""))) (.e (lcD (rng1D (callD fx__law_take (consA (vD 0) (consA (cD (.int 7)) nilA)))) (gN 7) yesT b__law_names_1 [7])) (lift2 joinD))) (.e (cD (.str "z"))) (lift2 addD))) (.e (opd2 (.n 4) (.n 2) (lift2 ixD))) (lift2 addD)))
  (seqS (setS 6 (callD fx__law_pick (consA (vD 0) (consA (lstD (consA (cD (.str "x")) (consA (cD (.str "y")) (consA (cD (.str "a")) (consA (cD (.str "b")) (consA (cD (.str "entry")) (consA (cD (.str "loop")) (consA (cD (.str "head")) (consA (cD (.str "cell")) (consA (cD (.str "run")) (consA (cD (.str "node")) (consA (cD (.str "shows")) (consA (cD (.str "sets")) (consA (cD (.str "branch")) (consA (cD (.str "words")) nilA))))))))))))))) nilA))))
  (exprS (appD 3 (ifD (andT (opdT (.e (callD fx__law_take (consA (vD 0) (consA (cD (.int 4)) nilA)))) (.e (cD (.int 0))) eqD) (opdT (.n 6) (.n 3) notInD)) (vD 6) (vD 5))))))
def m__law_names : M Fl :=
  (seqS (parS 3 4 (lstD nilA) (cD (.str "abcdefghijklmnopqrstuvwxyz")))
  (seqS (forM (rng1D (vD 1)) (gN 2) b__law_names_2)
  (retS (callD fx__law_shuffled (consA (vD 0) (consA (vD 3) nilA))))))
def fx__law_names : FD := fxOf 2 6 m__law_names
theorem fk__law_names {f : Addr} {fd : FuncData} (F : Fc K w mg) (h__law_take : Has P w K mg base "_law_take" 2 2 fx__law_take) (h__law_pick : Has P w K mg base "_law_pick" 2 3 fx__law_pick) (h__law_shuffled : Has P w K mg base "_law_shuffled" 2 3 fx__law_shuffled)  (Fd : FnP K "_law_names" st__law_names f fd) : FnOkG P w K mg base (L2.CX P w) 4 f fd ["draw", "many"] (spD K 2 fx__law_names) :=
  fn_D Fd sc__law_names rfl (fun cdv A outer s H E hr => by
    have hu := hr.units
    have hu1 := hr.units1
    have nd := sc__law_names.nd
    have tkM : Takes (cxOf (L2.CX P w) P w K mg base ["draw", "many", "k", "found", "signs", "word", "other", "turn"] "_law_names" (defScope st__law_names) f cdv A outer s H E) (fun c d _ H => E c d H) := takes_of rfl rfl rfl rfl
    have hp := passes_of (X := (cxOf (L2.CX P w) P w K mg base ["draw", "many", "k", "found", "signs", "word", "other", "turn"] "_law_names" (defScope st__law_names) f cdv A outer s H E)) rfl
    exact (ds_cons (ds_parC (i := 3) (j := 4) rfl nd rfl rfl (by first | exact .inl rfl | exact .inr rfl) (by first | exact .inl rfl | exact .inr rfl) (d_lst da_nil) d_str (by rfl))
  (ds_cons (ds_for (vs := [2]) hp rfl (di_range1 rfl F.fr_range (d_var (nv 1))) (dg_name (i := 2) nd rfl (by first | exact .inl rfl | exact .inr rfl)) (ds_cons (ds_set (i := 5) nd rfl (by first | exact .inl rfl | exact .inr rfl) (d_op (oa := (.e (opd2 (.e (opd2 (.e (cD (.str ""))) (.e (lcD (rng1D (callD fx__law_take (consA (vD 0) (consA (cD (.int 7)) nilA)))) (gN 7) yesT b__law_names_1 [7])) (lift2 joinD))) (.e (cD (.str "z"))) (lift2 addD)))) (ob := (.e (opd2 (.n 4) (.n 2) (lift2 ixD)))) o_add (oE (d_op (oa := (.e (opd2 (.e (cD (.str ""))) (.e (lcD (rng1D (callD fx__law_take (consA (vD 0) (consA (cD (.int 7)) nilA)))) (gN 7) yesT b__law_names_1 [7])) (lift2 joinD)))) (ob := (.e (cD (.str "z")))) o_add (oE (d_join (ob := (.e (lcD (rng1D (callD fx__law_take (consA (vD 0) (consA (cD (.int 7)) nilA)))) (gN 7) yesT b__law_names_1 [7]))) d_str (oE (d_lc (own := [("turn", 7)]) (ws := [7]) rfl nd (di_range1 rfl F.fr_range (d_callH h__law_take tkM hr (by decide) (da_cons (d_var (nv 0)) (da_cons d_int da_nil)) (consA_len (consA_len nilA_len)))) (blkOk_by (N := ["draw", "many", "k", "found", "signs", "word", "other", "turn"]) (sc := defScope st__law_names) (own := [("turn", 7)]) (by decide +kernel)) (fun _ _ _ _ _ => (dg_name (i := 7) nd rfl (by first | exact .inl rfl | exact .inr rfl))) (fun _ _ _ _ _ => dts_nil) (fun _ _ _ _ _ => (d_callH h__law_pick tk0 hr (by decide) (da_cons (d_var (nv 0)) (da_cons (d_var (nv 4)) da_nil)) (consA_len (consA_len nilA_len)))) (by decide))) str_const)) (oE d_str))) (oE (d_ix (oa := (.n 4)) (ob := (.n 2)) i_ix (by first | exact .inl rfl | decide | exact rfl | (intro _ _; rfl) | (intros; rfl)) (nv 4) (nv 2)))))
  (ds_cons (ds_set (i := 6) nd rfl (by first | exact .inl rfl | exact .inr rfl) (d_callH h__law_pick tkM hr (by decide) (da_cons (d_var (nv 0)) (da_cons (d_lst (da_cons d_str (da_cons d_str (da_cons d_str (da_cons d_str (da_cons d_str (da_cons d_str (da_cons d_str (da_cons d_str (da_cons d_str (da_cons d_str (da_cons d_str (da_cons d_str (da_cons d_str (da_cons d_str da_nil))))))))))))))) da_nil)) (consA_len (consA_len nilA_len))))
  (ds_one (ds_expr (d_append (nv 3) (d_if (DW.pt (dw_and (dt_cmp (oa := (.e (callD fx__law_take (consA (vD 0) (consA (cD (.int 4)) nilA))))) (ob := (.e (cD (.int 0)))) (o_eq hu) (oE (d_callH h__law_take tkM hr (by decide) (da_cons (d_var (nv 0)) (da_cons d_int da_nil)) (consA_len (consA_len nilA_len)))) (oE d_int) (nomark _)) (dw_and1 (dt_cmp (oa := (.n 6)) (ob := (.n 3)) (o_notIn hu) (nv 6) (nv 3) (by first | exact nobehind _ (by decide) (by decide) | rfl))))) (d_var (nv 6)) (d_var (nv 5)))))))))
  (ds_one (ds_ret (d_callH h__law_shuffled tkM hr (by decide) (da_cons (d_var (nv 0)) (da_cons (d_var (nv 3)) da_nil)) (consA_len (consA_len nilA_len)))))))) fun ds dr h _ => by unfold fx__law_names fxOf; exact (if_pos h).symm
/-! ### _law_is_name -/
def b__law_is_name_1 : M Bool :=
  (opdT (.n 1) (.e (cD (.str "abcdefghijklmnopqrstuvwxyz"))) notInD)
def m__law_is_name : M Fl :=
  (seqS (ifS (notT (ofD (opd1 (.n 0) (lift1 (isaD fun d => d.isStr))))) (retS (cD (.bool false))) nxS)
  (seqS (ifS (orT (opdT (.n 0) (.e (callD fx__law_kept nilA)) inD) (orT (opdT (.e (opd1 (.n 0) (lift1 lenD))) (.e (cD (.int 0))) eqD) (opdT (.e (opd1 (.n 0) (lift1 lenD))) (.e (cD (.int 8))) gtD))) (retS (cD (.bool false))) nxS)
  (retS (opd2 (.e (lcD (itD (vD 0)) (gN 1) b__law_is_name_1 (vD 1) [1])) (.e (lstD nilA)) (lift2 eqD)))))
def fx__law_is_name : FD := fxOf 1 1 m__law_is_name
theorem fk__law_is_name {f : Addr} {fd : FuncData} (F : Fc K w mg) (h__law_kept : Has P w K mg base "_law_kept" 0 1 fx__law_kept)  (Fd : FnP K "_law_is_name" st__law_is_name f fd) : FnOkG P w K mg base (L2.CX P w) 2 f fd ["thing"] (spD K 1 fx__law_is_name) :=
  fn_D Fd sc__law_is_name rfl (fun cdv A outer s H E hr => by
    have hu := hr.units
    have hu1 := hr.units1
    have nd := sc__law_is_name.nd
    have tkM : Takes (cxOf (L2.CX P w) P w K mg base ["thing", "sign"] "_law_is_name" (defScope st__law_is_name) f cdv A outer s H E) (fun c d _ H => E c d H) := takes_of rfl rfl rfl rfl
    have hp := passes_of (X := (cxOf (L2.CX P w) P w K mg base ["thing", "sign"] "_law_is_name" (defScope st__law_is_name) f cdv A outer s H E)) rfl
    exact (ds_cons (ds_if (dt_not (dt_val (d_isa (oa := (.n 0)) isa_str rfl F.fr_isinstance rfl F.fr_str (by decide +kernel) (nv 0)))) (ds_one (ds_ret d_bl)) ds_nil)
  (ds_cons (ds_if (DW.pt (dw_or (dt_cmp (oa := (.n 0)) (ob := (.e (callD fx__law_kept nilA))) (o_in hu) (nv 0) (oE (d_callH0 h__law_kept tkM hr (by decide))) (by first | exact nobehind _ (by decide) (by decide) | rfl)) (dw_or (dt_cmp (oa := (.e (opd1 (.n 0) (lift1 lenD)))) (ob := (.e (cD (.int 0)))) (o_eq hu) (oE (d_call1 (oa := (.n 0)) c_len rfl F.fr_len (by decide +kernel) (nv 0))) (oE d_int) (nomark _)) (dw_or1 (dt_cmp (oa := (.e (opd1 (.n 0) (lift1 lenD)))) (ob := (.e (cD (.int 8)))) o_gt (oE (d_call1 (oa := (.n 0)) c_len rfl F.fr_len (by decide +kernel) (nv 0))) (oE d_int) (nomark _)))))) (ds_one (ds_ret d_bl)) ds_nil)
  (ds_one (ds_ret (d_cmp (oa := (.e (lcD (itD (vD 0)) (gN 1) b__law_is_name_1 (vD 1) [1]))) (ob := (.e (lstD nilA))) (o_eq hu) (oE (d_lc (own := [("sign", 1)]) (ws := [1]) rfl nd (di_iter (d_var (nv 0))) (blkOk_by (N := ["thing", "sign"]) (sc := defScope st__law_is_name) (own := [("sign", 1)]) (by decide +kernel)) (fun _ _ _ _ _ => (dg_name (i := 1) nd rfl (by first | exact .inl rfl | exact .inr rfl))) (fun _ _ _ _ _ => (dts_one (dt_cmp (oa := (.n 1)) (ob := (.e (cD (.str "abcdefghijklmnopqrstuvwxyz")))) (o_notIn hu) (nv 1) (oE d_str) (by first | exact nobehind _ (by decide) (by decide) | rfl)))) (fun _ _ _ _ _ => (d_var (nv 1))) (by decide))) (oE (d_lst da_nil)) (nomark _))))))) fun ds dr h _ => by unfold fx__law_is_name fxOf; exact (if_pos h).symm
/-! ### _law_same -/
def m__law_same : M Fl :=
  (retS (andD (opd2 (.n 0) (.n 1) (lift2 eqD)) (opd2 (.e (opd1 (.n 0) (lift1 reprD))) (.e (opd1 (.n 1) (lift1 reprD))) (lift2 eqD))))
def fx__law_same : FD := fxOf 2 0 m__law_same
theorem fk__law_same {f : Addr} {fd : FuncData} (F : Fc K w mg)   (Fd : FnP K "_law_same" st__law_same f fd) : FnOkG P w K mg base (L2.CX P w) 1 f fd ["told", "due"] (spD K 2 fx__law_same) :=
  fn_D Fd sc__law_same rfl (fun cdv A outer s H E hr => by
    have hu := hr.units
    have hu1 := hr.units1
    have nd := sc__law_same.nd
    have tkM : Takes (cxOf (L2.CX P w) P w K mg base ["told", "due"] "_law_same" (defScope st__law_same) f cdv A outer s H E) (fun c d _ H => E c d H) := takes_of rfl rfl rfl rfl
    have hp := passes_of (X := (cxOf (L2.CX P w) P w K mg base ["told", "due"] "_law_same" (defScope st__law_same) f cdv A outer s H E)) rfl
    exact (ds_one (ds_ret (d_and (d_cmp (oa := (.n 0)) (ob := (.n 1)) (o_eq hu) (nv 0) (nv 1) (nomark _)) (d_one (d_cmp (oa := (.e (opd1 (.n 0) (lift1 reprD)))) (ob := (.e (opd1 (.n 1) (lift1 reprD)))) (o_eq hu) (oE (d_call1 (oa := (.n 0)) (c_repr hr) rfl F.fr_repr (by decide +kernel) (nv 0))) (oE (d_call1 (oa := (.n 1)) (c_repr hr) rfl F.fr_repr (by decide +kernel) (nv 1))) (nomark _))))))) fun ds dr h _ => by unfold fx__law_same fxOf; exact (if_pos h).symm
/-! ### _law_folded -/
def m__law_folded : M Fl :=
  (seqS (setS 1 (opd2 (.e (opd1 (.n 0) (lift1 toIntD))) (.e (cD (.int 4294967296))) (lift2 modD)))
  (retS (ifD (opdT (.n 1) (.e (cD (.int 2147483648))) geD) (opd2 (.n 1) (.e (cD (.int 4294967296))) (lift2 subD)) (vD 1))))
def fx__law_folded : FD := fxOf 1 1 m__law_folded
theorem fk__law_folded {f : Addr} {fd : FuncData} (F : Fc K w mg)   (Fd : FnP K "_law_folded" st__law_folded f fd) : FnOkG P w K mg base (L2.CX P w) 1 f fd ["number"] (spD K 1 fx__law_folded) :=
  fn_D Fd sc__law_folded rfl (fun cdv A outer s H E hr => by
    have hu := hr.units
    have hu1 := hr.units1
    have nd := sc__law_folded.nd
    have tkM : Takes (cxOf (L2.CX P w) P w K mg base ["number", "low"] "_law_folded" (defScope st__law_folded) f cdv A outer s H E) (fun c d _ H => E c d H) := takes_of rfl rfl rfl rfl
    have hp := passes_of (X := (cxOf (L2.CX P w) P w K mg base ["number", "low"] "_law_folded" (defScope st__law_folded) f cdv A outer s H E)) rfl
    exact (ds_cons (ds_set (i := 1) nd rfl (by first | exact .inl rfl | exact .inr rfl) (d_op (oa := (.e (opd1 (.n 0) (lift1 toIntD)))) (ob := (.e (cD (.int 4294967296)))) o_mod (oE (d_callT1 (oa := (.n 0)) c_int rfl F.fr_int (by decide +kernel) (nv 0))) (oE d_int)))
  (ds_one (ds_ret (d_if (dt_cmp (oa := (.n 1)) (ob := (.e (cD (.int 2147483648)))) o_ge (nv 1) (oE d_int) (nomark _)) (d_op (oa := (.n 1)) (ob := (.e (cD (.int 4294967296)))) o_sub (nv 1) (oE d_int)) (d_var (nv 1))))))) fun ds dr h _ => by unfold fx__law_folded fxOf; exact (if_pos h).symm
/-! ### _law_word -/
def m__law_word : M Fl :=
  (seqS (setS 1 (callD fx__law_take (consA (vD 0) (consA (cD (.int 6)) nilA))))
  (seqS (ifS (opdT (.n 1) (.e (cD (.int 3))) ltD) (retS (opd2 (.e (callD fx__law_take (consA (vD 0) (consA (cD (.int 7)) nilA)))) (.e (cD (.int 3))) (lift2 subD))) nxS)
  (seqS (ifS (opdT (.n 1) (.e (cD (.int 3))) eqD) (retS (callD fx__law_pick (consA (vD 0) (consA (lstD (consA (opd2 (.e (cD (.int 0))) (.e (cD (.int 2147483648))) (lift2 subD)) (consA (cD (.int 2147483647)) (consA (opd2 (.e (cD (.int 0))) (.e (cD (.int 2147483647))) (lift2 subD)) (consA (cD (.int 65536)) (consA (cD (.int 65535)) (consA (cD (.int 46341)) (consA (opd2 (.e (cD (.int 0))) (.e (cD (.int 46341))) (lift2 subD)) (consA (cD (.int 1073741824)) (consA (cD (.int 2147483646)) nilA)))))))))) nilA)))) nxS)
  (retS (opd2 (.e (callD fx__law_take (consA (vD 0) (consA (cD (.int 4294967296)) nilA)))) (.e (cD (.int 2147483648))) (lift2 subD))))))
def fx__law_word : FD := fxOf 1 1 m__law_word
theorem fk__law_word {f : Addr} {fd : FuncData} (F : Fc K w mg) (h__law_take : Has P w K mg base "_law_take" 2 2 fx__law_take) (h__law_pick : Has P w K mg base "_law_pick" 2 3 fx__law_pick)  (Fd : FnP K "_law_word" st__law_word f fd) : FnOkG P w K mg base (L2.CX P w) 4 f fd ["draw"] (spD K 1 fx__law_word) :=
  fn_D Fd sc__law_word rfl (fun cdv A outer s H E hr => by
    have hu := hr.units
    have hu1 := hr.units1
    have nd := sc__law_word.nd
    have tkM : Takes (cxOf (L2.CX P w) P w K mg base ["draw", "kind"] "_law_word" (defScope st__law_word) f cdv A outer s H E) (fun c d _ H => E c d H) := takes_of rfl rfl rfl rfl
    have hp := passes_of (X := (cxOf (L2.CX P w) P w K mg base ["draw", "kind"] "_law_word" (defScope st__law_word) f cdv A outer s H E)) rfl
    exact (ds_cons (ds_set (i := 1) nd rfl (by first | exact .inl rfl | exact .inr rfl) (d_callH h__law_take tkM hr (by decide) (da_cons (d_var (nv 0)) (da_cons d_int da_nil)) (consA_len (consA_len nilA_len))))
  (ds_cons (ds_if (dt_cmp (oa := (.n 1)) (ob := (.e (cD (.int 3)))) (o_lt hu) (nv 1) (oE d_int) (nomark _)) (ds_one (ds_ret (d_op (oa := (.e (callD fx__law_take (consA (vD 0) (consA (cD (.int 7)) nilA))))) (ob := (.e (cD (.int 3)))) o_sub (oE (d_callH h__law_take tkM hr (by decide) (da_cons (d_var (nv 0)) (da_cons d_int da_nil)) (consA_len (consA_len nilA_len)))) (oE d_int)))) ds_nil)
  (ds_cons (ds_if (dt_cmp (oa := (.n 1)) (ob := (.e (cD (.int 3)))) (o_eq hu) (nv 1) (oE d_int) (nomark _)) (ds_one (ds_ret (d_callH h__law_pick tkM hr (by decide) (da_cons (d_var (nv 0)) (da_cons (d_lst (da_cons (d_op (oa := (.e (cD (.int 0)))) (ob := (.e (cD (.int 2147483648)))) o_sub (oE d_int) (oE d_int)) (da_cons d_int (da_cons (d_op (oa := (.e (cD (.int 0)))) (ob := (.e (cD (.int 2147483647)))) o_sub (oE d_int) (oE d_int)) (da_cons d_int (da_cons d_int (da_cons d_int (da_cons (d_op (oa := (.e (cD (.int 0)))) (ob := (.e (cD (.int 46341)))) o_sub (oE d_int) (oE d_int)) (da_cons d_int (da_cons d_int da_nil)))))))))) da_nil)) (consA_len (consA_len nilA_len))))) ds_nil)
  (ds_one (ds_ret (d_op (oa := (.e (callD fx__law_take (consA (vD 0) (consA (cD (.int 4294967296)) nilA))))) (ob := (.e (cD (.int 2147483648)))) o_sub (oE (d_callH h__law_take tkM hr (by decide) (da_cons (d_var (nv 0)) (da_cons d_int da_nil)) (consA_len (consA_len nilA_len)))) (oE d_int)))))))) fun ds dr h _ => by unfold fx__law_word fxOf; exact (if_pos h).symm
/-! ### _law_worth -/
def m__law_worth : M Fl :=
  (seqS (ifS (opdT (.n 0) (.e (lstD (consA (cD (.str "num")) (consA (cD (.str "copy")) nilA)))) inD) (retS (opd2 (.n 1) (.e (cD (.int 0))) (lift2 ixD))) nxS)
  (seqS (ifS (opdT (.n 0) (.e (cD (.str "less"))) eqD) (retS (opd1 (.e (opd2 (.e (opd2 (.n 1) (.e (cD (.int 0))) (lift2 ixD))) (.e (opd2 (.n 1) (.e (cD (.int 1))) (lift2 ixD))) (lift2 ltD))) (lift1 toIntD))) nxS)
  (seqS (ifS (opdT (.n 0) (.e (cD (.str "same"))) eqD) (retS (opd1 (.e (opd2 (.e (opd2 (.n 1) (.e (cD (.int 0))) (lift2 ixD))) (.e (opd2 (.n 1) (.e (cD (.int 1))) (lift2 ixD))) (lift2 eqD))) (lift1 toIntD))) nxS)
  (retS (callD fx__law_folded (consA (opd2 (.e (dispD [((cD (.str "add")), (opd2 (.e (opd2 (.n 1) (.e (cD (.int 0))) (lift2 ixD))) (.e (opd2 (.n 1) (.e (cD (.int 1))) (lift2 ixD))) (lift2 addD))), ((cD (.str "sub")), (opd2 (.e (opd2 (.n 1) (.e (cD (.int 0))) (lift2 ixD))) (.e (opd2 (.n 1) (.e (cD (.int 1))) (lift2 ixD))) (lift2 subD))), ((cD (.str "mul")), (opd2 (.e (opd2 (.n 1) (.e (cD (.int 0))) (lift2 ixD))) (.e (opd2 (.n 1) (.e (cD (.int 1))) (lift2 ixD))) (lift2 mulD)))])) (.n 0) (lift2 dgetD)) nilA))))))
def fx__law_worth : FD := fxOf 2 0 m__law_worth
theorem fk__law_worth {f : Addr} {fd : FuncData} (F : Fc K w mg) (h__law_folded : Has P w K mg base "_law_folded" 1 1 fx__law_folded)  (Fd : FnP K "_law_worth" st__law_worth f fd) : FnOkG P w K mg base (L2.CX P w) 2 f fd ["op", "words"] (spD K 2 fx__law_worth) :=
  fn_D Fd sc__law_worth rfl (fun cdv A outer s H E hr => by
    have hu := hr.units
    have hu1 := hr.units1
    have nd := sc__law_worth.nd
    have tkM : Takes (cxOf (L2.CX P w) P w K mg base ["op", "words"] "_law_worth" (defScope st__law_worth) f cdv A outer s H E) (fun c d _ H => E c d H) := takes_of rfl rfl rfl rfl
    have hp := passes_of (X := (cxOf (L2.CX P w) P w K mg base ["op", "words"] "_law_worth" (defScope st__law_worth) f cdv A outer s H E)) rfl
    exact (ds_cons (ds_if (dt_cmp (oa := (.n 0)) (ob := (.e (lstD (consA (cD (.str "num")) (consA (cD (.str "copy")) nilA))))) (o_in hu) (nv 0) (oE (d_lst (da_cons d_str (da_cons d_str da_nil)))) (by first | exact nobehind _ (by decide) (by decide) | rfl)) (ds_one (ds_ret (d_ix (oa := (.n 1)) (ob := (.e (cD (.int 0)))) i_ix (by first | exact .inl rfl | decide | exact rfl | (intro _ _; rfl) | (intros; rfl)) (nv 1) (oE d_int)))) ds_nil)
  (ds_cons (ds_if (dt_cmp (oa := (.n 0)) (ob := (.e (cD (.str "less")))) (o_eq hu) (nv 0) (oE d_str) (nomark _)) (ds_one (ds_ret (d_callT1 (oa := (.e (opd2 (.e (opd2 (.n 1) (.e (cD (.int 0))) (lift2 ixD))) (.e (opd2 (.n 1) (.e (cD (.int 1))) (lift2 ixD))) (lift2 ltD)))) c_int rfl F.fr_int (by decide +kernel) (oE (d_cmp (oa := (.e (opd2 (.n 1) (.e (cD (.int 0))) (lift2 ixD)))) (ob := (.e (opd2 (.n 1) (.e (cD (.int 1))) (lift2 ixD)))) (o_lt hu) (oE (d_ix (oa := (.n 1)) (ob := (.e (cD (.int 0)))) i_ix (by first | exact .inl rfl | decide | exact rfl | (intro _ _; rfl) | (intros; rfl)) (nv 1) (oE d_int))) (oE (d_ix (oa := (.n 1)) (ob := (.e (cD (.int 1)))) i_ix (by first | exact .inl rfl | decide | exact rfl | (intro _ _; rfl) | (intros; rfl)) (nv 1) (oE d_int))) (nomark _)))))) ds_nil)
  (ds_cons (ds_if (dt_cmp (oa := (.n 0)) (ob := (.e (cD (.str "same")))) (o_eq hu) (nv 0) (oE d_str) (nomark _)) (ds_one (ds_ret (d_callT1 (oa := (.e (opd2 (.e (opd2 (.n 1) (.e (cD (.int 0))) (lift2 ixD))) (.e (opd2 (.n 1) (.e (cD (.int 1))) (lift2 ixD))) (lift2 eqD)))) c_int rfl F.fr_int (by decide +kernel) (oE (d_cmp (oa := (.e (opd2 (.n 1) (.e (cD (.int 0))) (lift2 ixD)))) (ob := (.e (opd2 (.n 1) (.e (cD (.int 1))) (lift2 ixD)))) (o_eq hu) (oE (d_ix (oa := (.n 1)) (ob := (.e (cD (.int 0)))) i_ix (by first | exact .inl rfl | decide | exact rfl | (intro _ _; rfl) | (intros; rfl)) (nv 1) (oE d_int))) (oE (d_ix (oa := (.n 1)) (ob := (.e (cD (.int 1)))) i_ix (by first | exact .inl rfl | decide | exact rfl | (intro _ _; rfl) | (intros; rfl)) (nv 1) (oE d_int))) (nomark _)))))) ds_nil)
  (ds_one (ds_ret (d_callH h__law_folded tkM hr (by decide) (da_cons (d_dget (oa := (.e (dispD [((cD (.str "add")), (opd2 (.e (opd2 (.n 1) (.e (cD (.int 0))) (lift2 ixD))) (.e (opd2 (.n 1) (.e (cD (.int 1))) (lift2 ixD))) (lift2 addD))), ((cD (.str "sub")), (opd2 (.e (opd2 (.n 1) (.e (cD (.int 0))) (lift2 ixD))) (.e (opd2 (.n 1) (.e (cD (.int 1))) (lift2 ixD))) (lift2 subD))), ((cD (.str "mul")), (opd2 (.e (opd2 (.n 1) (.e (cD (.int 0))) (lift2 ixD))) (.e (opd2 (.n 1) (.e (cD (.int 1))) (lift2 ixD))) (lift2 mulD)))]))) (ob := (.n 0)) hu1 (oE (d_disp (.cons d_str (d_op (oa := (.e (opd2 (.n 1) (.e (cD (.int 0))) (lift2 ixD)))) (ob := (.e (opd2 (.n 1) (.e (cD (.int 1))) (lift2 ixD)))) o_add (oE (d_ix (oa := (.n 1)) (ob := (.e (cD (.int 0)))) i_ix (by first | exact .inl rfl | decide | exact rfl | (intro _ _; rfl) | (intros; rfl)) (nv 1) (oE d_int))) (oE (d_ix (oa := (.n 1)) (ob := (.e (cD (.int 1)))) i_ix (by first | exact .inl rfl | decide | exact rfl | (intro _ _; rfl) | (intros; rfl)) (nv 1) (oE d_int)))) (.cons d_str (d_op (oa := (.e (opd2 (.n 1) (.e (cD (.int 0))) (lift2 ixD)))) (ob := (.e (opd2 (.n 1) (.e (cD (.int 1))) (lift2 ixD)))) o_sub (oE (d_ix (oa := (.n 1)) (ob := (.e (cD (.int 0)))) i_ix (by first | exact .inl rfl | decide | exact rfl | (intro _ _; rfl) | (intros; rfl)) (nv 1) (oE d_int))) (oE (d_ix (oa := (.n 1)) (ob := (.e (cD (.int 1)))) i_ix (by first | exact .inl rfl | decide | exact rfl | (intro _ _; rfl) | (intros; rfl)) (nv 1) (oE d_int)))) (.cons d_str (d_op (oa := (.e (opd2 (.n 1) (.e (cD (.int 0))) (lift2 ixD)))) (ob := (.e (opd2 (.n 1) (.e (cD (.int 1))) (lift2 ixD)))) o_mul (oE (d_ix (oa := (.n 1)) (ob := (.e (cD (.int 0)))) i_ix (by first | exact .inl rfl | decide | exact rfl | (intro _ _; rfl) | (intros; rfl)) (nv 1) (oE d_int))) (oE (d_ix (oa := (.n 1)) (ob := (.e (cD (.int 1)))) i_ix (by first | exact .inl rfl | decide | exact rfl | (intro _ _; rfl) | (intros; rfl)) (nv 1) (oE d_int)))) .nil))))) (nv 0)) da_nil) (consA_len nilA_len)))))))) fun ds dr h _ => by unfold fx__law_worth fxOf; exact (if_pos h).symm
/-! ### _law_many_args -/
def m__law_many_args : M Fl :=
  (retS (ifD (opdT (.n 0) (.e (lstD (consA (cD (.str "num")) (consA (cD (.str "copy")) nilA)))) inD) (cD (.int 1)) (cD (.int 2))))
def fx__law_many_args : FD := fxOf 1 0 m__law_many_args
theorem fk__law_many_args {f : Addr} {fd : FuncData} (F : Fc K w mg)   (Fd : FnP K "_law_many_args" st__law_many_args f fd) : FnOkG P w K mg base (L2.CX P w) 1 f fd ["op"] (spD K 1 fx__law_many_args) :=
  fn_D Fd sc__law_many_args rfl (fun cdv A outer s H E hr => by
    have hu := hr.units
    have hu1 := hr.units1
    have nd := sc__law_many_args.nd
    have tkM : Takes (cxOf (L2.CX P w) P w K mg base ["op"] "_law_many_args" (defScope st__law_many_args) f cdv A outer s H E) (fun c d _ H => E c d H) := takes_of rfl rfl rfl rfl
    have hp := passes_of (X := (cxOf (L2.CX P w) P w K mg base ["op"] "_law_many_args" (defScope st__law_many_args) f cdv A outer s H E)) rfl
    exact (ds_one (ds_ret (d_if (dt_cmp (oa := (.n 0)) (ob := (.e (lstD (consA (cD (.str "num")) (consA (cD (.str "copy")) nilA))))) (o_in hu) (nv 0) (oE (d_lst (da_cons d_str (da_cons d_str da_nil)))) (by first | exact nobehind _ (by decide) (by decide) | rfl)) d_int d_int)))) fun ds dr h _ => by unfold fx__law_many_args fxOf; exact (if_pos h).symm
/-! ### _law_ops -/
def m__law_ops : M Fl :=
  (retS (lstD (consA (cD (.str "num")) (consA (cD (.str "copy")) (consA (cD (.str "add")) (consA (cD (.str "sub")) (consA (cD (.str "mul")) (consA (cD (.str "less")) (consA (cD (.str "same")) nilA)))))))))
def fx__law_ops : FD := fxOf 0 0 m__law_ops
theorem fk__law_ops {f : Addr} {fd : FuncData} (F : Fc K w mg)   (Fd : FnP K "_law_ops" st__law_ops f fd) : FnOkG P w K mg base (L2.CX P w) 1 f fd [] (spD K 0 fx__law_ops) :=
  fn_D Fd sc__law_ops rfl (fun cdv A outer s H E hr => by
    have hu := hr.units
    have hu1 := hr.units1
    have nd := sc__law_ops.nd
    have tkM : Takes (cxOf (L2.CX P w) P w K mg base [] "_law_ops" (defScope st__law_ops) f cdv A outer s H E) (fun c d _ H => E c d H) := takes_of rfl rfl rfl rfl
    have hp := passes_of (X := (cxOf (L2.CX P w) P w K mg base [] "_law_ops" (defScope st__law_ops) f cdv A outer s H E)) rfl
    exact (ds_one (ds_ret (d_lst (da_cons d_str (da_cons d_str (da_cons d_str (da_cons d_str (da_cons d_str (da_cons d_str (da_cons d_str da_nil))))))))))) fun ds dr h _ => by unfold fx__law_ops fxOf; exact (if_pos h).symm
/-! ### _law_near_word -/
def m__law_near_word : M Fl :=
  (seqS (setS 1 (callD fx__law_pick (consA (vD 0) (consA (lstD (consA (opd2 (.e (callD fx__law_names (consA (vD 0) (consA (cD (.int 1)) nilA)))) (.e (cD (.int 0))) (lift2 ixD)) (consA (opd2 (.e (opd2 (.e (callD fx__law_names (consA (vD 0) (consA (cD (.int 1)) nilA)))) (.e (cD (.int 0))) (lift2 ixD))) (.e (cD (.str "abcdefgh"))) (lift2 addD)) (consA (callD fx__law_pick (consA (vD 0) (consA (callD fx__law_kept nilA) nilA))) nilA)))) nilA))))
  (seqS (parS 3 4 (callD fx__law_take (consA (vD 0) (consA (opd1 (.n 1) (lift1 lenD)) nilA))) (callD fx__law_take (consA (vD 0) (consA (cD (.int 6)) nilA))))
  (seqS (setS 2 (callD fx__law_pick (consA (vD 0) (consA (lstD (consA (callD fx__law_pick (consA (vD 0) (consA (cD (.str "abcdefghijklmnopqrstuvwxyz")) nilA))) (consA (callD fx__law_pick (consA (vD 0) (consA (cD (.str "ABCXYZ09_-. ")) nilA))) nilA))) nilA))))
  (seqS (ifS (opdT (.n 4) (.e (cD (.int 0))) eqD) (retS (opd2 (.e (opd2 (.e (sliceD (.n 1) none (some (vD 3)))) (.n 2) (lift2 addD))) (.e (sliceD (.n 1) (some (opd2 (.n 3) (.e (cD (.int 1))) (lift2 addD))) none)) (lift2 addD))) nxS)
  (seqS (ifS (opdT (.n 4) (.e (cD (.int 1))) eqD) (retS (opd2 (.e (sliceD (.n 1) none (some (vD 3)))) (.e (sliceD (.n 1) (some (opd2 (.n 3) (.e (cD (.int 1))) (lift2 addD))) none)) (lift2 addD))) nxS)
  (seqS (ifS (opdT (.n 4) (.e (cD (.int 2))) eqD) (retS (opd2 (.e (opd2 (.e (sliceD (.n 1) none (some (vD 3)))) (.n 2) (lift2 addD))) (.e (sliceD (.n 1) (some (vD 3)) none)) (lift2 addD))) nxS)
  (retS (opd2 (.e (sliceD (.n 1) none (some (callD fx__law_pick (consA (vD 0) (consA (lstD (consA (cD (.int 8)) (consA (cD (.int 8)) (consA (cD (.int 9)) (consA (cD (.int 16)) nilA))))) nilA)))))) (.e (callD fx__law_pick (consA (vD 0) (consA (lstD (consA (cD (.str "")) (consA (cD (.str "")) (consA (vD 2) nilA)))) nilA)))) (lift2 addD)))))))))
def fx__law_near_word : FD := fxOf 1 4 m__law_near_word
theorem fk__law_near_word {f : Addr} {fd : FuncData} (F : Fc K w mg) (h__law_pick : Has P w K mg base "_law_pick" 2 3 fx__law_pick) (h__law_names : Has P w K mg base "_law_names" 2 4 fx__law_names) (h__law_kept : Has P w K mg base "_law_kept" 0 1 fx__law_kept) (h__law_take : Has P w K mg base "_law_take" 2 2 fx__law_take)  (Fd : FnP K "_law_near_word" st__law_near_word f fd) : FnOkG P w K mg base (L2.CX P w) 5 f fd ["draw"] (spD K 1 fx__law_near_word) :=
  fn_D Fd sc__law_near_word rfl (fun cdv A outer s H E hr => by
    have hu := hr.units
    have hu1 := hr.units1
    have nd := sc__law_near_word.nd
    have tkM : Takes (cxOf (L2.CX P w) P w K mg base ["draw", "word", "sign", "at", "kind"] "_law_near_word" (defScope st__law_near_word) f cdv A outer s H E) (fun c d _ H => E c d H) := takes_of rfl rfl rfl rfl
    have hp := passes_of (X := (cxOf (L2.CX P w) P w K mg base ["draw", "word", "sign", "at", "kind"] "_law_near_word" (defScope st__law_near_word) f cdv A outer s H E)) rfl
    exact (ds_cons (ds_set (i := 1) nd rfl (by first | exact .inl rfl | exact .inr rfl) (d_callH h__law_pick tkM hr (by decide) (da_cons (d_var (nv 0)) (da_cons (d_lst (da_cons (d_ix (oa := (.e (callD fx__law_names (consA (vD 0) (consA (cD (.int 1)) nilA))))) (ob := (.e (cD (.int 0)))) i_ix (by first | exact .inl rfl | decide | exact rfl | (intro _ _; rfl) | (intros; rfl)) (oE (d_callH h__law_names tkM hr (by decide) (da_cons (d_var (nv 0)) (da_cons d_int da_nil)) (consA_len (consA_len nilA_len)))) (oE d_int)) (da_cons (d_op (oa := (.e (opd2 (.e (callD fx__law_names (consA (vD 0) (consA (cD (.int 1)) nilA)))) (.e (cD (.int 0))) (lift2 ixD)))) (ob := (.e (cD (.str "abcdefgh")))) o_add (oE (d_ix (oa := (.e (callD fx__law_names (consA (vD 0) (consA (cD (.int 1)) nilA))))) (ob := (.e (cD (.int 0)))) i_ix (by first | exact .inl rfl | decide | exact rfl | (intro _ _; rfl) | (intros; rfl)) (oE (d_callH h__law_names tkM hr (by decide) (da_cons (d_var (nv 0)) (da_cons d_int da_nil)) (consA_len (consA_len nilA_len)))) (oE d_int))) (oE d_str)) (da_cons (d_callH h__law_pick tkM hr (by decide) (da_cons (d_var (nv 0)) (da_cons (d_callH0 h__law_kept tkM hr (by decide)) da_nil)) (consA_len (consA_len nilA_len))) da_nil)))) da_nil)) (consA_len (consA_len nilA_len))))
  (ds_cons (ds_par (i := 3) (j := 4) rfl nd rfl rfl (by decide) rfl rfl (d_callH h__law_take tkM hr (by decide) (da_cons (d_var (nv 0)) (da_cons (d_call1 (oa := (.n 1)) c_len rfl F.fr_len (by decide +kernel) (nv 1)) da_nil)) (consA_len (consA_len nilA_len))) (d_callH h__law_take tkM hr (by decide) (da_cons (d_var (nv 0)) (da_cons d_int da_nil)) (consA_len (consA_len nilA_len))) (by rfl))
  (ds_cons (ds_set (i := 2) nd rfl (by first | exact .inl rfl | exact .inr rfl) (d_callH h__law_pick tkM hr (by decide) (da_cons (d_var (nv 0)) (da_cons (d_lst (da_cons (d_callH h__law_pick tkM hr (by decide) (da_cons (d_var (nv 0)) (da_cons d_str da_nil)) (consA_len (consA_len nilA_len))) (da_cons (d_callH h__law_pick tkM hr (by decide) (da_cons (d_var (nv 0)) (da_cons d_str da_nil)) (consA_len (consA_len nilA_len))) da_nil))) da_nil)) (consA_len (consA_len nilA_len))))
  (ds_cons (ds_if (dt_cmp (oa := (.n 4)) (ob := (.e (cD (.int 0)))) (o_eq hu) (nv 4) (oE d_int) (nomark _)) (ds_one (ds_ret (d_op (oa := (.e (opd2 (.e (sliceD (.n 1) none (some (vD 3)))) (.n 2) (lift2 addD)))) (ob := (.e (sliceD (.n 1) (some (opd2 (.n 3) (.e (cD (.int 1))) (lift2 addD))) none))) o_add (oE (d_op (oa := (.e (sliceD (.n 1) none (some (vD 3))))) (ob := (.n 2)) o_add (oE (d_slice (oa := (.n 1)) (ml := none) (mh := (some (vD 3))) (nv 1) True.intro (d_var (nv 3)))) (nv 2))) (oE (d_slice (oa := (.n 1)) (ml := (some (opd2 (.n 3) (.e (cD (.int 1))) (lift2 addD)))) (mh := none) (nv 1) (d_op (oa := (.n 3)) (ob := (.e (cD (.int 1)))) o_add (nv 3) (oE d_int)) True.intro))))) ds_nil)
  (ds_cons (ds_if (dt_cmp (oa := (.n 4)) (ob := (.e (cD (.int 1)))) (o_eq hu) (nv 4) (oE d_int) (nomark _)) (ds_one (ds_ret (d_op (oa := (.e (sliceD (.n 1) none (some (vD 3))))) (ob := (.e (sliceD (.n 1) (some (opd2 (.n 3) (.e (cD (.int 1))) (lift2 addD))) none))) o_add (oE (d_slice (oa := (.n 1)) (ml := none) (mh := (some (vD 3))) (nv 1) True.intro (d_var (nv 3)))) (oE (d_slice (oa := (.n 1)) (ml := (some (opd2 (.n 3) (.e (cD (.int 1))) (lift2 addD)))) (mh := none) (nv 1) (d_op (oa := (.n 3)) (ob := (.e (cD (.int 1)))) o_add (nv 3) (oE d_int)) True.intro))))) ds_nil)
  (ds_cons (ds_if (dt_cmp (oa := (.n 4)) (ob := (.e (cD (.int 2)))) (o_eq hu) (nv 4) (oE d_int) (nomark _)) (ds_one (ds_ret (d_op (oa := (.e (opd2 (.e (sliceD (.n 1) none (some (vD 3)))) (.n 2) (lift2 addD)))) (ob := (.e (sliceD (.n 1) (some (vD 3)) none))) o_add (oE (d_op (oa := (.e (sliceD (.n 1) none (some (vD 3))))) (ob := (.n 2)) o_add (oE (d_slice (oa := (.n 1)) (ml := none) (mh := (some (vD 3))) (nv 1) True.intro (d_var (nv 3)))) (nv 2))) (oE (d_slice (oa := (.n 1)) (ml := (some (vD 3))) (mh := none) (nv 1) (d_var (nv 3)) True.intro))))) ds_nil)
  (ds_one (ds_ret (d_op (oa := (.e (sliceD (.n 1) none (some (callD fx__law_pick (consA (vD 0) (consA (lstD (consA (cD (.int 8)) (consA (cD (.int 8)) (consA (cD (.int 9)) (consA (cD (.int 16)) nilA))))) nilA))))))) (ob := (.e (callD fx__law_pick (consA (vD 0) (consA (lstD (consA (cD (.str "")) (consA (cD (.str "")) (consA (vD 2) nilA)))) nilA))))) o_add (oE (d_slice (oa := (.n 1)) (ml := none) (mh := (some (callD fx__law_pick (consA (vD 0) (consA (lstD (consA (cD (.int 8)) (consA (cD (.int 8)) (consA (cD (.int 9)) (consA (cD (.int 16)) nilA))))) nilA))))) (nv 1) True.intro (d_callH h__law_pick tkM hr (by decide) (da_cons (d_var (nv 0)) (da_cons (d_lst (da_cons d_int (da_cons d_int (da_cons d_int (da_cons d_int da_nil))))) da_nil)) (consA_len (consA_len nilA_len))))) (oE (d_callH h__law_pick tkM hr (by decide) (da_cons (d_var (nv 0)) (da_cons (d_lst (da_cons d_str (da_cons d_str (da_cons (d_var (nv 2)) da_nil)))) da_nil)) (consA_len (consA_len nilA_len)))))))))))))) fun ds dr h _ => by unfold fx__law_near_word fxOf; exact (if_pos h).symm
/-! ### _law_number -/
def m__law_number : M Fl :=
  (seqS (setS 1 (callD fx__law_take (consA (vD 0) (consA (cD (.int 4)) nilA))))
  (seqS (ifS (opdT (.n 1) (.e (cD (.int 0))) eqD) (retS (callD fx__law_word (consA (vD 0) nilA))) nxS)
  (seqS (ifS (opdT (.n 1) (.e (cD (.int 1))) eqD) (retS (opd2 (.e (opd2 (.e (opd2 (.e (cD (.int 2147483648))) (.e (opd2 (.e (callD fx__law_take (consA (vD 0) (consA (cD (.int 9)) nilA)))) (.e (cD (.int 4))) (lift2 subD))) (lift2 mulD))) (.e (callD fx__law_take (consA (vD 0) (consA (cD (.int 5)) nilA)))) (lift2 addD))) (.e (cD (.int 2))) (lift2 subD))) nxS)
  (retS (opd2 (.e (opd2 (.e (callD fx__law_take (consA (vD 0) (consA (opd2 (.e (cD (.int 10))) (.e (cD (.int 40))) (lift2 powD)) nilA)))) (.e (cD (.int 1))) (lift2 addD))) (.e (ifD (opdT (.n 1) (.e (cD (.int 2))) eqD) (cD (.int 1)) (opd2 (.e (cD (.int 0))) (.e (cD (.int 1))) (lift2 subD)))) (lift2 mulD))))))
def fx__law_number : FD := fxOf 1 1 m__law_number
theorem fk__law_number {f : Addr} {fd : FuncData} (F : Fc K w mg) (h__law_take : Has P w K mg base "_law_take" 2 2 fx__law_take) (h__law_word : Has P w K mg base "_law_word" 1 4 fx__law_word)  (Fd : FnP K "_law_number" st__law_number f fd) : FnOkG P w K mg base (L2.CX P w) 5 f fd ["draw"] (spD K 1 fx__law_number) :=
  fn_D Fd sc__law_number rfl (fun cdv A outer s H E hr => by
    have hu := hr.units
    have hu1 := hr.units1
    have nd := sc__law_number.nd
    have tkM : Takes (cxOf (L2.CX P w) P w K mg base ["draw", "kind"] "_law_number" (defScope st__law_number) f cdv A outer s H E) (fun c d _ H => E c d H) := takes_of rfl rfl rfl rfl
    have hp := passes_of (X := (cxOf (L2.CX P w) P w K mg base ["draw", "kind"] "_law_number" (defScope st__law_number) f cdv A outer s H E)) rfl
    exact (ds_cons (ds_set (i := 1) nd rfl (by first | exact .inl rfl | exact .inr rfl) (d_callH h__law_take tkM hr (by decide) (da_cons (d_var (nv 0)) (da_cons d_int da_nil)) (consA_len (consA_len nilA_len))))
  (ds_cons (ds_if (dt_cmp (oa := (.n 1)) (ob := (.e (cD (.int 0)))) (o_eq hu) (nv 1) (oE d_int) (nomark _)) (ds_one (ds_ret (d_callH h__law_word tkM hr (by decide) (da_cons (d_var (nv 0)) da_nil) (consA_len nilA_len)))) ds_nil)
  (ds_cons (ds_if (dt_cmp (oa := (.n 1)) (ob := (.e (cD (.int 1)))) (o_eq hu) (nv 1) (oE d_int) (nomark _)) (ds_one (ds_ret (d_op (oa := (.e (opd2 (.e (opd2 (.e (cD (.int 2147483648))) (.e (opd2 (.e (callD fx__law_take (consA (vD 0) (consA (cD (.int 9)) nilA)))) (.e (cD (.int 4))) (lift2 subD))) (lift2 mulD))) (.e (callD fx__law_take (consA (vD 0) (consA (cD (.int 5)) nilA)))) (lift2 addD)))) (ob := (.e (cD (.int 2)))) o_sub (oE (d_op (oa := (.e (opd2 (.e (cD (.int 2147483648))) (.e (opd2 (.e (callD fx__law_take (consA (vD 0) (consA (cD (.int 9)) nilA)))) (.e (cD (.int 4))) (lift2 subD))) (lift2 mulD)))) (ob := (.e (callD fx__law_take (consA (vD 0) (consA (cD (.int 5)) nilA))))) o_add (oE (d_op (oa := (.e (cD (.int 2147483648)))) (ob := (.e (opd2 (.e (callD fx__law_take (consA (vD 0) (consA (cD (.int 9)) nilA)))) (.e (cD (.int 4))) (lift2 subD)))) o_mul (oE d_int) (oE (d_op (oa := (.e (callD fx__law_take (consA (vD 0) (consA (cD (.int 9)) nilA))))) (ob := (.e (cD (.int 4)))) o_sub (oE (d_callH h__law_take tkM hr (by decide) (da_cons (d_var (nv 0)) (da_cons d_int da_nil)) (consA_len (consA_len nilA_len)))) (oE d_int))))) (oE (d_callH h__law_take tkM hr (by decide) (da_cons (d_var (nv 0)) (da_cons d_int da_nil)) (consA_len (consA_len nilA_len)))))) (oE d_int)))) ds_nil)
  (ds_one (ds_ret (d_op (oa := (.e (opd2 (.e (callD fx__law_take (consA (vD 0) (consA (opd2 (.e (cD (.int 10))) (.e (cD (.int 40))) (lift2 powD)) nilA)))) (.e (cD (.int 1))) (lift2 addD)))) (ob := (.e (ifD (opdT (.n 1) (.e (cD (.int 2))) eqD) (cD (.int 1)) (opd2 (.e (cD (.int 0))) (.e (cD (.int 1))) (lift2 subD))))) o_mul (oE (d_op (oa := (.e (callD fx__law_take (consA (vD 0) (consA (opd2 (.e (cD (.int 10))) (.e (cD (.int 40))) (lift2 powD)) nilA))))) (ob := (.e (cD (.int 1)))) o_add (oE (d_callH h__law_take tkM hr (by decide) (da_cons (d_var (nv 0)) (da_cons (d_op (oa := (.e (cD (.int 10)))) (ob := (.e (cD (.int 40)))) o_pow (oE d_int) (oE d_int)) da_nil)) (consA_len (consA_len nilA_len)))) (oE d_int))) (oE (d_if (dt_cmp (oa := (.n 1)) (ob := (.e (cD (.int 2)))) (o_eq hu) (nv 1) (oE d_int) (nomark _)) d_int (d_op (oa := (.e (cD (.int 0)))) (ob := (.e (cD (.int 1)))) o_sub (oE d_int) (oE d_int))))))))))) fun ds dr h _ => by unfold fx__law_number fxOf; exact (if_pos h).symm
/-! ### _law_told -/
def m__law_told (T : LT) : M Fl :=
  (seqS (setS 1 (cD .none))
  (seqS (tryS (exprS (callL T 0)) 3 1 sub_CodeError)
  (seqS (setS 2 (lstD nilA))
  (seqS (ifS (ofD (opd1 (.n 1) (lift1 (isxD subx_BadCount)))) (exprS (appD 2 (cD (.str "BadCount")))) nxS)
  (seqS (ifS (ofD (opd1 (.n 1) (lift1 (isxD subx_BadEnd)))) (exprS (appD 2 (cD (.str "BadEnd")))) nxS)
  (seqS (ifS (ofD (opd1 (.n 1) (lift1 (isxD subx_BadGraph)))) (exprS (appD 2 (cD (.str "BadGraph")))) nxS)
  (seqS (ifS (ofD (opd1 (.n 1) (lift1 (isxD subx_BadInputs)))) (exprS (appD 2 (cD (.str "BadInputs")))) nxS)
  (seqS (ifS (ofD (opd1 (.n 1) (lift1 (isxD subx_BadLabel)))) (exprS (appD 2 (cD (.str "BadLabel")))) nxS)
  (seqS (ifS (ofD (opd1 (.n 1) (lift1 (isxD subx_BadMoment)))) (exprS (appD 2 (cD (.str "BadMoment")))) nxS)
  (seqS (ifS (ofD (opd1 (.n 1) (lift1 (isxD subx_BadNode)))) (exprS (appD 2 (cD (.str "BadNode")))) nxS)
  (seqS (ifS (ofD (opd1 (.n 1) (lift1 (isxD subx_BadNumber)))) (exprS (appD 2 (cD (.str "BadNumber")))) nxS)
  (seqS (ifS (ofD (opd1 (.n 1) (lift1 (isxD subx_BadOp)))) (exprS (appD 2 (cD (.str "BadOp")))) nxS)
  (seqS (ifS (ofD (opd1 (.n 1) (lift1 (isxD subx_BadOther)))) (exprS (appD 2 (cD (.str "BadOther")))) nxS)
  (seqS (ifS (ofD (opd1 (.n 1) (lift1 (isxD subx_BadPlace)))) (exprS (appD 2 (cD (.str "BadPlace")))) nxS)
  (seqS (ifS (ofD (opd1 (.n 1) (lift1 (isxD subx_BadProgram)))) (exprS (appD 2 (cD (.str "BadProgram")))) nxS)
  (seqS (ifS (ofD (opd1 (.n 1) (lift1 (isxD subx_BadStep)))) (exprS (appD 2 (cD (.str "BadStep")))) nxS)
  (seqS (ifS (ofD (opd1 (.n 1) (lift1 (isxD subx_BadWords)))) (exprS (appD 2 (cD (.str "BadWords")))) nxS)
  (retS (ifD (orT (opdT (.n 2) (.e (lstD nilA)) neD) (ofD (opd1 (.n 1) (lift1 isNonD)))) (vD 2) (lstD (consA (cD (.str "CodeError")) nilA)))))))))))))))))))))
def fx__law_told (T : LT) : FD := fxOf 1 3 (m__law_told T)
theorem fk__law_told {f : Addr} {fd : FuncData} (F : Fc K w mg) {T : LT} (th : ThOk P w K mg base 4 T)    (Fd : FnP K "_law_told" st__law_told f fd) : FnOkG P w K mg base (L2.CX P w) 5 f fd ["work"] (spD K 1 (fx__law_told T)) :=
  fn_D Fd sc__law_told rfl (fun cdv A outer s H E hr => by
    have hu := hr.units
    have hu1 := hr.units1
    have nd := sc__law_told.nd
    have tkM : Takes (cxOf (L2.CX P w) P w K mg base ["work", "error", "found", "caught"] "_law_told" (defScope st__law_told) f cdv A outer s H E) (fun c d _ H => E c d H) := takes_of rfl rfl rfl rfl
    have hp := passes_of (X := (cxOf (L2.CX P w) P w K mg base ["work", "error", "found", "caught"] "_law_told" (defScope st__law_told) f cdv A outer s H E)) rfl
    exact (ds_cons (ds_set (i := 1) nd rfl (by first | exact .inl rfl | exact .inr rfl) d_non)
  (ds_cons (ds_try (i := 3) (j := 1) nd rfl rfl rfl rfl ⟨rfl, by decide, .inl F.ex_CodeError.g⟩ tkM F.em_CodeError (fun W pn xe tkM hp => (ds_one (ds_expr (d_callL th tkM hr (by decide) (nv 0))))))
  (ds_cons (ds_set (i := 2) nd rfl (by first | exact .inl rfl | exact .inr rfl) (d_lst da_nil))
  (ds_cons (ds_if (dt_val (d_isX (oa := (.n 1)) F.ix_BadCount rfl F.fr_isinstance rfl F.ex_BadCount.g (nv 1))) (ds_one (ds_expr (d_append (nv 2) d_str))) ds_nil)
  (ds_cons (ds_if (dt_val (d_isX (oa := (.n 1)) F.ix_BadEnd rfl F.fr_isinstance rfl F.ex_BadEnd.g (nv 1))) (ds_one (ds_expr (d_append (nv 2) d_str))) ds_nil)
  (ds_cons (ds_if (dt_val (d_isX (oa := (.n 1)) F.ix_BadGraph rfl F.fr_isinstance rfl F.ex_BadGraph.g (nv 1))) (ds_one (ds_expr (d_append (nv 2) d_str))) ds_nil)
  (ds_cons (ds_if (dt_val (d_isX (oa := (.n 1)) F.ix_BadInputs rfl F.fr_isinstance rfl F.ex_BadInputs.g (nv 1))) (ds_one (ds_expr (d_append (nv 2) d_str))) ds_nil)
  (ds_cons (ds_if (dt_val (d_isX (oa := (.n 1)) F.ix_BadLabel rfl F.fr_isinstance rfl F.ex_BadLabel.g (nv 1))) (ds_one (ds_expr (d_append (nv 2) d_str))) ds_nil)
  (ds_cons (ds_if (dt_val (d_isX (oa := (.n 1)) F.ix_BadMoment rfl F.fr_isinstance rfl F.ex_BadMoment.g (nv 1))) (ds_one (ds_expr (d_append (nv 2) d_str))) ds_nil)
  (ds_cons (ds_if (dt_val (d_isX (oa := (.n 1)) F.ix_BadNode rfl F.fr_isinstance rfl F.ex_BadNode.g (nv 1))) (ds_one (ds_expr (d_append (nv 2) d_str))) ds_nil)
  (ds_cons (ds_if (dt_val (d_isX (oa := (.n 1)) F.ix_BadNumber rfl F.fr_isinstance rfl F.ex_BadNumber.g (nv 1))) (ds_one (ds_expr (d_append (nv 2) d_str))) ds_nil)
  (ds_cons (ds_if (dt_val (d_isX (oa := (.n 1)) F.ix_BadOp rfl F.fr_isinstance rfl F.ex_BadOp.g (nv 1))) (ds_one (ds_expr (d_append (nv 2) d_str))) ds_nil)
  (ds_cons (ds_if (dt_val (d_isX (oa := (.n 1)) F.ix_BadOther rfl F.fr_isinstance rfl F.ex_BadOther.g (nv 1))) (ds_one (ds_expr (d_append (nv 2) d_str))) ds_nil)
  (ds_cons (ds_if (dt_val (d_isX (oa := (.n 1)) F.ix_BadPlace rfl F.fr_isinstance rfl F.ex_BadPlace.g (nv 1))) (ds_one (ds_expr (d_append (nv 2) d_str))) ds_nil)
  (ds_cons (ds_if (dt_val (d_isX (oa := (.n 1)) F.ix_BadProgram rfl F.fr_isinstance rfl F.ex_BadProgram.g (nv 1))) (ds_one (ds_expr (d_append (nv 2) d_str))) ds_nil)
  (ds_cons (ds_if (dt_val (d_isX (oa := (.n 1)) F.ix_BadStep rfl F.fr_isinstance rfl F.ex_BadStep.g (nv 1))) (ds_one (ds_expr (d_append (nv 2) d_str))) ds_nil)
  (ds_cons (ds_if (dt_val (d_isX (oa := (.n 1)) F.ix_BadWords rfl F.fr_isinstance rfl F.ex_BadWords.g (nv 1))) (ds_one (ds_expr (d_append (nv 2) d_str))) ds_nil)
  (ds_one (ds_ret (d_if (DW.pt (dw_or (dt_cmp (oa := (.n 2)) (ob := (.e (lstD nilA))) (o_ne hu) (nv 2) (oE (d_lst da_nil)) (nomark _)) (dw_or1 (dt_isN (oa := (.n 1)) (nv 1))))) (d_var (nv 2)) (d_lst (da_cons d_str da_nil))))))))))))))))))))))) fun ds dr h _ => by unfold fx__law_told fxOf; exact (if_pos h).symm
/-! ### _law_all -/
def b__law_all_1 (T : LT) : M Fl :=
  (setS 1 (opd2 (.n 1) (.e (callD (fx__law_told T) (consA (vD 2) nilA))) (lift2 addD)))
def m__law_all (T : LT) : M Fl :=
  (seqS (setS 1 (lstD nilA))
  (seqS (forM (itD (vD 0)) (gN 2) (b__law_all_1 T))
  (retS (vD 1))))
def fx__law_all (T : LT) : FD := fxOf 1 2 (m__law_all T)
theorem fk__law_all {f : Addr} {fd : FuncData} (F : Fc K w mg) {T : LT} (th : ThOk P w K mg base 4 T)   (h__law_told : Has P w K mg base "_law_told" 1 5 (fx__law_told T)) (Fd : FnP K "_law_all" st__law_all f fd) : FnOkG P w K mg base (L2.CX P w) 6 f fd ["works"] (spD K 1 (fx__law_all T)) :=
  fn_D Fd sc__law_all rfl (fun cdv A outer s H E hr => by
    have hu := hr.units
    have hu1 := hr.units1
    have nd := sc__law_all.nd
    have tkM : Takes (cxOf (L2.CX P w) P w K mg base ["works", "found", "work"] "_law_all" (defScope st__law_all) f cdv A outer s H E) (fun c d _ H => E c d H) := takes_of rfl rfl rfl rfl
    have hp := passes_of (X := (cxOf (L2.CX P w) P w K mg base ["works", "found", "work"] "_law_all" (defScope st__law_all) f cdv A outer s H E)) rfl
    exact (ds_cons (ds_set (i := 1) nd rfl (by first | exact .inl rfl | exact .inr rfl) (d_lst da_nil))
  (ds_cons (ds_for (vs := [2]) hp rfl (di_iter (d_var (nv 0))) (dg_name (i := 2) nd rfl (by first | exact .inl rfl | exact .inr rfl)) (ds_one (ds_set (i := 1) nd rfl (by first | exact .inl rfl | exact .inr rfl) (d_op (oa := (.n 1)) (ob := (.e (callD (fx__law_told T) (consA (vD 2) nilA)))) o_add (nv 1) (oE (d_callH h__law_told tkM hr (by decide) (da_cons (d_var (nv 2)) da_nil) (consA_len nilA_len)))))))
  (ds_one (ds_ret (d_var (nv 1))))))) fun ds dr h _ => by unfold fx__law_all fxOf; exact (if_pos h).symm
/-! ### _law_is_computed -/
def lm_0 : M Sl :=
  (callD fx_computed (consA (vD 4) (consA (vD 3) nilA)))
def lm_1 : M Sl :=
  (callD fx_computed (consA (vD 1) (consA (vD 3) nilA)))
def lm_2 : M Sl :=
  (callD fx_wrap (consA (vD 3) nilA))
def MB__law_is_computed : List (Nat × M Sl) := [(0, lm_0), (1, lm_1), (2, lm_2)]
def b__law_is_computed_1 : M Sl :=
  (callD fx__law_word (consA (vD 0) nilA))
def m__law_is_computed (cells : List (Str × Addr)) : M Fl :=
  (seqS (setS 1 (callD fx__law_pick (consA (vD 0) (consA (callD fx__law_ops nilA) nilA))))
  (seqS (setS 2 (opd1 (.e (lcD (rng1D (callD fx__law_many_args (consA (vD 1) nilA))) (gN 6) yesT b__law_is_computed_1 [6])) (lift1 tupleD)))
  (seqS (ifS (orT (notT (ofD (callD fx__law_same (consA (callD fx_computed (consA (vD 1) (consA (vD 2) nilA))) (consA (callD fx__law_worth (consA (vD 1) (consA (vD 2) nilA))) nilA))))) (notT (ofD (callD fx__law_same (consA (callD fx_computed fun s => ((consA (vD 2) (consA (vD 1) nilA)) s).bind fun ds s => .ok (pick [1, 0] ds) s) (consA (callD fx__law_worth (consA (vD 1) (consA (vD 2) nilA))) nilA)))))) (retS (cD (.bool false))) nxS)
  (seqS (setS 3 (callD fx__law_pick (consA (vD 0) (consA (lstD (consA (opd2 (.n 2) (.e (tupD (consA (cD (.int 0)) nilA))) (lift2 addD)) (consA (sliceD (.n 2) (some (cD (.int 1))) none) (consA (opd1 (.n 2) (lift1 listD)) (consA (cD .none) (consA (opd2 (.e (sliceD (.n 2) (some (cD (.int 1))) none)) (.e (tupD (consA (cD (.bool true)) nilA))) (lift2 addD)) (consA (opd2 (.e (sliceD (.n 2) (some (cD (.int 1))) none)) (.e (tupD (consA (cD (.int 2147483648)) nilA))) (lift2 addD)) (consA (opd2 (.e (sliceD (.n 2) (some (cD (.int 1))) none)) (.e (tupD (consA (cD (.str "0")) nilA))) (lift2 addD)) (consA (cD (.int 5)) (consA (opd2 (.e (sliceD (.n 2) (some (cD (.int 1))) none)) (.e (tupD (consA (cD .none) nilA))) (lift2 addD)) nilA)))))))))) nilA))))
  (seqS (setS 4 (callD fx__law_pick (consA (vD 0) (consA (lstD (consA (cD .none) (consA (cD (.str "")) (consA (cD (.str "Add")) (consA (cD (.str "div")) (consA (cD (.int 0)) (consA (tupD (consA (cD (.str "add")) nilA)) (consA (lstD (consA (cD (.str "add")) nilA)) (consA (cD (.str "nums")) (consA (cD (.str "a")) nilA)))))))))) nilA))))
  (seqS (setS 5 (callDL cells MB__law_is_computed [4, 3, 1] fx__law_all (consA (lstD (consA (lamD 0 cells) (consA (lamD 1 cells) (consA (lamD 2 cells) nilA)))) nilA)))
  (retS (ifD (opdT (.n 3) (.e (cD (.int 5))) neD) (opd2 (.n 5) (.e (lstD (consA (cD (.str "BadOp")) (consA (cD (.str "BadWords")) (consA (cD (.str "BadNumber")) nilA))))) (lift2 eqD)) (opd2 (.e (sliceD (.n 5) none (some (cD (.int 2))))) (.e (lstD (consA (cD (.str "BadOp")) (consA (cD (.str "BadWords")) nilA)))) (lift2 eqD))))))))))
def fx__law_is_computed : FD := fxC 1 6 m__law_is_computed
theorem fk__law_is_computed {fd : FuncData} (F : Fc K w mg) (h__law_pick : Has P w K mg base "_law_pick" 2 3 fx__law_pick) (h__law_ops : Has P w K mg base "_law_ops" 0 1 fx__law_ops) (h__law_many_args : Has P w K mg base "_law_many_args" 1 1 fx__law_many_args) (h__law_word : Has P w K mg base "_law_word" 1 4 fx__law_word) (h__law_same : Has P w K mg base "_law_same" 2 1 fx__law_same) (h_computed : Has P w K mg base "computed" 2 3 fx_computed) (h__law_worth : Has P w K mg base "_law_worth" 2 2 fx__law_worth) (h_wrap : Has P w K mg base "wrap" 1 2 fx_wrap) (hk_computed_words_op : HasK P w K mg base "computed" ["words", "op"] [1, 0] 2 3 fx_computed) (hG__law_all : ∀ (p : Ph) (b : Heap) (T : LT), BLe base b → @ThOk _ p P w K mg b 4 T → @Has _ p P w K mg b "_law_all" 1 6 (fx__law_all T)) (Fd : FnP K "_law_is_computed" st__law_is_computed (He.ga K "_law_is_computed") fd) (TB : LamX.TabB base mg (He.codeOf K ("_law_is_computed", none)) (He.cT K ("_law_is_computed", none)).2) (hmT : ((He.cT K ("_law_is_computed", none)).2, (("_law_is_computed" : Str) ++ ".<locals>.") ++ "<lambda>") ∈ lamTT K) (hmU : ∀ p ∈ lamTT K, p.1 = (He.cT K ("_law_is_computed", none)).2 → p.2 = (("_law_is_computed" : Str) ++ ".<locals>.") ++ "<lambda>") : FnOkG P w K mg base (L2.CX P w) 7 (He.ga K "_law_is_computed") fd ["draw"] (spD K 1 fx__law_is_computed) :=
  fn_DC Fd sc__law_is_computed rfl (fun A outer s H E hr => by
    have hu := hr.units
    have hu1 := hr.units1
    have nd := sc__law_is_computed.nd
    have tkM : Takes (cxOf (L2.CX P w) P w K mg base ["draw", "op", "words", "wrong", "bad", "found", "k"] "_law_is_computed" (defScope st__law_is_computed) (He.ga K "_law_is_computed") (.ref (He.codeOf K ("_law_is_computed", none))) A outer s H E) (fun c d _ H => E c d H) := takes_of rfl rfl rfl rfl
    have hp := passes_of (X := (cxOf (L2.CX P w) P w K mg base ["draw", "op", "words", "wrong", "bad", "found", "k"] "_law_is_computed" (defScope st__law_is_computed) (He.ga K "_law_is_computed") (.ref (He.codeOf K ("_law_is_computed", none))) A outer s H E)) rfl
    have mk : Makes (cxOf (L2.CX P w) P w K mg base ["draw", "op", "words", "wrong", "bad", "found", "k"] "_law_is_computed" (defScope st__law_is_computed) (He.ga K "_law_is_computed") (.ref (He.codeOf K ("_law_is_computed", none))) A outer s H E) 3 MB__law_is_computed := (makes_cons la_0 (lamS_by (sc := defScope st__law_is_computed) (scope := lamA_0.scope) (by decide +kernel)) rfl (fun _ _ _ _ _ => rfl) (fun A1 outer1 s1 H1 E1 f c1 hr => by
      have hu := hr.units
      have hu1 := hr.units1
      have tkM : Takes (lamCx (cxOf (L2.CX P w) P w K mg base ["draw", "op", "words", "wrong", "bad", "found", "k"] "_law_is_computed" (defScope st__law_is_computed) (He.ga K "_law_is_computed") (.ref (He.codeOf K ("_law_is_computed", none))) A outer s H E) A1 outer1 s1 H1 E1 lamA_0.scope f c1) (fun c d _ H => E1 c d H) := takes_of rfl rfl rfl rfl
      exact (d_callH h_computed tkM hr (by decide) (da_cons (d_var (nv 4)) (da_cons (d_var (nv 3)) da_nil)) (consA_len (consA_len nilA_len))))
    (makes_cons la_1 (lamS_by (sc := defScope st__law_is_computed) (scope := lamA_1.scope) (by decide +kernel)) rfl (fun _ _ _ _ _ => rfl) (fun A1 outer1 s1 H1 E1 f c1 hr => by
      have hu := hr.units
      have hu1 := hr.units1
      have tkM : Takes (lamCx (cxOf (L2.CX P w) P w K mg base ["draw", "op", "words", "wrong", "bad", "found", "k"] "_law_is_computed" (defScope st__law_is_computed) (He.ga K "_law_is_computed") (.ref (He.codeOf K ("_law_is_computed", none))) A outer s H E) A1 outer1 s1 H1 E1 lamA_1.scope f c1) (fun c d _ H => E1 c d H) := takes_of rfl rfl rfl rfl
      exact (d_callH h_computed tkM hr (by decide) (da_cons (d_var (nv 1)) (da_cons (d_var (nv 3)) da_nil)) (consA_len (consA_len nilA_len))))
    (makes_cons la_2 (lamS_by (sc := defScope st__law_is_computed) (scope := lamA_2.scope) (by decide +kernel)) rfl (fun _ _ _ _ _ => rfl) (fun A1 outer1 s1 H1 E1 f c1 hr => by
      have hu := hr.units
      have hu1 := hr.units1
      have tkM : Takes (lamCx (cxOf (L2.CX P w) P w K mg base ["draw", "op", "words", "wrong", "bad", "found", "k"] "_law_is_computed" (defScope st__law_is_computed) (He.ga K "_law_is_computed") (.ref (He.codeOf K ("_law_is_computed", none))) A outer s H E) A1 outer1 s1 H1 E1 lamA_2.scope f c1) (fun c d _ H => E1 c d H) := takes_of rfl rfl rfl rfl
      exact (d_callH h_wrap tkM hr (by decide) (da_cons (d_var (nv 3)) da_nil) (consA_len nilA_len)))
    makes_nil)))
    exact (ds_cons (ds_set (i := 1) nd rfl (by first | exact .inl rfl | exact .inr rfl) (d_callH h__law_pick tkM hr (by decide) (da_cons (d_var (nv 0)) (da_cons (d_callH0 h__law_ops tkM hr (by decide)) da_nil)) (consA_len (consA_len nilA_len))))
  (ds_cons (ds_set (i := 2) nd rfl (by first | exact .inl rfl | exact .inr rfl) (d_callT1 (oa := (.e (lcD (rng1D (callD fx__law_many_args (consA (vD 1) nilA))) (gN 6) yesT b__law_is_computed_1 [6]))) c_tuple rfl F.fr_tuple (by decide +kernel) (oE (d_lc (own := [("k", 6)]) (ws := [6]) rfl nd (di_range1 rfl F.fr_range (d_callH h__law_many_args tkM hr (by decide) (da_cons (d_var (nv 1)) da_nil) (consA_len nilA_len))) (blkOk_by (N := ["draw", "op", "words", "wrong", "bad", "found", "k"]) (sc := defScope st__law_is_computed) (own := [("k", 6)]) (by decide +kernel)) (fun _ _ _ _ _ => (dg_name (i := 6) nd rfl (by first | exact .inl rfl | exact .inr rfl))) (fun _ _ _ _ _ => dts_nil) (fun _ _ _ _ _ => (d_callH h__law_word tk0 hr (by decide) (da_cons (d_var (nv 0)) da_nil) (consA_len nilA_len))) (by decide)))))
  (ds_cons (ds_if (DW.pt (dw_or (dt_not (dt_val (d_callH h__law_same tkM hr (by decide) (da_cons (d_callH h_computed tkM hr (by decide) (da_cons (d_var (nv 1)) (da_cons (d_var (nv 2)) da_nil)) (consA_len (consA_len nilA_len))) (da_cons (d_callH h__law_worth tkM hr (by decide) (da_cons (d_var (nv 1)) (da_cons (d_var (nv 2)) da_nil)) (consA_len (consA_len nilA_len))) da_nil)) (consA_len (consA_len nilA_len))))) (dw_or1 (dt_not (dt_val (d_callH h__law_same tkM hr (by decide) (da_cons (d_callK hk_computed_words_op tkM hr (by decide) (dk_cons (d_var (nv 2)) (dk_cons (d_var (nv 1)) dk_nil)) (consA_len (consA_len nilA_len)) (fun l hl => match l, hl with | [_, _], _ => rfl)) (da_cons (d_callH h__law_worth tkM hr (by decide) (da_cons (d_var (nv 1)) (da_cons (d_var (nv 2)) da_nil)) (consA_len (consA_len nilA_len))) da_nil)) (consA_len (consA_len nilA_len)))))))) (ds_one (ds_ret d_bl)) ds_nil)
  (ds_cons (ds_set (i := 3) nd rfl (by first | exact .inl rfl | exact .inr rfl) (d_callH h__law_pick tkM hr (by decide) (da_cons (d_var (nv 0)) (da_cons (d_lst (da_cons (d_op (oa := (.n 2)) (ob := (.e (tupD (consA (cD (.int 0)) nilA)))) o_add (nv 2) (oE (d_tup (da_cons d_int da_nil)))) (da_cons (d_slice (oa := (.n 2)) (ml := (some (cD (.int 1)))) (mh := none) (nv 2) d_int True.intro) (da_cons (d_callT1 (oa := (.n 2)) c_list rfl F.fr_list (by decide +kernel) (nv 2)) (da_cons d_non (da_cons (d_op (oa := (.e (sliceD (.n 2) (some (cD (.int 1))) none))) (ob := (.e (tupD (consA (cD (.bool true)) nilA)))) o_add (oE (d_slice (oa := (.n 2)) (ml := (some (cD (.int 1)))) (mh := none) (nv 2) d_int True.intro)) (oE (d_tup (da_cons d_bl da_nil)))) (da_cons (d_op (oa := (.e (sliceD (.n 2) (some (cD (.int 1))) none))) (ob := (.e (tupD (consA (cD (.int 2147483648)) nilA)))) o_add (oE (d_slice (oa := (.n 2)) (ml := (some (cD (.int 1)))) (mh := none) (nv 2) d_int True.intro)) (oE (d_tup (da_cons d_int da_nil)))) (da_cons (d_op (oa := (.e (sliceD (.n 2) (some (cD (.int 1))) none))) (ob := (.e (tupD (consA (cD (.str "0")) nilA)))) o_add (oE (d_slice (oa := (.n 2)) (ml := (some (cD (.int 1)))) (mh := none) (nv 2) d_int True.intro)) (oE (d_tup (da_cons d_str da_nil)))) (da_cons d_int (da_cons (d_op (oa := (.e (sliceD (.n 2) (some (cD (.int 1))) none))) (ob := (.e (tupD (consA (cD .none) nilA)))) o_add (oE (d_slice (oa := (.n 2)) (ml := (some (cD (.int 1)))) (mh := none) (nv 2) d_int True.intro)) (oE (d_tup (da_cons d_non da_nil)))) da_nil)))))))))) da_nil)) (consA_len (consA_len nilA_len))))
  (ds_cons (ds_set (i := 4) nd rfl (by first | exact .inl rfl | exact .inr rfl) (d_callH h__law_pick tkM hr (by decide) (da_cons (d_var (nv 0)) (da_cons (d_lst (da_cons d_non (da_cons d_str (da_cons d_str (da_cons d_str (da_cons d_int (da_cons (d_tup (da_cons d_str da_nil)) (da_cons (d_lst (da_cons d_str da_nil)) (da_cons d_str (da_cons d_str da_nil)))))))))) da_nil)) (consA_len (consA_len nilA_len))))
  (ds_cons (ds_set (i := 5) nd rfl (by first | exact .inl rfl | exact .inr rfl) (d_callLam (js := [4, 3, 1]) hG__law_all mk rfl tkM hr (by decide) (da_cons (d_lst (da_cons (d_lamV (la := lamA_0) la_0 TB rfl rfl hmT hmU rfl (lamS_by (sc := defScope st__law_is_computed) (scope := lamA_0.scope) (by decide +kernel))) (da_cons (d_lamV (la := lamA_1) la_1 TB rfl rfl hmT hmU rfl (lamS_by (sc := defScope st__law_is_computed) (scope := lamA_1.scope) (by decide +kernel))) (da_cons (d_lamV (la := lamA_2) la_2 TB rfl rfl hmT hmU rfl (lamS_by (sc := defScope st__law_is_computed) (scope := lamA_2.scope) (by decide +kernel))) da_nil)))) da_nil) (consA_len nilA_len)))
  (ds_one (ds_ret (d_if (dt_cmp (oa := (.n 3)) (ob := (.e (cD (.int 5)))) (o_ne hu) (nv 3) (oE d_int) (nomark _)) (d_cmp (oa := (.n 5)) (ob := (.e (lstD (consA (cD (.str "BadOp")) (consA (cD (.str "BadWords")) (consA (cD (.str "BadNumber")) nilA)))))) (o_eq hu) (nv 5) (oE (d_lst (da_cons d_str (da_cons d_str (da_cons d_str da_nil))))) (nomark _)) (d_cmp (oa := (.e (sliceD (.n 5) none (some (cD (.int 2)))))) (ob := (.e (lstD (consA (cD (.str "BadOp")) (consA (cD (.str "BadWords")) nilA))))) (o_eq hu) (oE (d_slice (oa := (.n 5)) (ml := none) (mh := (some (cD (.int 2)))) (nv 5) True.intro d_int)) (oE (d_lst (da_cons d_str (da_cons d_str da_nil)))) (nomark _))))))))))))
/-! ### law -/
def b_law_1 : M Fl :=
  (ifS (notT (ofD (callD fx__law_same (consA (callD fx_is_name (consA (vD 2) nilA)) (consA (cD (.bool false)) nilA))))) (retS (cD (.bool false))) nxS)
def b_law_2 : M Fl :=
  (seqS (setS 2 (callD fx__law_near_word (consA (vD 1) nilA)))
  (seqS (ifS (orT (notT (ofD (callD fx__law_same (consA (callD fx_is_name (consA (vD 2) nilA)) (consA (callD fx__law_is_name (consA (vD 2) nilA)) nilA))))) (notT (ofD (callD fx__law_is_computed (consA (vD 1) nilA))))) (retS (cD (.bool false))) nxS)
  (seqS (parS 6 7 (callD fx__law_number (consA (vD 1) nilA)) (callD fx__law_number (consA (vD 1) nilA)))
  (seqS (ifS (notT (ofD (callD fx__law_same (consA (lstD (consA (callD fx_wrap (consA (vD 6) nilA)) (consA (callD fx_wrap fun s => ((consA (vD 7) nilA) s).bind fun ds s => .ok (pick [0] ds) s) nilA))) (consA (lstD (consA (callD fx__law_folded (consA (vD 6) nilA)) (consA (callD fx__law_folded (consA (vD 7) nilA)) nilA))) nilA))))) (retS (cD (.bool false))) nxS)
  (seqS (setS 5 (tupD (consA (callD fx_wrap (consA (vD 6) nilA)) (consA (callD fx_wrap (consA (vD 7) nilA)) nilA))))
  (seqS (ifS (notT (ofD (callD fx__law_same (consA (lstD (consA (callD fx_wrap (consA (opd2 (.n 6) (.n 7) (lift2 addD)) nilA)) (consA (callD fx_wrap (consA (opd2 (.n 6) (.n 7) (lift2 subD)) nilA)) (consA (callD fx_wrap (consA (opd2 (.n 6) (.n 7) (lift2 mulD)) nilA)) nilA)))) (consA (lstD (consA (callD fx_computed (consA (cD (.str "add")) (consA (vD 5) nilA))) (consA (callD fx_computed (consA (cD (.str "sub")) (consA (vD 5) nilA))) (consA (callD fx_computed (consA (cD (.str "mul")) (consA (vD 5) nilA))) nilA)))) nilA))))) (retS (cD (.bool false))) nxS)
  (ifS (opdT (.e (opd2 (.e (callD fx_computed (consA (cD (.str "less")) (consA (vD 5) nilA)))) (.e (cD (.int 1))) (lift2 eqD))) (.e (andD (opd2 (.e (callD fx_computed (consA (cD (.str "less")) (consA (opd1 (.n 5) (lift1 revD)) nilA)))) (.e (cD (.int 0))) (lift2 eqD)) (opd2 (.e (callD fx_computed (consA (cD (.str "same")) (consA (vD 5) nilA)))) (.e (cD (.int 0))) (lift2 eqD)))) neD) (retS (cD (.bool false))) nxS)))))))
def m_law : M Fl :=
  (seqS (setS 1 (callD fx__law_begun (consA (vD 0) nilA)))
  (seqS (ifS (orT (notT (ofD (callD fx__law_same (consA (cD (.tuple (g_KEPT.map .str))) (consA (opd1 (.e (callD fx__law_kept nilA)) (lift1 tupleD)) nilA))))) (notT (ofD (callD fx__law_same (consA (lstD (consA (callD fx_is_name (consA (cD (.str "abcdefgh")) nilA)) (consA (callD fx_is_name (consA (cD (.str "abcdefghi")) nilA)) nilA))) (consA (lstD (consA (cD (.bool true)) (consA (cD (.bool false)) nilA))) nilA)))))) (retS (cD (.bool false))) nxS)
  (seqS (forM (itD (opd2 (.e (callD fx__law_kept nilA)) (.e (lstD (consA (cD (.str "")) (consA (cD .none) (consA (cD (.int 5)) (consA (cD (.bool true)) (consA (tupD (consA (cD (.str "a")) nilA)) (consA (lstD (consA (cD (.str "a")) nilA)) (consA (cD (.str "A")) (consA (cD (.str "a ")) (consA (cD (.str "a\n")) (consA (cD (.str "1")) nilA)))))))))))) (lift2 addD))) (gN 2) b_law_1)
  (seqS (forM (rng1D (opd2 (.e (cD (.int 12))) (.e (opd2 (.e (opd1 (.n 0) (lift1 lenD))) (.e (cD (.int 12))) (lift2 min2D))) (lift2 addD))) (gN 3) b_law_2)
  (seqS (setS 4 (lstD (consA (callD fx_wrap (consA (cD (.int 2147483648)) nilA)) (consA (callD fx_wrap (consA (opd2 (.e (cD (.int 0))) (.e (cD (.int 2147483649))) (lift2 subD)) nilA)) (consA (callD fx_computed (consA (cD (.str "mul")) (consA (tupD (consA (cD (.int 65536)) (consA (cD (.int 65536)) nilA))) nilA))) (consA (callD fx_computed (consA (cD (.str "sub")) (consA (tupD (consA (opd2 (.e (cD (.int 0))) (.e (cD (.int 2147483648))) (lift2 subD)) (consA (cD (.int 1)) nilA))) nilA))) (consA (callD fx_computed (consA (cD (.str "less")) (consA (tupD (consA (opd2 (.e (cD (.int 0))) (.e (cD (.int 1))) (lift2 subD)) (consA (cD (.int 0)) nilA))) nilA))) nilA)))))))
  (retS (callD fx__law_same (consA (vD 4) (consA (lstD (consA (opd2 (.e (cD (.int 0))) (.e (cD (.int 2147483648))) (lift2 subD)) (consA (cD (.int 2147483647)) (consA (cD (.int 0)) (consA (cD (.int 2147483647)) (consA (cD (.int 1)) nilA)))))) nilA)))))))))
def fx_law : FD := fxOf 1 7 m_law
theorem fk_law {f : Addr} {fd : FuncData} (F : Fc K w mg) (h__law_begun : Has P w K mg base "_law_begun" 1 1 fx__law_begun) (h__law_same : Has P w K mg base "_law_same" 2 1 fx__law_same) (h__law_kept : Has P w K mg base "_law_kept" 0 1 fx__law_kept) (h_is_name : Has P w K mg base "is_name" 1 1 fx_is_name) (h__law_near_word : Has P w K mg base "_law_near_word" 1 5 fx__law_near_word) (h__law_is_name : Has P w K mg base "_law_is_name" 1 2 fx__law_is_name) (h__law_is_computed : Has P w K mg base "_law_is_computed" 1 7 fx__law_is_computed) (h__law_number : Has P w K mg base "_law_number" 1 5 fx__law_number) (h_wrap : Has P w K mg base "wrap" 1 2 fx_wrap) (h__law_folded : Has P w K mg base "_law_folded" 1 1 fx__law_folded) (h_computed : Has P w K mg base "computed" 2 3 fx_computed) (hk_wrap_number : HasK P w K mg base "wrap" ["number"] [0] 1 2 fx_wrap) (Fd : FnP K "law" st_law f fd) : FnOkG P w K mg base (L2.CX P w) 8 f fd ["script"] (spD K 1 fx_law) :=
  fn_D Fd sc_law rfl (fun cdv A outer s H E hr => by
    have hu := hr.units
    have hu1 := hr.units1
    have nd := sc_law.nd
    have tkM : Takes (cxOf (L2.CX P w) P w K mg base ["script", "draw", "word", "turn", "some", "pair", "one", "other"] "law" (defScope st_law) f cdv A outer s H E) (fun c d _ H => E c d H) := takes_of rfl rfl rfl rfl
    have hp := passes_of (X := (cxOf (L2.CX P w) P w K mg base ["script", "draw", "word", "turn", "some", "pair", "one", "other"] "law" (defScope st_law) f cdv A outer s H E)) rfl
    exact (ds_cons (ds_set (i := 1) nd rfl (by first | exact .inl rfl | exact .inr rfl) (d_callH h__law_begun tkM hr (by decide) (da_cons (d_var (nv 0)) da_nil) (consA_len nilA_len)))
  (ds_cons (ds_if (DW.pt (dw_or (dt_not (dt_val (d_callH h__law_same tkM hr (by decide) (da_cons (d_gTupS rfl F.gt_KEPT) (da_cons (d_callT1 (oa := (.e (callD fx__law_kept nilA))) c_tuple rfl F.fr_tuple (by decide +kernel) (oE (d_callH0 h__law_kept tkM hr (by decide)))) da_nil)) (consA_len (consA_len nilA_len))))) (dw_or1 (dt_not (dt_val (d_callH h__law_same tkM hr (by decide) (da_cons (d_lst (da_cons (d_callH h_is_name tkM hr (by decide) (da_cons d_str da_nil) (consA_len nilA_len)) (da_cons (d_callH h_is_name tkM hr (by decide) (da_cons d_str da_nil) (consA_len nilA_len)) da_nil))) (da_cons (d_lst (da_cons d_bl (da_cons d_bl da_nil))) da_nil)) (consA_len (consA_len nilA_len)))))))) (ds_one (ds_ret d_bl)) ds_nil)
  (ds_cons (ds_for (vs := [2]) hp rfl (di_iter (d_op (oa := (.e (callD fx__law_kept nilA))) (ob := (.e (lstD (consA (cD (.str "")) (consA (cD .none) (consA (cD (.int 5)) (consA (cD (.bool true)) (consA (tupD (consA (cD (.str "a")) nilA)) (consA (lstD (consA (cD (.str "a")) nilA)) (consA (cD (.str "A")) (consA (cD (.str "a ")) (consA (cD (.str "a\n")) (consA (cD (.str "1")) nilA))))))))))))) o_add (oE (d_callH0 h__law_kept tkM hr (by decide))) (oE (d_lst (da_cons d_str (da_cons d_non (da_cons d_int (da_cons d_bl (da_cons (d_tup (da_cons d_str da_nil)) (da_cons (d_lst (da_cons d_str da_nil)) (da_cons d_str (da_cons d_str (da_cons d_str (da_cons d_str da_nil)))))))))))))) (dg_name (i := 2) nd rfl (by first | exact .inl rfl | exact .inr rfl)) (ds_one (ds_if (dt_not (dt_val (d_callH h__law_same tkM hr (by decide) (da_cons (d_callH h_is_name tkM hr (by decide) (da_cons (d_var (nv 2)) da_nil) (consA_len nilA_len)) (da_cons d_bl da_nil)) (consA_len (consA_len nilA_len))))) (ds_one (ds_ret d_bl)) ds_nil)))
  (ds_cons (ds_for (vs := [3]) hp rfl (di_range1 rfl F.fr_range (d_op (oa := (.e (cD (.int 12)))) (ob := (.e (opd2 (.e (opd1 (.n 0) (lift1 lenD))) (.e (cD (.int 12))) (lift2 min2D)))) o_add (oE d_int) (oE (d_call2 (oa := (.e (opd1 (.n 0) (lift1 lenD)))) (ob := (.e (cD (.int 12)))) (c_min2 rfl) rfl F.fr_min (by decide +kernel) (oE (d_call1 (oa := (.n 0)) c_len rfl F.fr_len (by decide +kernel) (nv 0))) (oE d_int))))) (dg_name (i := 3) nd rfl (by first | exact .inl rfl | exact .inr rfl)) (ds_cons (ds_set (i := 2) nd rfl (by first | exact .inl rfl | exact .inr rfl) (d_callH h__law_near_word tkM hr (by decide) (da_cons (d_var (nv 1)) da_nil) (consA_len nilA_len)))
  (ds_cons (ds_if (DW.pt (dw_or (dt_not (dt_val (d_callH h__law_same tkM hr (by decide) (da_cons (d_callH h_is_name tkM hr (by decide) (da_cons (d_var (nv 2)) da_nil) (consA_len nilA_len)) (da_cons (d_callH h__law_is_name tkM hr (by decide) (da_cons (d_var (nv 2)) da_nil) (consA_len nilA_len)) da_nil)) (consA_len (consA_len nilA_len))))) (dw_or1 (dt_not (dt_val (d_callH h__law_is_computed tkM hr (by decide) (da_cons (d_var (nv 1)) da_nil) (consA_len nilA_len))))))) (ds_one (ds_ret d_bl)) ds_nil)
  (ds_cons (ds_par (i := 6) (j := 7) rfl nd rfl rfl (by decide) rfl rfl (d_callH h__law_number tkM hr (by decide) (da_cons (d_var (nv 1)) da_nil) (consA_len nilA_len)) (d_callH h__law_number tkM hr (by decide) (da_cons (d_var (nv 1)) da_nil) (consA_len nilA_len)) (by rfl))
  (ds_cons (ds_if (dt_not (dt_val (d_callH h__law_same tkM hr (by decide) (da_cons (d_lst (da_cons (d_callH h_wrap tkM hr (by decide) (da_cons (d_var (nv 6)) da_nil) (consA_len nilA_len)) (da_cons (d_callK hk_wrap_number tkM hr (by decide) (dk_cons (d_var (nv 7)) dk_nil) (consA_len nilA_len) (fun l hl => match l, hl with | [_], _ => rfl)) da_nil))) (da_cons (d_lst (da_cons (d_callH h__law_folded tkM hr (by decide) (da_cons (d_var (nv 6)) da_nil) (consA_len nilA_len)) (da_cons (d_callH h__law_folded tkM hr (by decide) (da_cons (d_var (nv 7)) da_nil) (consA_len nilA_len)) da_nil))) da_nil)) (consA_len (consA_len nilA_len))))) (ds_one (ds_ret d_bl)) ds_nil)
  (ds_cons (ds_set (i := 5) nd rfl (by first | exact .inl rfl | exact .inr rfl) (d_tup (da_cons (d_callH h_wrap tkM hr (by decide) (da_cons (d_var (nv 6)) da_nil) (consA_len nilA_len)) (da_cons (d_callH h_wrap tkM hr (by decide) (da_cons (d_var (nv 7)) da_nil) (consA_len nilA_len)) da_nil))))
  (ds_cons (ds_if (dt_not (dt_val (d_callH h__law_same tkM hr (by decide) (da_cons (d_lst (da_cons (d_callH h_wrap tkM hr (by decide) (da_cons (d_op (oa := (.n 6)) (ob := (.n 7)) o_add (nv 6) (nv 7)) da_nil) (consA_len nilA_len)) (da_cons (d_callH h_wrap tkM hr (by decide) (da_cons (d_op (oa := (.n 6)) (ob := (.n 7)) o_sub (nv 6) (nv 7)) da_nil) (consA_len nilA_len)) (da_cons (d_callH h_wrap tkM hr (by decide) (da_cons (d_op (oa := (.n 6)) (ob := (.n 7)) o_mul (nv 6) (nv 7)) da_nil) (consA_len nilA_len)) da_nil)))) (da_cons (d_lst (da_cons (d_callH h_computed tkM hr (by decide) (da_cons d_str (da_cons (d_var (nv 5)) da_nil)) (consA_len (consA_len nilA_len))) (da_cons (d_callH h_computed tkM hr (by decide) (da_cons d_str (da_cons (d_var (nv 5)) da_nil)) (consA_len (consA_len nilA_len))) (da_cons (d_callH h_computed tkM hr (by decide) (da_cons d_str (da_cons (d_var (nv 5)) da_nil)) (consA_len (consA_len nilA_len))) da_nil)))) da_nil)) (consA_len (consA_len nilA_len))))) (ds_one (ds_ret d_bl)) ds_nil)
  (ds_one (ds_if (dt_cmp (oa := (.e (opd2 (.e (callD fx_computed (consA (cD (.str "less")) (consA (vD 5) nilA)))) (.e (cD (.int 1))) (lift2 eqD)))) (ob := (.e (andD (opd2 (.e (callD fx_computed (consA (cD (.str "less")) (consA (opd1 (.n 5) (lift1 revD)) nilA)))) (.e (cD (.int 0))) (lift2 eqD)) (opd2 (.e (callD fx_computed (consA (cD (.str "same")) (consA (vD 5) nilA)))) (.e (cD (.int 0))) (lift2 eqD))))) (o_ne hu) (oE (d_cmp (oa := (.e (callD fx_computed (consA (cD (.str "less")) (consA (vD 5) nilA))))) (ob := (.e (cD (.int 1)))) (o_eq hu) (oE (d_callH h_computed tkM hr (by decide) (da_cons d_str (da_cons (d_var (nv 5)) da_nil)) (consA_len (consA_len nilA_len)))) (oE d_int) (nomark _))) (oE (d_and (d_cmp (oa := (.e (callD fx_computed (consA (cD (.str "less")) (consA (opd1 (.n 5) (lift1 revD)) nilA))))) (ob := (.e (cD (.int 0)))) (o_eq hu) (oE (d_callH h_computed tkM hr (by decide) (da_cons d_str (da_cons (d_back (oa := (.n 5)) (nv 5)) da_nil)) (consA_len (consA_len nilA_len)))) (oE d_int) (nomark _)) (d_one (d_cmp (oa := (.e (callD fx_computed (consA (cD (.str "same")) (consA (vD 5) nilA))))) (ob := (.e (cD (.int 0)))) (o_eq hu) (oE (d_callH h_computed tkM hr (by decide) (da_cons d_str (da_cons (d_var (nv 5)) da_nil)) (consA_len (consA_len nilA_len)))) (oE d_int) (nomark _))))) (nomark _)) (ds_one (ds_ret d_bl)) ds_nil)))))))))
  (ds_cons (ds_set (i := 4) nd rfl (by first | exact .inl rfl | exact .inr rfl) (d_lst (da_cons (d_callH h_wrap tkM hr (by decide) (da_cons d_int da_nil) (consA_len nilA_len)) (da_cons (d_callH h_wrap tkM hr (by decide) (da_cons (d_op (oa := (.e (cD (.int 0)))) (ob := (.e (cD (.int 2147483649)))) o_sub (oE d_int) (oE d_int)) da_nil) (consA_len nilA_len)) (da_cons (d_callH h_computed tkM hr (by decide) (da_cons d_str (da_cons (d_tup (da_cons d_int (da_cons d_int da_nil))) da_nil)) (consA_len (consA_len nilA_len))) (da_cons (d_callH h_computed tkM hr (by decide) (da_cons d_str (da_cons (d_tup (da_cons (d_op (oa := (.e (cD (.int 0)))) (ob := (.e (cD (.int 2147483648)))) o_sub (oE d_int) (oE d_int)) (da_cons d_int da_nil))) da_nil)) (consA_len (consA_len nilA_len))) (da_cons (d_callH h_computed tkM hr (by decide) (da_cons d_str (da_cons (d_tup (da_cons (d_op (oa := (.e (cD (.int 0)))) (ob := (.e (cD (.int 1)))) o_sub (oE d_int) (oE d_int)) (da_cons d_int da_nil))) da_nil)) (consA_len (consA_len nilA_len))) da_nil)))))))
  (ds_one (ds_ret (d_callH h__law_same tkM hr (by decide) (da_cons (d_var (nv 4)) (da_cons (d_lst (da_cons (d_op (oa := (.e (cD (.int 0)))) (ob := (.e (cD (.int 2147483648)))) o_sub (oE d_int) (oE d_int)) (da_cons d_int (da_cons d_int (da_cons d_int (da_cons d_int da_nil)))))) da_nil)) (consA_len (consA_len nilA_len))))))))))) fun ds dr h _ => by unfold fx_law fxOf; exact (if_pos h).symm
end
end Lw
end
end
section
set_option Elab.async false
set_option linter.all false
set_option maxRecDepth 100000
set_option maxHeartbeats 4000000
/-! what the functions of this law answer: numbers and what is reckoned -/
namespace Lw
open PySem PySem.Spec L2 Dy LamX
def fo (i : Int) : Int := (i + 2147483648) % 4294967296 - 2147483648
theorem fo_lo (i : Int) : -2147483648 ≤ fo i ∧ fo i ≤ 2147483647 := by unfold fo; omega
theorem fo_fix {i : Int} (h : -2147483648 ≤ i ∧ i ≤ 2147483647) : fo i = i := by unfold fo; omega
theorem fo_q (i : Int) : ∃ q, fo i = i + 4294967296 * q := by
  unfold fo
  exact ⟨-((i + 2147483648) / 4294967296), by omega⟩
theorem fo_shift (x k : Int) : fo (x + 4294967296 * k) = fo x := by unfold fo; omega
theorem fo_add (i j : Int) : fo (fo i + fo j) = fo (i + j) := by
  obtain ⟨p, hp⟩ := fo_q i
  obtain ⟨q, hq⟩ := fo_q j
  rw [hp, hq, show i + 4294967296 * p + (j + 4294967296 * q) = (i + j) + 4294967296 * (p + q) by omega, fo_shift]
theorem fo_sub (i j : Int) : fo (fo i - fo j) = fo (i - j) := by
  obtain ⟨p, hp⟩ := fo_q i
  obtain ⟨q, hq⟩ := fo_q j
  rw [hp, hq, show i + 4294967296 * p - (j + 4294967296 * q) = (i - j) + 4294967296 * (p - q) by omega, fo_shift]
theorem fo_mul (i j : Int) : fo (fo i * fo j) = fo (i * j) := by
  obtain ⟨p, hp⟩ := fo_q i
  obtain ⟨q, hq⟩ := fo_q j
  rw [hp, hq, show (i + 4294967296 * p) * (j + 4294967296 * q) = i * j + 4294967296 * (i * q + p * j + 4294967296 * (p * q)) by
    simp only [Int.add_mul, Int.mul_add]
    have a1 : i * (4294967296 * q) = 4294967296 * (i * q) := by rw [← Int.mul_assoc, Int.mul_comm i, Int.mul_assoc]
    have a2 : 4294967296 * p * j = 4294967296 * (p * j) := Int.mul_assoc _ _ _
    have a3 : 4294967296 * p * (4294967296 * q) = 4294967296 * (4294967296 * (p * q)) := by
      rw [Int.mul_assoc, ← Int.mul_assoc p, Int.mul_comm p, Int.mul_assoc]
    rw [a1, a2, a3]
    omega, fo_shift]
variable [Ph] {dr : Option Dr}
def isNum : D → Bool
  | .int _ => true
  | _ => false
theorem is_number_ok {d : D} (h : d.plain = true) : fx_is_number [d] dr = .ok (.bool (isNum d)) dr := by
  unfold fx_is_number m_is_number
  cases d <;> (first | (cases h; done) | simp only [fxOf, runD, seqS, retS, retN, ifS, exprS, setS, setE, cD, vD, opd1, opd2, pkS, lift1, lift2, andD, orD, notD, boolD, ofD, boolT, notT, andT, orT, ifD, opdT, callD, callF, consA, nilA, tupD, lstD, Sl.val, nxS, bkS, ctS, raiseS, parS, par3S, asgS, gT, gsCons, gsNil, gN, drAt, drRest, drTurn, drCells, drMore, drPop, drPutS, Out.bind_ok, Out.bind_exc, Out.bind_bad, List.getElem?_cons_zero, List.getElem?_cons_succ, List.getElem?_nil, List.set_cons_zero, List.set_cons_succ, List.length_cons, List.length_nil, List.map_cons, List.map_nil, List.replicate, List.cons_append, List.nil_append, Nat.reduceAdd, Nat.reduceLT, Nat.lt_irrefl, if_true, if_false, Option.bind_some, Option.bind_none, Option.map_some, Option.map_none, and_self, and_true, true_and, ite_true, ite_false, List.cons.injEq, reduceCtorEq, not_true_eq_false, not_false_eq_true, ne_eq, Nat.reduceEqDiff, okKeyW, isaD, h, PyData.isInt, PyData.isBool, isNum] <;> try rfl)
theorem wrapped_ok (i : Int) : fx_wrapped [.int i] dr = .ok (.int (fo i)) dr := by
  unfold fx_wrapped m_wrapped
  have e : ∀ x : Int, toIntD (.int x) = some (.d (.int x)) := fun _ => rfl
  simp only [fxOf, runD, seqS, retS, retN, ifS, exprS, setS, setE, cD, vD, opd1, opd2, pkS, lift1, lift2, andD, orD, notD, boolD, ofD, boolT, notT, andT, orT, ifD, opdT, callD, callF, consA, nilA, tupD, lstD, Sl.val, nxS, bkS, ctS, raiseS, parS, par3S, asgS, gT, gsCons, gsNil, gN, drAt, drRest, drTurn, drCells, drMore, drPop, drPutS, Out.bind_ok, Out.bind_exc, Out.bind_bad, List.getElem?_cons_zero, List.getElem?_cons_succ, List.getElem?_nil, List.set_cons_zero, List.set_cons_succ, List.length_cons, List.length_nil, List.map_cons, List.map_nil, List.replicate, List.cons_append, List.nil_append, Nat.reduceAdd, Nat.reduceLT, Nat.lt_irrefl, if_true, if_false, Option.bind_some, Option.bind_none, Option.map_some, Option.map_none, and_self, and_true, true_and, ite_true, ite_false, List.cons.injEq, reduceCtorEq, not_true_eq_false, not_false_eq_true, ne_eq, Nat.reduceEqDiff, okKeyW, subD_int, e, modD_int (show (0 : Int) < 4294967296 by decide), addD_int, fo]
  rw [show i - -2147483648 = i + 2147483648 by omega]
  rfl
theorem wrap_ok (i : Int) : fx_wrap [.int i] dr = .ok (.int (fo i)) dr := by
  unfold fx_wrap m_wrap
  simp only [fxOf, runD, seqS, retS, retN, ifS, exprS, setS, setE, cD, vD, opd1, opd2, pkS, lift1, lift2, andD, orD, notD, boolD, ofD, boolT, notT, andT, orT, ifD, opdT, callD, callF, consA, nilA, tupD, lstD, Sl.val, nxS, bkS, ctS, raiseS, parS, par3S, asgS, gT, gsCons, gsNil, gN, drAt, drRest, drTurn, drCells, drMore, drPop, drPutS, Out.bind_ok, Out.bind_exc, Out.bind_bad, List.getElem?_cons_zero, List.getElem?_cons_succ, List.getElem?_nil, List.set_cons_zero, List.set_cons_succ, List.length_cons, List.length_nil, List.map_cons, List.map_nil, List.replicate, List.cons_append, List.nil_append, Nat.reduceAdd, Nat.reduceLT, Nat.lt_irrefl, if_true, if_false, Option.bind_some, Option.bind_none, Option.map_some, Option.map_none, and_self, and_true, true_and, ite_true, ite_false, List.cons.injEq, reduceCtorEq, not_true_eq_false, not_false_eq_true, ne_eq, Nat.reduceEqDiff, okKeyW, is_number_ok (d := .int i) rfl, wrapped_ok, isNum]
  rfl
theorem wrap_bad {d : D} (h : d.plain = true) (h2 : isNum d = false) : fx_wrap [d] dr = .exc "BadNumber" dr := by
  unfold fx_wrap m_wrap
  simp only [fxOf, runD, seqS, retS, retN, ifS, exprS, setS, setE, cD, vD, opd1, opd2, pkS, lift1, lift2, andD, orD, notD, boolD, ofD, boolT, notT, andT, orT, ifD, opdT, callD, callF, consA, nilA, tupD, lstD, Sl.val, nxS, bkS, ctS, raiseS, parS, par3S, asgS, gT, gsCons, gsNil, gN, drAt, drRest, drTurn, drCells, drMore, drPop, drPutS, Out.bind_ok, Out.bind_exc, Out.bind_bad, List.getElem?_cons_zero, List.getElem?_cons_succ, List.getElem?_nil, List.set_cons_zero, List.set_cons_succ, List.length_cons, List.length_nil, List.map_cons, List.map_nil, List.replicate, List.cons_append, List.nil_append, Nat.reduceAdd, Nat.reduceLT, Nat.lt_irrefl, if_true, if_false, Option.bind_some, Option.bind_none, Option.map_some, Option.map_none, and_self, and_true, true_and, ite_true, ite_false, List.cons.injEq, reduceCtorEq, not_true_eq_false, not_false_eq_true, ne_eq, Nat.reduceEqDiff, okKeyW, is_number_ok h, h2]
  rfl
theorem folded_ok (i : Int) : fx__law_folded [.int i] dr = .ok (.int (fo i)) dr := by
  unfold fx__law_folded m__law_folded
  have e : ∀ x : Int, toIntD (.int x) = some (.d (.int x)) := fun _ => rfl
  have g : ∀ x y : Int, geD (.int x) (.int y) = some (.d (.bool (decide (x ≥ y)))) := fun _ _ => rfl
  simp only [fxOf, runD, seqS, retS, retN, ifS, exprS, setS, setE, cD, vD, opd1, opd2, pkS, lift1, lift2, andD, orD, notD, boolD, ofD, boolT, notT, andT, orT, ifD, opdT, callD, callF, consA, nilA, tupD, lstD, Sl.val, nxS, bkS, ctS, raiseS, parS, par3S, asgS, gT, gsCons, gsNil, gN, drAt, drRest, drTurn, drCells, drMore, drPop, drPutS, Out.bind_ok, Out.bind_exc, Out.bind_bad, List.getElem?_cons_zero, List.getElem?_cons_succ, List.getElem?_nil, List.set_cons_zero, List.set_cons_succ, List.length_cons, List.length_nil, List.map_cons, List.map_nil, List.replicate, List.cons_append, List.nil_append, Nat.reduceAdd, Nat.reduceLT, Nat.lt_irrefl, if_true, if_false, Option.bind_some, Option.bind_none, Option.map_some, Option.map_none, and_self, and_true, true_and, ite_true, ite_false, List.cons.injEq, reduceCtorEq, not_true_eq_false, not_false_eq_true, ne_eq, Nat.reduceEqDiff, okKeyW, e, modD_int (show (0 : Int) < 4294967296 by decide), g, subD_int]
  by_cases h : i % 4294967296 ≥ 2147483648
  · simp only [h, decide_true]
    rw [show fo i = i % 4294967296 - 4294967296 by unfold fo; omega]
    try rfl
  · simp only [h, decide_false]
    rw [show fo i = i % 4294967296 by unfold fo; omega]
    rfl
def isW : D → Bool
  | .int i => decide (i ≥ -2147483648) && decide (i ≤ 2147483647)
  | _ => false
theorem is_word_ok {d : D} (h : d.plain = true) : fx_is_word [d] dr = .ok (.bool (isW d)) dr := by
  unfold fx_is_word m_is_word
  have g : ∀ x y : Int, geD (.int x) (.int y) = some (.d (.bool (decide (x ≥ y)))) := fun _ _ => rfl
  have l : ∀ x y : Int, leD (.int x) (.int y) = some (.d (.bool (decide (x ≤ y)))) := fun _ _ => rfl
  by_cases hn : isNum d = true
  · cases d <;> (first | (cases hn; done) | skip)
    rename_i i
    simp only [fxOf, runD, seqS, retS, retN, ifS, exprS, setS, setE, cD, vD, opd1, opd2, pkS, lift1, lift2, andD, orD, notD, boolD, ofD, boolT, notT, andT, orT, ifD, opdT, callD, callF, consA, nilA, tupD, lstD, Sl.val, nxS, bkS, ctS, raiseS, parS, par3S, asgS, gT, gsCons, gsNil, gN, drAt, drRest, drTurn, drCells, drMore, drPop, drPutS, Out.bind_ok, Out.bind_exc, Out.bind_bad, List.getElem?_cons_zero, List.getElem?_cons_succ, List.getElem?_nil, List.set_cons_zero, List.set_cons_succ, List.length_cons, List.length_nil, List.map_cons, List.map_nil, List.replicate, List.cons_append, List.nil_append, Nat.reduceAdd, Nat.reduceLT, Nat.lt_irrefl, if_true, if_false, Option.bind_some, Option.bind_none, Option.map_some, Option.map_none, and_self, and_true, true_and, ite_true, ite_false, List.cons.injEq, reduceCtorEq, not_true_eq_false, not_false_eq_true, ne_eq, Nat.reduceEqDiff, okKeyW, is_number_ok h, isNum, g, l, isW]
    by_cases h1 : i ≥ -2147483648
    · simp only [h1, decide_true]
      by_cases h2 : i ≤ 2147483647
      · simp only [h2, decide_true]
        rfl
      · simp only [h2, decide_false]
        rfl
    · simp only [h1, decide_false]
      rfl
  · have hn : isNum d = false := by simpa using hn
    simp only [fxOf, runD, seqS, retS, retN, ifS, exprS, setS, setE, cD, vD, opd1, opd2, pkS, lift1, lift2, andD, orD, notD, boolD, ofD, boolT, notT, andT, orT, ifD, opdT, callD, callF, consA, nilA, tupD, lstD, Sl.val, nxS, bkS, ctS, raiseS, parS, par3S, asgS, gT, gsCons, gsNil, gN, drAt, drRest, drTurn, drCells, drMore, drPop, drPutS, Out.bind_ok, Out.bind_exc, Out.bind_bad, List.getElem?_cons_zero, List.getElem?_cons_succ, List.getElem?_nil, List.set_cons_zero, List.set_cons_succ, List.length_cons, List.length_nil, List.map_cons, List.map_nil, List.replicate, List.cons_append, List.nil_append, Nat.reduceAdd, Nat.reduceLT, Nat.lt_irrefl, if_true, if_false, Option.bind_some, Option.bind_none, Option.map_some, Option.map_none, and_self, and_true, true_and, ite_true, ite_false, List.cons.injEq, reduceCtorEq, not_true_eq_false, not_false_eq_true, ne_eq, Nat.reduceEqDiff, okKeyW, is_number_ok h, hn]
    have : isW d = false := by cases d <;> (first | rfl | cases hn)
    rw [this]
    try rfl
/-! ### what is reckoned -/
def takes (z : Str) : Option Int := match g_TAKES.lookup z with
  | some (.int k) => some k
  | _ => none
theorem is_op_str (z : Str) : fx_is_op [.str z] dr = .ok (.bool (g_TAKES.lookup z).isSome) dr := by
  unfold fx_is_op m_is_op
  have e : isaD (fun d => d.isStr) (.str z) = some (.d (.bool true)) := rfl
  simp only [fxOf, runD, seqS, retS, retN, ifS, exprS, setS, setE, cD, vD, opd1, opd2, pkS, lift1, lift2, andD, orD, notD, boolD, ofD, boolT, notT, andT, orT, ifD, opdT, callD, callF, consA, nilA, tupD, lstD, Sl.val, nxS, bkS, ctS, raiseS, parS, par3S, asgS, gT, gsCons, gsNil, gN, drAt, drRest, drTurn, drCells, drMore, drPop, drPutS, Out.bind_ok, Out.bind_exc, Out.bind_bad, List.getElem?_cons_zero, List.getElem?_cons_succ, List.getElem?_nil, List.set_cons_zero, List.set_cons_succ, List.length_cons, List.length_nil, List.map_cons, List.map_nil, List.replicate, List.cons_append, List.nil_append, Nat.reduceAdd, Nat.reduceLT, Nat.lt_irrefl, if_true, if_false, Option.bind_some, Option.bind_none, Option.map_some, Option.map_none, and_self, and_true, true_and, ite_true, ite_false, List.cons.injEq, reduceCtorEq, not_true_eq_false, not_false_eq_true, ne_eq, Nat.reduceEqDiff, okKeyW, e, inGD]
  try (cases (g_TAKES.lookup z).isSome <;> rfl)
theorem is_op_not {d : D} (h : d.plain = true) (h2 : d.isStr = false) : fx_is_op [d] dr = .ok (.bool false) dr := by
  unfold fx_is_op m_is_op
  have e : isaD (fun d => d.isStr) d = some (.d (.bool false)) := by unfold isaD; rw [if_pos h]; exact congrArg (fun b => some (Sl.d (PyData.bool b))) h2
  simp only [fxOf, runD, seqS, retS, retN, ifS, exprS, setS, setE, cD, vD, opd1, opd2, pkS, lift1, lift2, andD, orD, notD, boolD, ofD, boolT, notT, andT, orT, ifD, opdT, callD, callF, consA, nilA, tupD, lstD, Sl.val, nxS, bkS, ctS, raiseS, parS, par3S, asgS, gT, gsCons, gsNil, gN, drAt, drRest, drTurn, drCells, drMore, drPop, drPutS, Out.bind_ok, Out.bind_exc, Out.bind_bad, List.getElem?_cons_zero, List.getElem?_cons_succ, List.getElem?_nil, List.set_cons_zero, List.set_cons_succ, List.length_cons, List.length_nil, List.map_cons, List.map_nil, List.replicate, List.cons_append, List.nil_append, Nat.reduceAdd, Nat.reduceLT, Nat.lt_irrefl, if_true, if_false, Option.bind_some, Option.bind_none, Option.map_some, Option.map_none, and_self, and_true, true_and, ite_true, ite_false, List.cons.injEq, reduceCtorEq, not_true_eq_false, not_false_eq_true, ne_eq, Nat.reduceEqDiff, okKeyW, e]
  try rfl
theorem computed_noop {d w : D} (h : fx_is_op [d] dr = .ok (.bool false) dr) : fx_computed [d, w] dr = .exc "BadOp" dr := by
  unfold fx_computed m_computed
  simp only [fxOf, runD, seqS, retS, retN, ifS, exprS, setS, setE, cD, vD, opd1, opd2, pkS, lift1, lift2, andD, orD, notD, boolD, ofD, boolT, notT, andT, orT, ifD, opdT, callD, callF, consA, nilA, tupD, lstD, Sl.val, nxS, bkS, ctS, raiseS, parS, par3S, asgS, gT, gsCons, gsNil, gN, drAt, drRest, drTurn, drCells, drMore, drPop, drPutS, Out.bind_ok, Out.bind_exc, Out.bind_bad, List.getElem?_cons_zero, List.getElem?_cons_succ, List.getElem?_nil, List.set_cons_zero, List.set_cons_succ, List.length_cons, List.length_nil, List.map_cons, List.map_nil, List.replicate, List.cons_append, List.nil_append, Nat.reduceAdd, Nat.reduceLT, Nat.lt_irrefl, if_true, if_false, Option.bind_some, Option.bind_none, Option.map_some, Option.map_none, and_self, and_true, true_and, ite_true, ite_false, List.cons.injEq, reduceCtorEq, not_true_eq_false, not_false_eq_true, ne_eq, Nat.reduceEqDiff, okKeyW, h]
  try rfl
theorem boolsOf_map {f : D → Bool} : ∀ ds : List D, boolsOf (ds.map fun d => .bool (f d)) = some (ds.map f)
  | [] => rfl
  | d :: ds => by
    rw [List.map_cons, boolsOf, boolsOf_map ds]
    rfl
theorem words_ok {z : D} {ds : List D} (h : PyData.plainAll ds = true) (hl : ds.length ≤ 1000) : lcD (itD (vD 1)) (gN 2) yesT (callD fx_is_word (consA (vD 2) nilA)) [2] ⟨[.d z, .d (.tuple ds), .u], dr⟩ = .ok (.o (.list (ds.map fun d => .bool (isW d)))) ⟨[.d z, .d (.tuple ds), .u], dr⟩ := by
  have hm : ∀ d ∈ ds, d.plain = true := by
    clear hl
    induction ds with
    | nil => intro d hd; cases hd
    | cons a ds ih =>
      rw [PyData.plainAll, Bool.and_eq_true] at h
      intro d hd
      rcases List.mem_cons.mp hd with rfl | hd
      · exact h.1
      · exact ih h.2 d hd
  exact lcD_map (g := gN 2) (me := callD fx_is_word (consA (vD 2) nilA)) (vs := [2]) (mi := itD (vD 1)) (s := ⟨[.d z, .d (.tuple ds), .u], dr⟩) (s1 := ⟨[.d z, .d (.tuple ds), .u], dr⟩) (items := ds) (fun d => .bool (isW d)) rfl (by
    intro x hx
    refine ⟨⟨[.d z, .d (.tuple ds), .d x], dr⟩, rfl, ⟨.d (.bool (isW x)), ?_, rfl⟩, rfl⟩
    simp only [fxOf, runD, seqS, retS, retN, ifS, exprS, setS, setE, cD, vD, opd1, opd2, pkS, lift1, lift2, andD, orD, notD, boolD, ofD, boolT, notT, andT, orT, ifD, opdT, callD, callF, consA, nilA, tupD, lstD, Sl.val, nxS, bkS, ctS, raiseS, parS, par3S, asgS, gT, gsCons, gsNil, gN, drAt, drRest, drTurn, drCells, drMore, drPop, drPutS, Out.bind_ok, Out.bind_exc, Out.bind_bad, List.getElem?_cons_zero, List.getElem?_cons_succ, List.getElem?_nil, List.set_cons_zero, List.set_cons_succ, List.length_cons, List.length_nil, List.map_cons, List.map_nil, List.replicate, List.cons_append, List.nil_append, Nat.reduceAdd, Nat.reduceLT, Nat.lt_irrefl, if_true, if_false, Option.bind_some, Option.bind_none, Option.map_some, Option.map_none, and_self, and_true, true_and, ite_true, ite_false, List.cons.injEq, reduceCtorEq, not_true_eq_false, not_false_eq_true, ne_eq, Nat.reduceEqDiff, okKeyW, is_word_ok (hm x hx)]) (size_ok hl) rfl
theorem computed_notup {z : Str} {w : D} (h : (g_TAKES.lookup z).isSome = true) (hp : w.plain = true) (ht : w.isTuple = false) : fx_computed [.str z, w] dr = .exc "BadWords" dr := by
  unfold fx_computed m_computed
  have e : isaD (fun d => d.isTuple) w = some (.d (.bool false)) := by unfold isaD; rw [if_pos hp]; exact congrArg (fun b => some (Sl.d (PyData.bool b))) ht
  simp only [fxOf, runD, seqS, retS, retN, ifS, exprS, setS, setE, cD, vD, opd1, opd2, pkS, lift1, lift2, andD, orD, notD, boolD, ofD, boolT, notT, andT, orT, ifD, opdT, callD, callF, consA, nilA, tupD, lstD, Sl.val, nxS, bkS, ctS, raiseS, parS, par3S, asgS, gT, gsCons, gsNil, gN, drAt, drRest, drTurn, drCells, drMore, drPop, drPutS, Out.bind_ok, Out.bind_exc, Out.bind_bad, List.getElem?_cons_zero, List.getElem?_cons_succ, List.getElem?_nil, List.set_cons_zero, List.set_cons_succ, List.length_cons, List.length_nil, List.map_cons, List.map_nil, List.replicate, List.cons_append, List.nil_append, Nat.reduceAdd, Nat.reduceLT, Nat.lt_irrefl, if_true, if_false, Option.bind_some, Option.bind_none, Option.map_some, Option.map_none, and_self, and_true, true_and, ite_true, ite_false, List.cons.injEq, reduceCtorEq, not_true_eq_false, not_false_eq_true, ne_eq, Nat.reduceEqDiff, okKeyW, is_op_str, h, e, Bool.not_true, Bool.not_false, Bool.false_eq_true, if_false, if_true]
  try rfl
theorem computed_tup {z : Str} {ds : List D} {k : Nat} (h : g_TAKES.lookup z = some (.int k)) (hp : PyData.plainAll ds = true) (hl : ds.length ≤ 1000) : fx_computed [.str z, .tuple ds] dr = if ds.length = k ∧ ds.all isW = true then fx_result [.str z, .tuple ds] dr else .exc "BadWords" dr := by
  unfold fx_computed m_computed
  have e : isaD (fun d => d.isTuple) (.tuple ds) = some (.d (.bool true)) := by
    unfold isaD
    rw [if_pos (by rw [PyData.plain]; exact hp)]
    rfl
  have w := words_ok (dr := dr) (z := .str z) hp hl
  generalize lcD (itD (vD 1)) (gN 2) yesT (callD fx_is_word (consA (vD 2) nilA)) [2] = M0 at w
  have a : allD (.list (ds.map fun d => .bool (isW d))) = some (.d (.bool (ds.all isW))) := by
    unfold allD
    simp only [boolsOf_map, Option.map_some, List.all_map]
    rfl
  have g : getGD g_TAKES (.str z) = some (.d (.int k)) := by
    show (g_TAKES.lookup z).map Sl.d = _
    rw [h]
    rfl
  by_cases h1 : ds.length = k
  · have h1' : decide ((ds.length : Int) = (k : Int)) = true := decide_eq_true (by omega)
    by_cases h2 : ds.all isW = true
    · rw [if_pos (show ds.length = k ∧ ds.all isW = true from ⟨h1, h2⟩)]
      simp only [fxOf, runD, seqS, retS, retN, ifS, exprS, setS, setE, cD, vD, opd1, opd2, pkS, lift1, lift2, andD, orD, notD, boolD, ofD, boolT, notT, andT, orT, ifD, opdT, callD, callF, consA, nilA, tupD, lstD, Sl.val, nxS, bkS, ctS, raiseS, parS, par3S, asgS, gT, gsCons, gsNil, gN, drAt, drRest, drTurn, drCells, drMore, drPop, drPutS, Out.bind_ok, Out.bind_exc, Out.bind_bad, List.getElem?_cons_zero, List.getElem?_cons_succ, List.getElem?_nil, List.set_cons_zero, List.set_cons_succ, List.length_cons, List.length_nil, List.map_cons, List.map_nil, List.replicate, List.cons_append, List.nil_append, Nat.reduceAdd, Nat.reduceLT, Nat.lt_irrefl, if_true, if_false, Option.bind_some, Option.bind_none, Option.map_some, Option.map_none, and_self, and_true, true_and, ite_true, ite_false, List.cons.injEq, reduceCtorEq, not_true_eq_false, not_false_eq_true, ne_eq, Nat.reduceEqDiff, okKeyW, is_op_str, h, Option.isSome_some, e, lenD, g, neD_int, w, a, h1', h2, Bool.not_true, Bool.not_false, Bool.false_eq_true]
      cases fx_result [.str z, .tuple ds] dr <;> rfl
    · rw [if_neg (show ¬(ds.length = k ∧ ds.all isW = true) from fun q => h2 q.2)]
      have h2' : ds.all isW = false := by simpa using h2
      simp only [fxOf, runD, seqS, retS, retN, ifS, exprS, setS, setE, cD, vD, opd1, opd2, pkS, lift1, lift2, andD, orD, notD, boolD, ofD, boolT, notT, andT, orT, ifD, opdT, callD, callF, consA, nilA, tupD, lstD, Sl.val, nxS, bkS, ctS, raiseS, parS, par3S, asgS, gT, gsCons, gsNil, gN, drAt, drRest, drTurn, drCells, drMore, drPop, drPutS, Out.bind_ok, Out.bind_exc, Out.bind_bad, List.getElem?_cons_zero, List.getElem?_cons_succ, List.getElem?_nil, List.set_cons_zero, List.set_cons_succ, List.length_cons, List.length_nil, List.map_cons, List.map_nil, List.replicate, List.cons_append, List.nil_append, Nat.reduceAdd, Nat.reduceLT, Nat.lt_irrefl, if_true, if_false, Option.bind_some, Option.bind_none, Option.map_some, Option.map_none, and_self, and_true, true_and, ite_true, ite_false, List.cons.injEq, reduceCtorEq, not_true_eq_false, not_false_eq_true, ne_eq, Nat.reduceEqDiff, okKeyW, is_op_str, h, Option.isSome_some, e, lenD, g, neD_int, w, a, h1', h2', Bool.not_true, Bool.not_false, Bool.false_eq_true]
      try rfl
  · have h1' : decide ((ds.length : Int) = (k : Int)) = false := decide_eq_false (by omega)
    rw [if_neg (show ¬(ds.length = k ∧ ds.all isW = true) from fun q => h1 q.1)]
    simp only [fxOf, runD, seqS, retS, retN, ifS, exprS, setS, setE, cD, vD, opd1, opd2, pkS, lift1, lift2, andD, orD, notD, boolD, ofD, boolT, notT, andT, orT, ifD, opdT, callD, callF, consA, nilA, tupD, lstD, Sl.val, nxS, bkS, ctS, raiseS, parS, par3S, asgS, gT, gsCons, gsNil, gN, drAt, drRest, drTurn, drCells, drMore, drPop, drPutS, Out.bind_ok, Out.bind_exc, Out.bind_bad, List.getElem?_cons_zero, List.getElem?_cons_succ, List.getElem?_nil, List.set_cons_zero, List.set_cons_succ, List.length_cons, List.length_nil, List.map_cons, List.map_nil, List.replicate, List.cons_append, List.nil_append, Nat.reduceAdd, Nat.reduceLT, Nat.lt_irrefl, if_true, if_false, Option.bind_some, Option.bind_none, Option.map_some, Option.map_none, and_self, and_true, true_and, ite_true, ite_false, List.cons.injEq, reduceCtorEq, not_true_eq_false, not_false_eq_true, ne_eq, Nat.reduceEqDiff, okKeyW, is_op_str, h, Option.isSome_some, e, lenD, g, neD_int, w, a, h1', Bool.not_true, Bool.not_false, Bool.false_eq_true]
    try rfl
end Lw
end
section
set_option Elab.async false
set_option linter.all false
set_option maxRecDepth 100000
set_option maxHeartbeats 4000000
namespace Lw
open PySem PySem.Spec L2 Dy LamX
variable [Ph] {dr : Option Dr}
theorem inD_strs {o : Str} {ws : List Str} : inD (.str o) (.list (ws.map .str)) = some (.d (.bool (decide (o ∈ ws)))) := by
  unfold inD memD
  have hp : PyData.plainAll (ws.map .str) = true := by
    induction ws with
    | nil => rfl
    | cons w ws ih => rw [List.map_cons, PyData.plainAll, ih]; rfl
  simp only
  rw [if_pos ⟨hp, okD_str o⟩]
  have e : ((ws.map PyData.str).any fun y => PyData.eqv y (.str o)) = decide (o ∈ ws) := by
    rw [Bool.eq_iff_iff, List.any_map, List.any_eq_true, decide_eq_true_eq]
    constructor
    · rintro ⟨x, hx, e⟩
      have : x = o := by simpa [PyData.eqv] using e
      rw [← this]
      exact hx
    · intro h
      exact ⟨o, h, by simp [PyData.eqv]⟩
  rw [e]
  simp
theorem in_nc (o : Str) : inD (.str o) (.list [.str "num", .str "copy"]) = some (.d (.bool (decide (o ∈ (["num", "copy"] : List Str))))) := inD_strs (ws := ["num", "copy"])
theorem ix0 (x : D) (xs : List D) : ixD (.tuple (x :: xs)) (.int 0) = some (.d x) := by
  show Option.map Sl.d (L2.atI (x :: xs) ((0 : Nat) : Int)) = _
  rw [L2.atI_nat (j := 0) (v := x) rfl]
  rfl
theorem ix1 (x y : D) (xs : List D) : ixD (.tuple (x :: y :: xs)) (.int 1) = some (.d y) := by
  show Option.map Sl.d (L2.atI (x :: y :: xs) ((1 : Nat) : Int)) = _
  rw [L2.atI_nat (j := 1) (v := y) rfl]
  rfl
def ops1 : List Str := ["num", "copy"]
def ops3 : List Str := ["add", "sub", "mul"]
def val (z : Str) (a b : Int) : Int := if z = "add" then fo (a + b) else if z = "sub" then fo (a - b) else if z = "mul" then fo (a * b) else if z = "less" then (if a < b then 1 else 0) else (if a = b then 1 else 0)
theorem result1 {z : Str} {a : Int} (h : z = "num" ∨ z = "copy") : fx_result [.str z, .tuple [.int a]] dr = .ok (.int a) dr := by
  unfold fx_result m_result
  rcases h with rfl | rfl <;> simp (decide := true) only [fxOf, runD, seqS, retS, retN, ifS, exprS, setS, setE, cD, vD, opd1, opd2, pkS, lift1, lift2, andD, orD, notD, boolD, ofD, boolT, notT, andT, orT, ifD, opdT, callD, callF, consA, nilA, tupD, lstD, Sl.val, nxS, bkS, ctS, raiseS, parS, par3S, asgS, gT, gsCons, gsNil, gN, drAt, drRest, drTurn, drCells, drMore, drPop, drPutS, Out.bind_ok, Out.bind_exc, Out.bind_bad, List.getElem?_cons_zero, List.getElem?_cons_succ, List.getElem?_nil, List.set_cons_zero, List.set_cons_succ, List.length_cons, List.length_nil, List.map_cons, List.map_nil, List.replicate, List.cons_append, List.nil_append, Nat.reduceAdd, Nat.reduceLT, Nat.lt_irrefl, if_true, if_false, Option.bind_some, Option.bind_none, Option.map_some, Option.map_none, and_self, and_true, true_and, ite_true, ite_false, List.cons.injEq, reduceCtorEq, not_true_eq_false, not_false_eq_true, ne_eq, Nat.reduceEqDiff, okKeyW, eqD_str, ix0, decide_true, decide_false, Bool.false_eq_true]
theorem small2 {a b : Int} (ha : -2147483648 ≤ a ∧ a ≤ 2147483647) (hb : -2147483648 ≤ b ∧ b ≤ 2147483647) : mulD (.int a) (.int b) = some (.d (.int (a * b))) := by
  refine mulD_int ?_
  have := log2_le (n := a.natAbs) (k := 32) (by omega)
  have := log2_le (n := b.natAbs) (k := 32) (by omega)
  omega
theorem result2 {z : Str} {a b : Int} (h : z = "add" ∨ z = "sub" ∨ z = "mul" ∨ z = "less" ∨ z = "same") (ha : -2147483648 ≤ a ∧ a ≤ 2147483647) (hb : -2147483648 ≤ b ∧ b ≤ 2147483647) : fx_result [.str z, .tuple [.int a, .int b]] dr = .ok (.int (val z a b)) dr := by
  unfold fx_result m_result
  have l : ltD (.int a) (.int b) = some (.d (.bool (decide (a < b)))) := rfl
  rcases h with rfl | rfl | rfl | rfl | rfl
  · simp (decide := true) only [fxOf, runD, seqS, retS, retN, ifS, exprS, setS, setE, cD, vD, opd1, opd2, pkS, lift1, lift2, andD, orD, notD, boolD, ofD, boolT, notT, andT, orT, ifD, opdT, callD, callF, consA, nilA, tupD, lstD, Sl.val, nxS, bkS, ctS, raiseS, parS, par3S, asgS, gT, gsCons, gsNil, gN, drAt, drRest, drTurn, drCells, drMore, drPop, drPutS, Out.bind_ok, Out.bind_exc, Out.bind_bad, List.getElem?_cons_zero, List.getElem?_cons_succ, List.getElem?_nil, List.set_cons_zero, List.set_cons_succ, List.length_cons, List.length_nil, List.map_cons, List.map_nil, List.replicate, List.cons_append, List.nil_append, Nat.reduceAdd, Nat.reduceLT, Nat.lt_irrefl, if_true, if_false, Option.bind_some, Option.bind_none, Option.map_some, Option.map_none, and_self, and_true, true_and, ite_true, ite_false, List.cons.injEq, reduceCtorEq, not_true_eq_false, not_false_eq_true, ne_eq, Nat.reduceEqDiff, okKeyW, eqD_str, ix0, decide_true, decide_false, Bool.false_eq_true, wrapped_ok, addD_int, val]
  · simp (decide := true) only [fxOf, runD, seqS, retS, retN, ifS, exprS, setS, setE, cD, vD, opd1, opd2, pkS, lift1, lift2, andD, orD, notD, boolD, ofD, boolT, notT, andT, orT, ifD, opdT, callD, callF, consA, nilA, tupD, lstD, Sl.val, nxS, bkS, ctS, raiseS, parS, par3S, asgS, gT, gsCons, gsNil, gN, drAt, drRest, drTurn, drCells, drMore, drPop, drPutS, Out.bind_ok, Out.bind_exc, Out.bind_bad, List.getElem?_cons_zero, List.getElem?_cons_succ, List.getElem?_nil, List.set_cons_zero, List.set_cons_succ, List.length_cons, List.length_nil, List.map_cons, List.map_nil, List.replicate, List.cons_append, List.nil_append, Nat.reduceAdd, Nat.reduceLT, Nat.lt_irrefl, if_true, if_false, Option.bind_some, Option.bind_none, Option.map_some, Option.map_none, and_self, and_true, true_and, ite_true, ite_false, List.cons.injEq, reduceCtorEq, not_true_eq_false, not_false_eq_true, ne_eq, Nat.reduceEqDiff, okKeyW, eqD_str, ix0, decide_true, decide_false, Bool.false_eq_true, wrapped_ok, subD_int, val]
  · simp (decide := true) only [fxOf, runD, seqS, retS, retN, ifS, exprS, setS, setE, cD, vD, opd1, opd2, pkS, lift1, lift2, andD, orD, notD, boolD, ofD, boolT, notT, andT, orT, ifD, opdT, callD, callF, consA, nilA, tupD, lstD, Sl.val, nxS, bkS, ctS, raiseS, parS, par3S, asgS, gT, gsCons, gsNil, gN, drAt, drRest, drTurn, drCells, drMore, drPop, drPutS, Out.bind_ok, Out.bind_exc, Out.bind_bad, List.getElem?_cons_zero, List.getElem?_cons_succ, List.getElem?_nil, List.set_cons_zero, List.set_cons_succ, List.length_cons, List.length_nil, List.map_cons, List.map_nil, List.replicate, List.cons_append, List.nil_append, Nat.reduceAdd, Nat.reduceLT, Nat.lt_irrefl, if_true, if_false, Option.bind_some, Option.bind_none, Option.map_some, Option.map_none, and_self, and_true, true_and, ite_true, ite_false, List.cons.injEq, reduceCtorEq, not_true_eq_false, not_false_eq_true, ne_eq, Nat.reduceEqDiff, okKeyW, eqD_str, ix0, decide_true, decide_false, Bool.false_eq_true, wrapped_ok, small2 ha hb, val]
  · by_cases c : a < b <;> simp (decide := true) only [fxOf, runD, seqS, retS, retN, ifS, exprS, setS, setE, cD, vD, opd1, opd2, pkS, lift1, lift2, andD, orD, notD, boolD, ofD, boolT, notT, andT, orT, ifD, opdT, callD, callF, consA, nilA, tupD, lstD, Sl.val, nxS, bkS, ctS, raiseS, parS, par3S, asgS, gT, gsCons, gsNil, gN, drAt, drRest, drTurn, drCells, drMore, drPop, drPutS, Out.bind_ok, Out.bind_exc, Out.bind_bad, List.getElem?_cons_zero, List.getElem?_cons_succ, List.getElem?_nil, List.set_cons_zero, List.set_cons_succ, List.length_cons, List.length_nil, List.map_cons, List.map_nil, List.replicate, List.cons_append, List.nil_append, Nat.reduceAdd, Nat.reduceLT, Nat.lt_irrefl, if_true, if_false, Option.bind_some, Option.bind_none, Option.map_some, Option.map_none, and_self, and_true, true_and, ite_true, ite_false, List.cons.injEq, reduceCtorEq, not_true_eq_false, not_false_eq_true, ne_eq, Nat.reduceEqDiff, okKeyW, eqD_str, ix0, decide_true, decide_false, Bool.false_eq_true, l, c, val]
  · by_cases c : a = b <;> simp (decide := true) only [fxOf, runD, seqS, retS, retN, ifS, exprS, setS, setE, cD, vD, opd1, opd2, pkS, lift1, lift2, andD, orD, notD, boolD, ofD, boolT, notT, andT, orT, ifD, opdT, callD, callF, consA, nilA, tupD, lstD, Sl.val, nxS, bkS, ctS, raiseS, parS, par3S, asgS, gT, gsCons, gsNil, gN, drAt, drRest, drTurn, drCells, drMore, drPop, drPutS, Out.bind_ok, Out.bind_exc, Out.bind_bad, List.getElem?_cons_zero, List.getElem?_cons_succ, List.getElem?_nil, List.set_cons_zero, List.set_cons_succ, List.length_cons, List.length_nil, List.map_cons, List.map_nil, List.replicate, List.cons_append, List.nil_append, Nat.reduceAdd, Nat.reduceLT, Nat.lt_irrefl, if_true, if_false, Option.bind_some, Option.bind_none, Option.map_some, Option.map_none, and_self, and_true, true_and, ite_true, ite_false, List.cons.injEq, reduceCtorEq, not_true_eq_false, not_false_eq_true, ne_eq, Nat.reduceEqDiff, okKeyW, eqD_str, eqD_int, ix0, decide_true, decide_false, Bool.false_eq_true, l, c, val]
theorem worth1 {z : Str} {a : Int} (h : z = "num" ∨ z = "copy") : fx__law_worth [.str z, .tuple [.int a]] dr = .ok (.int a) dr := by
  unfold fx__law_worth m__law_worth
  rcases h with rfl | rfl <;> simp (decide := true) only [fxOf, runD, seqS, retS, retN, ifS, exprS, setS, setE, cD, vD, opd1, opd2, pkS, lift1, lift2, andD, orD, notD, boolD, ofD, boolT, notT, andT, orT, ifD, opdT, callD, callF, consA, nilA, tupD, lstD, Sl.val, nxS, bkS, ctS, raiseS, parS, par3S, asgS, gT, gsCons, gsNil, gN, drAt, drRest, drTurn, drCells, drMore, drPop, drPutS, Out.bind_ok, Out.bind_exc, Out.bind_bad, List.getElem?_cons_zero, List.getElem?_cons_succ, List.getElem?_nil, List.set_cons_zero, List.set_cons_succ, List.length_cons, List.length_nil, List.map_cons, List.map_nil, List.replicate, List.cons_append, List.nil_append, Nat.reduceAdd, Nat.reduceLT, Nat.lt_irrefl, if_true, if_false, Option.bind_some, Option.bind_none, Option.map_some, Option.map_none, and_self, and_true, true_and, ite_true, ite_false, List.cons.injEq, reduceCtorEq, not_true_eq_false, not_false_eq_true, ne_eq, Nat.reduceEqDiff, okKeyW, in_nc, if_pos (size_ok (show 0 + 1 + 1 ≤ 1000 by decide)), if_pos (size_ok (show 2 ≤ 1000 by decide)), eqD_str, ix0, decide_true, decide_false, Bool.false_eq_true]
theorem disp_get (x y w : D) : dgetD (.dict (mergeD [(.inr "add", x), (.inr "sub", y), (.inr "mul", w)])) (.str "add") = some (.d x) ∧ dgetD (.dict (mergeD [(.inr "add", x), (.inr "sub", y), (.inr "mul", w)])) (.str "sub") = some (.d y) ∧ dgetD (.dict (mergeD [(.inr "add", x), (.inr "sub", y), (.inr "mul", w)])) (.str "mul") = some (.d w) := ⟨rfl, rfl, rfl⟩
theorem worth2 {z : Str} {a b : Int} (h : z = "add" ∨ z = "sub" ∨ z = "mul" ∨ z = "less" ∨ z = "same") (ha : -2147483648 ≤ a ∧ a ≤ 2147483647) (hb : -2147483648 ≤ b ∧ b ≤ 2147483647) : fx__law_worth [.str z, .tuple [.int a, .int b]] dr = .ok (.int (val z a b)) dr := by
  unfold fx__law_worth m__law_worth
  have l : ltD (.int a) (.int b) = some (.d (.bool (decide (a < b)))) := rfl
  have tb : ∀ c : Bool, toIntD (.bool c) = some (.d (.int (if c = true then 1 else 0))) := fun c => by cases c <;> rfl
  obtain ⟨g1, g2, g3⟩ := disp_get (.int (a + b)) (.int (a - b)) (.int (a * b))
  have k1 : keyOf (.str "add") = some (.inr "add") := rfl
  have k2 : keyOf (.str "sub") = some (.inr "sub") := rfl
  have k3 : keyOf (.str "mul") = some (.inr "mul") := rfl
  have kd (d : D) (z : Str) : keyOf (.str z) = some (.inr z) := rfl
  rcases h with rfl | rfl | rfl | rfl | rfl
  · simp (decide := true) only [fxOf, runD, seqS, retS, retN, ifS, exprS, setS, setE, cD, vD, opd1, opd2, pkS, lift1, lift2, andD, orD, notD, boolD, ofD, boolT, notT, andT, orT, ifD, opdT, callD, callF, consA, nilA, tupD, lstD, Sl.val, nxS, bkS, ctS, raiseS, parS, par3S, asgS, gT, gsCons, gsNil, gN, drAt, drRest, drTurn, drCells, drMore, drPop, drPutS, Out.bind_ok, Out.bind_exc, Out.bind_bad, List.getElem?_cons_zero, List.getElem?_cons_succ, List.getElem?_nil, List.set_cons_zero, List.set_cons_succ, List.length_cons, List.length_nil, List.map_cons, List.map_nil, List.replicate, List.cons_append, List.nil_append, Nat.reduceAdd, Nat.reduceLT, Nat.lt_irrefl, if_true, if_false, Option.bind_some, Option.bind_none, Option.map_some, Option.map_none, and_self, and_true, true_and, ite_true, ite_false, List.cons.injEq, reduceCtorEq, not_true_eq_false, not_false_eq_true, ne_eq, Nat.reduceEqDiff, okKeyW, in_nc, if_pos (size_ok (show 0 + 1 + 1 ≤ 1000 by decide)), if_pos (size_ok (show 2 ≤ 1000 by decide)), eqD_str, ix0, ix1, decide_true, decide_false, Bool.false_eq_true, dispD, dpairs, k1, k2, k3, g1, folded_ok, addD_int, subD_int, small2 ha hb, val]
  · simp (decide := true) only [fxOf, runD, seqS, retS, retN, ifS, exprS, setS, setE, cD, vD, opd1, opd2, pkS, lift1, lift2, andD, orD, notD, boolD, ofD, boolT, notT, andT, orT, ifD, opdT, callD, callF, consA, nilA, tupD, lstD, Sl.val, nxS, bkS, ctS, raiseS, parS, par3S, asgS, gT, gsCons, gsNil, gN, drAt, drRest, drTurn, drCells, drMore, drPop, drPutS, Out.bind_ok, Out.bind_exc, Out.bind_bad, List.getElem?_cons_zero, List.getElem?_cons_succ, List.getElem?_nil, List.set_cons_zero, List.set_cons_succ, List.length_cons, List.length_nil, List.map_cons, List.map_nil, List.replicate, List.cons_append, List.nil_append, Nat.reduceAdd, Nat.reduceLT, Nat.lt_irrefl, if_true, if_false, Option.bind_some, Option.bind_none, Option.map_some, Option.map_none, and_self, and_true, true_and, ite_true, ite_false, List.cons.injEq, reduceCtorEq, not_true_eq_false, not_false_eq_true, ne_eq, Nat.reduceEqDiff, okKeyW, in_nc, if_pos (size_ok (show 0 + 1 + 1 ≤ 1000 by decide)), if_pos (size_ok (show 2 ≤ 1000 by decide)), eqD_str, ix0, ix1, decide_true, decide_false, Bool.false_eq_true, dispD, dpairs, k1, k2, k3, g2, folded_ok, addD_int, subD_int, small2 ha hb, val]
  · simp (decide := true) only [fxOf, runD, seqS, retS, retN, ifS, exprS, setS, setE, cD, vD, opd1, opd2, pkS, lift1, lift2, andD, orD, notD, boolD, ofD, boolT, notT, andT, orT, ifD, opdT, callD, callF, consA, nilA, tupD, lstD, Sl.val, nxS, bkS, ctS, raiseS, parS, par3S, asgS, gT, gsCons, gsNil, gN, drAt, drRest, drTurn, drCells, drMore, drPop, drPutS, Out.bind_ok, Out.bind_exc, Out.bind_bad, List.getElem?_cons_zero, List.getElem?_cons_succ, List.getElem?_nil, List.set_cons_zero, List.set_cons_succ, List.length_cons, List.length_nil, List.map_cons, List.map_nil, List.replicate, List.cons_append, List.nil_append, Nat.reduceAdd, Nat.reduceLT, Nat.lt_irrefl, if_true, if_false, Option.bind_some, Option.bind_none, Option.map_some, Option.map_none, and_self, and_true, true_and, ite_true, ite_false, List.cons.injEq, reduceCtorEq, not_true_eq_false, not_false_eq_true, ne_eq, Nat.reduceEqDiff, okKeyW, in_nc, if_pos (size_ok (show 0 + 1 + 1 ≤ 1000 by decide)), if_pos (size_ok (show 2 ≤ 1000 by decide)), eqD_str, ix0, ix1, decide_true, decide_false, Bool.false_eq_true, dispD, dpairs, k1, k2, k3, g3, folded_ok, addD_int, subD_int, small2 ha hb, val]
  · by_cases c : a < b <;> simp (decide := true) only [fxOf, runD, seqS, retS, retN, ifS, exprS, setS, setE, cD, vD, opd1, opd2, pkS, lift1, lift2, andD, orD, notD, boolD, ofD, boolT, notT, andT, orT, ifD, opdT, callD, callF, consA, nilA, tupD, lstD, Sl.val, nxS, bkS, ctS, raiseS, parS, par3S, asgS, gT, gsCons, gsNil, gN, drAt, drRest, drTurn, drCells, drMore, drPop, drPutS, Out.bind_ok, Out.bind_exc, Out.bind_bad, List.getElem?_cons_zero, List.getElem?_cons_succ, List.getElem?_nil, List.set_cons_zero, List.set_cons_succ, List.length_cons, List.length_nil, List.map_cons, List.map_nil, List.replicate, List.cons_append, List.nil_append, Nat.reduceAdd, Nat.reduceLT, Nat.lt_irrefl, if_true, if_false, Option.bind_some, Option.bind_none, Option.map_some, Option.map_none, and_self, and_true, true_and, ite_true, ite_false, List.cons.injEq, reduceCtorEq, not_true_eq_false, not_false_eq_true, ne_eq, Nat.reduceEqDiff, okKeyW, in_nc, if_pos (size_ok (show 0 + 1 + 1 ≤ 1000 by decide)), if_pos (size_ok (show 2 ≤ 1000 by decide)), eqD_str, ix0, ix1, decide_true, decide_false, Bool.false_eq_true, l, tb, c, val]
  · by_cases c : a = b <;> simp (decide := true) only [fxOf, runD, seqS, retS, retN, ifS, exprS, setS, setE, cD, vD, opd1, opd2, pkS, lift1, lift2, andD, orD, notD, boolD, ofD, boolT, notT, andT, orT, ifD, opdT, callD, callF, consA, nilA, tupD, lstD, Sl.val, nxS, bkS, ctS, raiseS, parS, par3S, asgS, gT, gsCons, gsNil, gN, drAt, drRest, drTurn, drCells, drMore, drPop, drPutS, Out.bind_ok, Out.bind_exc, Out.bind_bad, List.getElem?_cons_zero, List.getElem?_cons_succ, List.getElem?_nil, List.set_cons_zero, List.set_cons_succ, List.length_cons, List.length_nil, List.map_cons, List.map_nil, List.replicate, List.cons_append, List.nil_append, Nat.reduceAdd, Nat.reduceLT, Nat.lt_irrefl, if_true, if_false, Option.bind_some, Option.bind_none, Option.map_some, Option.map_none, and_self, and_true, true_and, ite_true, ite_false, List.cons.injEq, reduceCtorEq, not_true_eq_false, not_false_eq_true, ne_eq, Nat.reduceEqDiff, okKeyW, in_nc, if_pos (size_ok (show 0 + 1 + 1 ≤ 1000 by decide)), if_pos (size_ok (show 2 ≤ 1000 by decide)), eqD_str, eqD_int, ix0, ix1, decide_true, decide_false, Bool.false_eq_true, tb, c, val]
def isOp (z : Str) (k : Nat) : Prop := k = 1 ∧ (z = "num" ∨ z = "copy") ∨ k = 2 ∧ (z = "add" ∨ z = "sub" ∨ z = "mul" ∨ z = "less" ∨ z = "same")
theorem isOp.takes {z : Str} {k : Nat} (h : isOp z k) : g_TAKES.lookup z = some (.int k) := by
  rcases h with ⟨rfl, rfl | rfl⟩ | ⟨rfl, rfl | rfl | rfl | rfl | rfl⟩ <;> rfl
theorem isOp.some {z : Str} {k : Nat} (h : isOp z k) : (g_TAKES.lookup z).isSome = true := by
  rw [h.takes]
  rfl
theorem many_ok {z : Str} {k : Nat} (h : isOp z k) : fx__law_many_args [.str z] dr = .ok (.int k) dr := by
  unfold fx__law_many_args m__law_many_args
  rcases h with ⟨rfl, rfl | rfl⟩ | ⟨rfl, rfl | rfl | rfl | rfl | rfl⟩ <;> (simp (decide := true) only [fxOf, runD, seqS, retS, retN, ifS, exprS, setS, setE, cD, vD, opd1, opd2, pkS, lift1, lift2, andD, orD, notD, boolD, ofD, boolT, notT, andT, orT, ifD, opdT, callD, callF, consA, nilA, tupD, lstD, Sl.val, nxS, bkS, ctS, raiseS, parS, par3S, asgS, gT, gsCons, gsNil, gN, drAt, drRest, drTurn, drCells, drMore, drPop, drPutS, Out.bind_ok, Out.bind_exc, Out.bind_bad, List.getElem?_cons_zero, List.getElem?_cons_succ, List.getElem?_nil, List.set_cons_zero, List.set_cons_succ, List.length_cons, List.length_nil, List.map_cons, List.map_nil, List.replicate, List.cons_append, List.nil_append, Nat.reduceAdd, Nat.reduceLT, Nat.lt_irrefl, if_true, if_false, Option.bind_some, Option.bind_none, Option.map_some, Option.map_none, and_self, and_true, true_and, ite_true, ite_false, List.cons.injEq, reduceCtorEq, not_true_eq_false, not_false_eq_true, ne_eq, Nat.reduceEqDiff, okKeyW, in_nc, if_pos (size_ok (show 0 + 1 + 1 ≤ 1000 by decide)), if_pos (size_ok (show 2 ≤ 1000 by decide)), decide_true, decide_false, Bool.false_eq_true] <;> try rfl)
def opsD : List D := (["num", "copy", "add", "sub", "mul", "less", "same"] : List Str).map .str
theorem ops_ok : fx__law_ops [] dr = .ok (.list opsD) dr := by
  unfold fx__law_ops m__law_ops
  simp only [fxOf, runD, seqS, retS, retN, ifS, exprS, setS, setE, cD, vD, opd1, opd2, pkS, lift1, lift2, andD, orD, notD, boolD, ofD, boolT, notT, andT, orT, ifD, opdT, callD, callF, consA, nilA, tupD, lstD, Sl.val, nxS, bkS, ctS, raiseS, parS, par3S, asgS, gT, gsCons, gsNil, gN, drAt, drRest, drTurn, drCells, drMore, drPop, drPutS, Out.bind_ok, Out.bind_exc, Out.bind_bad, List.getElem?_cons_zero, List.getElem?_cons_succ, List.getElem?_nil, List.set_cons_zero, List.set_cons_succ, List.length_cons, List.length_nil, List.map_cons, List.map_nil, List.replicate, List.cons_append, List.nil_append, Nat.reduceAdd, Nat.reduceLT, Nat.lt_irrefl, if_true, if_false, Option.bind_some, Option.bind_none, Option.map_some, Option.map_none, and_self, and_true, true_and, ite_true, ite_false, List.cons.injEq, reduceCtorEq, not_true_eq_false, not_false_eq_true, ne_eq, Nat.reduceEqDiff, okKeyW, if_pos (size_ok (show 0 + 1 + 1 + 1 + 1 + 1 + 1 + 1 ≤ 1000 by decide)), if_pos (size_ok (show 7 ≤ 1000 by decide))]
  rfl
theorem ops_op {d : D} (h : d ∈ opsD) : ∃ z k, d = .str z ∧ isOp z k := by
  obtain ⟨z, hz, rfl⟩ := List.mem_map.mp h
  simp only [List.mem_cons, List.not_mem_nil, or_false] at hz
  rcases hz with rfl | rfl | rfl | rfl | rfl | rfl | rfl
  · exact ⟨_, 1, rfl, .inl ⟨rfl, .inl rfl⟩⟩
  · exact ⟨_, 1, rfl, .inl ⟨rfl, .inr rfl⟩⟩
  · exact ⟨_, 2, rfl, .inr ⟨rfl, .inl rfl⟩⟩
  · exact ⟨_, 2, rfl, .inr ⟨rfl, .inr (.inl rfl)⟩⟩
  · exact ⟨_, 2, rfl, .inr ⟨rfl, .inr (.inr (.inl rfl))⟩⟩
  · exact ⟨_, 2, rfl, .inr ⟨rfl, .inr (.inr (.inr (.inl rfl)))⟩⟩
  · exact ⟨_, 2, rfl, .inr ⟨rfl, .inr (.inr (.inr (.inr rfl)))⟩⟩
/-- a word -/
def IsW (i : Int) : Prop := -2147483648 ≤ i ∧ i ≤ 2147483647
theorem IsW.isW {i : Int} (h : IsW i) : isW (.int i) = true := by
  show (decide (i ≥ -2147483648) && decide (i ≤ 2147483647)) = true
  rw [decide_eq_true (show i ≥ -2147483648 from h.1), decide_eq_true h.2]
  rfl
theorem computed2 {z : Str} {a b : Int} (h : z = "add" ∨ z = "sub" ∨ z = "mul" ∨ z = "less" ∨ z = "same") (ha : IsW a) (hb : IsW b) : fx_computed [.str z, .tuple [.int a, .int b]] dr = .ok (.int (val z a b)) dr := by
  rw [computed_tup (ds := [.int a, .int b]) (k := 2) (isOp.takes (.inr ⟨rfl, h⟩)) rfl (show 2 ≤ 1000 by decide), if_pos (show [PyData.int a, PyData.int b].length = 2 ∧ [PyData.int a, PyData.int b].all Lw.isW = true from ⟨rfl, by simp only [List.all_cons, List.all_nil, ha.isW, hb.isW]; rfl⟩)]
  exact result2 h ha hb
theorem computed1 {z : Str} {a : Int} (h : z = "num" ∨ z = "copy") (ha : IsW a) : fx_computed [.str z, .tuple [.int a]] dr = .ok (.int a) dr := by
  rw [computed_tup (ds := [.int a]) (k := 1) (isOp.takes (.inl ⟨rfl, h⟩)) rfl (show 1 ≤ 1000 by decide), if_pos (show [PyData.int a].length = 1 ∧ [PyData.int a].all Lw.isW = true from ⟨rfl, by simp only [List.all_cons, List.all_nil, ha.isW]; rfl⟩)]
  exact result1 h
theorem val_w {z : Str} {a b : Int} : IsW (val z a b) := by
  unfold val IsW
  have h1 := fo_lo (a + b)
  have h2 := fo_lo (a - b)
  have h3 := fo_lo (a * b)
  repeat' split
  all_goals omega
theorem agree {z : Str} {k : Nat} (h : isOp z k) : ∀ {ws : List Int}, ws.length = k → (∀ i ∈ ws, IsW i) → ∃ v, IsW v ∧ ∀ dr, fx_computed [.str z, .tuple (ws.map .int)] dr = .ok (.int v) dr ∧ fx__law_worth [.str z, .tuple (ws.map .int)] dr = .ok (.int v) dr
  | [], e, _ => by rcases h with ⟨rfl, _⟩ | ⟨rfl, _⟩ <;> cases e
  | [a], e, hw => by
    rcases h with ⟨rfl, h⟩ | ⟨rfl, _⟩
    · have ha := hw a List.mem_cons_self
      exact ⟨a, ha, fun dr => ⟨computed1 h ha, worth1 h⟩⟩
    · cases e
  | [a, b], e, hw => by
    rcases h with ⟨rfl, _⟩ | ⟨rfl, h⟩
    · cases e
    · have ha := hw a List.mem_cons_self
      have hb := hw b (List.mem_cons_of_mem _ List.mem_cons_self)
      exact ⟨val z a b, val_w, fun dr => ⟨computed2 h ha hb, worth2 h ha hb⟩⟩
  | _ :: _ :: _ :: _, e, _ => by rcases h with ⟨rfl, _⟩ | ⟨rfl, _⟩ <;> cases e
end Lw
end
section
set_option Elab.async false
set_option linter.all false
set_option maxRecDepth 100000
set_option maxHeartbeats 4000000
/-! names and words that are drawn -/
namespace Lw
open PySem PySem.Spec L2 Dy LamX
variable [Ph] {dr : Option Dr} {n : Nat} {r : Dr}
theorem take_l {m : Int} (h : Dw (n + 1) r) (hm : 0 < m) (hm2 : m.natAbs.log2 < 9000 := by first | decide | omega) : ∃ v r', 0 ≤ v ∧ v < m ∧ Dw n r' ∧ fx__law_take [tok, .int m] (some r) = .ok (.int v) (some r') := take_ok h hm hm2
theorem pick_l {xs : List D} (h : Dw (n + 1) r) (hx : xs ≠ []) (hl : xs.length ≤ 1000000) : ∃ x ∈ xs, ∃ r', Dw n r' ∧ fx__law_pick [tok, .list xs] (some r) = .ok x (some r') := pick_ok h hx hl
theorem pick_s {z : Str} (h : Dw (n + 1) r) (hx : z.cps.toList ≠ []) (hl : z.length ≤ 1000000) : ∃ c ∈ z.cps.toList, ∃ r', Dw n r' ∧ fx__law_pick [tok, .str z] (some r) = .ok (.str ⟨#[c]⟩) (some r') := pick_okS h hx hl
theorem names_l {many : Nat} (h : Dw (n + 11 * many) r) (hm : many ≤ 26) : ∃ (ws : List Str) (r' : Dr), ws.length = many ∧ ws.Nodup ∧ (∀ w ∈ ws, IsNm w) ∧ Dw n r' ∧ fx__law_names [tok, .int (many : Nat)] (some r) = .ok (.list (ws.map .str)) (some r') := names_ok h hm
theorem same_l {d : D} (h : Sh d) : fx__law_same [d, d] dr = .ok (.bool true) dr := same_self h
theorem small2' {a b : Int} (ha : a.natAbs < 2 ^ 40) (hb : b.natAbs < 2 ^ 40) : mulD (.int a) (.int b) = some (.d (.int (a * b))) := by
  refine mulD_int ?_
  have := log2_le ha
  have := log2_le hb
  omega
theorem word_ok (h : Dw (n + 2) r) : ∃ i r', IsW i ∧ Dw n r' ∧ fx__law_word [tok] (some r) = .ok (.int i) (some r') := by
  obtain ⟨v, r1, v0, v1, w1, e1⟩ := take_l (m := 6) (n := n + 1) h (by decide)
  have l : ltD (.int v) (.int 3) = some (.d (.bool (decide (v < 3)))) := rfl
  by_cases c3 : v < 3
  · obtain ⟨u, r2, u0, u1, w2, e2⟩ := take_l (m := 7) (n := n) w1 (by decide)
    refine ⟨u - 3, r2, ⟨by omega, by omega⟩, w2, ?_⟩
    unfold fx__law_word m__law_word
    simp only [fxOf, runD, seqS, retS, retN, ifS, exprS, setS, setE, cD, vD, opd1, opd2, pkS, lift1, lift2, andD, orD, notD, boolD, ofD, boolT, notT, andT, orT, ifD, opdT, callD, callF, consA, nilA, tupD, lstD, Sl.val, nxS, bkS, ctS, raiseS, parS, par3S, asgS, gT, gsCons, gsNil, gN, drAt, drRest, drTurn, drCells, drMore, drPop, drPutS, Out.bind_ok, Out.bind_exc, Out.bind_bad, List.getElem?_cons_zero, List.getElem?_cons_succ, List.getElem?_nil, List.set_cons_zero, List.set_cons_succ, List.length_cons, List.length_nil, List.map_cons, List.map_nil, List.replicate, List.cons_append, List.nil_append, Nat.reduceAdd, Nat.reduceLT, Nat.lt_irrefl, if_true, if_false, Option.bind_some, Option.bind_none, Option.map_some, Option.map_none, and_self, and_true, true_and, ite_true, ite_false, List.cons.injEq, reduceCtorEq, not_true_eq_false, not_false_eq_true, ne_eq, Nat.reduceEqDiff, okKeyW, e1, l, c3, decide_true, e2, subD_int]
  · by_cases c4 : v = 3
    · obtain ⟨x, hx, r2, w2, e2⟩ := pick_l (n := n) (xs := ([0 - 2147483648, 2147483647, 0 - 2147483647, 65536, 65535, 46341, 0 - 46341, 1073741824, 2147483646] : List Int).map .int) w1 (by decide) (by decide)
      obtain ⟨i, hi, rfl⟩ := List.mem_map.mp hx
      refine ⟨i, r2, ?_, w2, ?_⟩
      · simp only [List.mem_cons, List.not_mem_nil, or_false] at hi
        unfold IsW
        omega
      · have e2' : fx__law_pick [tok, .list [.int (0 - 2147483648), .int 2147483647, .int (0 - 2147483647), .int 65536, .int 65535, .int 46341, .int (0 - 46341), .int 1073741824, .int 2147483646]] (some r1) = .ok (.int i) (some r2) := e2
        unfold fx__law_word m__law_word
        simp only [fxOf, runD, seqS, retS, retN, ifS, exprS, setS, setE, cD, vD, opd1, opd2, pkS, lift1, lift2, andD, orD, notD, boolD, ofD, boolT, notT, andT, orT, ifD, opdT, callD, callF, consA, nilA, tupD, lstD, Sl.val, nxS, bkS, ctS, raiseS, parS, par3S, asgS, gT, gsCons, gsNil, gN, drAt, drRest, drTurn, drCells, drMore, drPop, drPutS, Out.bind_ok, Out.bind_exc, Out.bind_bad, List.getElem?_cons_zero, List.getElem?_cons_succ, List.getElem?_nil, List.set_cons_zero, List.set_cons_succ, List.length_cons, List.length_nil, List.map_cons, List.map_nil, List.replicate, List.cons_append, List.nil_append, Nat.reduceAdd, Nat.reduceLT, Nat.lt_irrefl, if_true, if_false, Option.bind_some, Option.bind_none, Option.map_some, Option.map_none, and_self, and_true, true_and, ite_true, ite_false, List.cons.injEq, reduceCtorEq, not_true_eq_false, not_false_eq_true, ne_eq, Nat.reduceEqDiff, okKeyW, e1, l, c3, decide_false, decide_true, Bool.false_eq_true, eqD_int, show decide (v = 3) = true from decide_eq_true c4, subD_int, if_pos (size_ok (show 0 + 1 + 1 + 1 + 1 + 1 + 1 + 1 + 1 + 1 ≤ 1000 by decide)), if_pos (size_ok (show 9 ≤ 1000 by decide)), e2']
    · obtain ⟨u, r2, u0, u1, w2, e2⟩ := take_l (m := 4294967296) (n := n) w1 (by decide)
      refine ⟨u - 2147483648, r2, ⟨by omega, by omega⟩, w2, ?_⟩
      unfold fx__law_word m__law_word
      simp only [fxOf, runD, seqS, retS, retN, ifS, exprS, setS, setE, cD, vD, opd1, opd2, pkS, lift1, lift2, andD, orD, notD, boolD, ofD, boolT, notT, andT, orT, ifD, opdT, callD, callF, consA, nilA, tupD, lstD, Sl.val, nxS, bkS, ctS, raiseS, parS, par3S, asgS, gT, gsCons, gsNil, gN, drAt, drRest, drTurn, drCells, drMore, drPop, drPutS, Out.bind_ok, Out.bind_exc, Out.bind_bad, List.getElem?_cons_zero, List.getElem?_cons_succ, List.getElem?_nil, List.set_cons_zero, List.set_cons_succ, List.length_cons, List.length_nil, List.map_cons, List.map_nil, List.replicate, List.cons_append, List.nil_append, Nat.reduceAdd, Nat.reduceLT, Nat.lt_irrefl, if_true, if_false, Option.bind_some, Option.bind_none, Option.map_some, Option.map_none, and_self, and_true, true_and, ite_true, ite_false, List.cons.injEq, reduceCtorEq, not_true_eq_false, not_false_eq_true, ne_eq, Nat.reduceEqDiff, okKeyW, e1, l, c3, c4, decide_false, Bool.false_eq_true, eqD_int, e2, subD_int]
theorem number_ok (h : Dw (n + 3) r) : ∃ i r', i.natAbs < 2 ^ 200 ∧ Dw n r' ∧ fx__law_number [tok] (some r) = .ok (.int i) (some r') := by
  obtain ⟨v, r1, v0, v1, w1, e1⟩ := take_l (m := 4) (n := n + 2) h (by decide)
  by_cases c0 : v = 0
  · obtain ⟨i, r2, hi, w2, e2⟩ := word_ok (n := n) w1
    refine ⟨i, r2, ?_, w2, ?_⟩
    · have : i.natAbs ≤ 2147483648 := by unfold IsW at hi; omega
      exact Nat.lt_of_le_of_lt this (by decide)
    · unfold fx__law_number m__law_number
      simp only [fxOf, runD, seqS, retS, retN, ifS, exprS, setS, setE, cD, vD, opd1, opd2, pkS, lift1, lift2, andD, orD, notD, boolD, ofD, boolT, notT, andT, orT, ifD, opdT, callD, callF, consA, nilA, tupD, lstD, Sl.val, nxS, bkS, ctS, raiseS, parS, par3S, asgS, gT, gsCons, gsNil, gN, drAt, drRest, drTurn, drCells, drMore, drPop, drPutS, Out.bind_ok, Out.bind_exc, Out.bind_bad, List.getElem?_cons_zero, List.getElem?_cons_succ, List.getElem?_nil, List.set_cons_zero, List.set_cons_succ, List.length_cons, List.length_nil, List.map_cons, List.map_nil, List.replicate, List.cons_append, List.nil_append, Nat.reduceAdd, Nat.reduceLT, Nat.lt_irrefl, if_true, if_false, Option.bind_some, Option.bind_none, Option.map_some, Option.map_none, and_self, and_true, true_and, ite_true, ite_false, List.cons.injEq, reduceCtorEq, not_true_eq_false, not_false_eq_true, ne_eq, Nat.reduceEqDiff, okKeyW, e1, c0, eqD_int, decide_true, e2]
  · by_cases c1 : v = 1
    · obtain ⟨u, r2, u0, u1, w2, e2⟩ := take_l (m := 9) (n := n + 1) w1 (by decide)
      obtain ⟨t, r3, t0, t1, w3, e3⟩ := take_l (m := 5) (n := n) w2 (by decide)
      have hm : mulD (.int 2147483648) (.int (u - 4)) = some (.d (.int (2147483648 * (u - 4)))) := small2' (by decide) (by omega)
      refine ⟨2147483648 * (u - 4) + t - 2, r3, ?_, w3, ?_⟩
      · have : (2147483648 * (u - 4) + t - 2).natAbs ≤ 2147483648 * 10 := by omega
        exact Nat.lt_of_le_of_lt this (by decide)
      · unfold fx__law_number m__law_number
        simp only [fxOf, runD, seqS, retS, retN, ifS, exprS, setS, setE, cD, vD, opd1, opd2, pkS, lift1, lift2, andD, orD, notD, boolD, ofD, boolT, notT, andT, orT, ifD, opdT, callD, callF, consA, nilA, tupD, lstD, Sl.val, nxS, bkS, ctS, raiseS, parS, par3S, asgS, gT, gsCons, gsNil, gN, drAt, drRest, drTurn, drCells, drMore, drPop, drPutS, Out.bind_ok, Out.bind_exc, Out.bind_bad, List.getElem?_cons_zero, List.getElem?_cons_succ, List.getElem?_nil, List.set_cons_zero, List.set_cons_succ, List.length_cons, List.length_nil, List.map_cons, List.map_nil, List.replicate, List.cons_append, List.nil_append, Nat.reduceAdd, Nat.reduceLT, Nat.lt_irrefl, if_true, if_false, Option.bind_some, Option.bind_none, Option.map_some, Option.map_none, and_self, and_true, true_and, ite_true, ite_false, List.cons.injEq, reduceCtorEq, not_true_eq_false, not_false_eq_true, ne_eq, Nat.reduceEqDiff, okKeyW, e1, show decide (v = 0) = false from decide_eq_false c0, show decide (v = 1) = true from decide_eq_true c1, eqD_int, Bool.false_eq_true, e2, e3, subD_int, hm, addD_int]
    · have hp : powD (.int 10) (.int 40) = some (.d (.int (10 ^ 40))) := powD_int (by decide) (by decide) (by decide)
      obtain ⟨u, r2, u0, u1, w2, e2⟩ := take_l (m := 10 ^ 40) (n := n + 1) w1 (by decide)
      have b : (u + 1).natAbs < 2 ^ 150 := by
        have : (u + 1).natAbs ≤ 10 ^ 40 := by omega
        exact Nat.lt_of_le_of_lt this (by decide)
      have hm (k : Int) (hk : k = 1 ∨ k = -1) : mulD (.int (u + 1)) (.int k) = some (.d (.int ((u + 1) * k))) := by
        refine mulD_int ?_
        have := log2_le b
        have : k.natAbs.log2 ≤ 1 := log2_le (by rcases hk with rfl | rfl <;> decide)
        omega
      have b2 (k : Int) (hk : k = 1 ∨ k = -1) : ((u + 1) * k).natAbs < 2 ^ 200 := by
        have : ((u + 1) * k).natAbs = (u + 1).natAbs := by rcases hk with rfl | rfl <;> omega
        rw [this]
        exact Nat.lt_of_lt_of_le b (Nat.pow_le_pow_right (by decide) (by decide))
      by_cases c2 : v = 2
      · refine ⟨(u + 1) * 1, r2, b2 1 (.inl rfl), w2.mono (by omega), ?_⟩
        unfold fx__law_number m__law_number
        simp only [fxOf, runD, seqS, retS, retN, ifS, exprS, setS, setE, cD, vD, opd1, opd2, pkS, lift1, lift2, andD, orD, notD, boolD, ofD, boolT, notT, andT, orT, ifD, opdT, callD, callF, consA, nilA, tupD, lstD, Sl.val, nxS, bkS, ctS, raiseS, parS, par3S, asgS, gT, gsCons, gsNil, gN, drAt, drRest, drTurn, drCells, drMore, drPop, drPutS, Out.bind_ok, Out.bind_exc, Out.bind_bad, List.getElem?_cons_zero, List.getElem?_cons_succ, List.getElem?_nil, List.set_cons_zero, List.set_cons_succ, List.length_cons, List.length_nil, List.map_cons, List.map_nil, List.replicate, List.cons_append, List.nil_append, Nat.reduceAdd, Nat.reduceLT, Nat.lt_irrefl, if_true, if_false, Option.bind_some, Option.bind_none, Option.map_some, Option.map_none, and_self, and_true, true_and, ite_true, ite_false, List.cons.injEq, reduceCtorEq, not_true_eq_false, not_false_eq_true, ne_eq, Nat.reduceEqDiff, okKeyW, e1, show decide (v = 0) = false from decide_eq_false c0, show decide (v = 1) = false from decide_eq_false c1, show decide (v = 2) = true from decide_eq_true c2, eqD_int, decide_false, decide_true, Bool.false_eq_true, hp, e2, addD_int, hm 1 (.inl rfl)]
        try rfl
      · refine ⟨(u + 1) * (0 - 1), r2, b2 (0 - 1) (.inr rfl), w2.mono (by omega), ?_⟩
        unfold fx__law_number m__law_number
        simp only [fxOf, runD, seqS, retS, retN, ifS, exprS, setS, setE, cD, vD, opd1, opd2, pkS, lift1, lift2, andD, orD, notD, boolD, ofD, boolT, notT, andT, orT, ifD, opdT, callD, callF, consA, nilA, tupD, lstD, Sl.val, nxS, bkS, ctS, raiseS, parS, par3S, asgS, gT, gsCons, gsNil, gN, drAt, drRest, drTurn, drCells, drMore, drPop, drPutS, Out.bind_ok, Out.bind_exc, Out.bind_bad, List.getElem?_cons_zero, List.getElem?_cons_succ, List.getElem?_nil, List.set_cons_zero, List.set_cons_succ, List.length_cons, List.length_nil, List.map_cons, List.map_nil, List.replicate, List.cons_append, List.nil_append, Nat.reduceAdd, Nat.reduceLT, Nat.lt_irrefl, if_true, if_false, Option.bind_some, Option.bind_none, Option.map_some, Option.map_none, and_self, and_true, true_and, ite_true, ite_false, List.cons.injEq, reduceCtorEq, not_true_eq_false, not_false_eq_true, ne_eq, Nat.reduceEqDiff, okKeyW, e1, show decide (v = 0) = false from decide_eq_false c0, show decide (v = 1) = false from decide_eq_false c1, show decide (v = 2) = false from decide_eq_false c2, eqD_int, decide_false, decide_true, Bool.false_eq_true, hp, e2, addD_int, subD_int, hm (0 - 1) (.inr rfl)]
        try rfl
/-! ### names -/
theorem kept_ok : fx__law_kept [] dr = .ok (.list (keptL.map .str)) dr := by
  unfold fx__law_kept m__law_kept
  simp only [fxOf, runD, seqS, retS, retN, ifS, exprS, setS, setE, cD, vD, opd1, opd2, pkS, lift1, lift2, andD, orD, notD, boolD, ofD, boolT, notT, andT, orT, ifD, opdT, callD, callF, consA, nilA, tupD, lstD, Sl.val, nxS, bkS, ctS, raiseS, parS, par3S, asgS, gT, gsCons, gsNil, gN, drAt, drRest, drTurn, drCells, drMore, drPop, drPutS, Out.bind_ok, Out.bind_exc, Out.bind_bad, List.getElem?_cons_zero, List.getElem?_cons_succ, List.getElem?_nil, List.set_cons_zero, List.set_cons_succ, List.length_cons, List.length_nil, List.map_cons, List.map_nil, List.replicate, List.cons_append, List.nil_append, Nat.reduceAdd, Nat.reduceLT, Nat.lt_irrefl, if_true, if_false, Option.bind_some, Option.bind_none, Option.map_some, Option.map_none, and_self, and_true, true_and, ite_true, ite_false, List.cons.injEq, reduceCtorEq, not_true_eq_false, not_false_eq_true, ne_eq, Nat.reduceEqDiff, okKeyW, if_pos (size_ok (show 0 + 1 + 1 + 1 + 1 + 1 + 1 + 1 + 1 + 1 + 1 + 1 + 1 + 1 + 1 ≤ 1000 by decide)), if_pos (size_ok (show 14 ≤ 1000 by decide)), if_pos (size_ok (show 0 + 1 + 1 + 1 + 1 + 1 + 1 + 1 + 1 ≤ 1000 by decide)), if_pos (size_ok (show 8 ≤ 1000 by decide)), addD, if_pos (size_ok (show 14 + 8 ≤ 1000 by decide)), if_pos (size_ok (show 0 + 1 + 1 + 1 + 1 + 1 + 1 + 1 + 1 + 1 + 1 + 1 + 1 + 1 + 1 + (0 + 1 + 1 + 1 + 1 + 1 + 1 + 1 + 1) ≤ 1000 by decide)), if_pos (size_ok (show 22 ≤ 1000 by decide))]
  try rfl
theorem letters_mem (c : Nat) : decide (c ∈ tl sgS) = (decide (97 ≤ c) && decide (c ≤ 122)) := by
  rw [Bool.eq_iff_iff]
  simp only [decide_eq_true_eq, Bool.and_eq_true]
  constructor
  · exact sg_mem
  · intro h
    rw [sg_tl, List.mem_range']
    exact ⟨c - 97, by omega, by omega⟩
theorem in_sign (c : Nat) : inD (.str ⟨#[c]⟩) (.str "abcdefghijklmnopqrstuvwxyz") = some (.d (.bool (decide (97 ≤ c) && decide (c ≤ 122)))) := by
  rw [← letters_mem]
  rfl
theorem notIn_sign (c : Nat) : notInD (.str ⟨#[c]⟩) (.str "abcdefghijklmnopqrstuvwxyz") = some (.d (.bool (!(decide (97 ≤ c) && decide (c ≤ 122))))) := by
  rw [← letters_mem]
  rfl
theorem inT_strs {o : Str} {ws : List Str} : inD (.str o) (.tuple (ws.map .str)) = some (.d (.bool (decide (o ∈ ws)))) := inD_strs (o := o) (ws := ws)
def sgn (d : D) : Bool := match d with
  | .str z => match z.cps.toList with
    | [c] => decide (97 ≤ c) && decide (c ≤ 122)
    | _ => false
  | _ => false
theorem chars_all (z : Str) : (charsD z).all sgn = lets z := by
  unfold charsD lets
  rw [List.all_map]
  rfl
theorem charsD_len (z : Str) : (charsD z).length = z.length := by simp [charsD, Str.length]
theorem len_str {z : Str} (h : z.length ≤ 1000) : lenD (.str z) = some (.d (.int z.length)) := by
  unfold lenD
  exact if_pos (size_ok h)
theorem is_name_ok {z : Str} (h : z.length ≤ 1000) : fx_is_name [.str z] dr = .ok (.bool (nmB z)) dr := by
  have l1 (i j : Int) : ltD (.int i) (.int j) = some (.d (.bool (decide (i < j)))) := rfl
  have l2 (i j : Int) : gtD (.int i) (.int j) = some (.d (.bool (decide (i > j)))) := rfl
  have es : isaD (fun d => d.isStr) (.str z) = some (.d (.bool true)) := rfl
  have c : lcD (itD (vD 0)) (gN 1) yesT b_is_name_1 [1] ⟨[.d (.str z), .u], dr⟩ = .ok (.o (.list ((charsD z).map fun d => .bool (sgn d)))) ⟨[.d (.str z), .u], dr⟩ := by
    refine lcD_map (g := gN 1) (me := b_is_name_1) (vs := [1]) (mi := itD (vD 0)) (s := ⟨[.d (.str z), .u], dr⟩) (s1 := ⟨[.d (.str z), .u], dr⟩) (items := charsD z) (fun d => .bool (sgn d)) rfl (fun x hx => ?_) (by rw [charsD_len]; exact size_ok h) rfl
    obtain ⟨ch, _, rfl⟩ := List.mem_map.mp hx
    refine ⟨⟨[.d (.str z), .d (.str ⟨#[ch]⟩)], dr⟩, rfl, ⟨.d (.bool (decide (97 ≤ ch) && decide (ch ≤ 122))), ?_, rfl⟩, rfl⟩
    unfold b_is_name_1
    simp only [fxOf, runD, seqS, retS, retN, ifS, exprS, setS, setE, cD, vD, opd1, opd2, pkS, lift1, lift2, andD, orD, notD, boolD, ofD, boolT, notT, andT, orT, ifD, opdT, callD, callF, consA, nilA, tupD, lstD, Sl.val, nxS, bkS, ctS, raiseS, parS, par3S, asgS, gT, gsCons, gsNil, gN, drAt, drRest, drTurn, drCells, drMore, drPop, drPutS, Out.bind_ok, Out.bind_exc, Out.bind_bad, List.getElem?_cons_zero, List.getElem?_cons_succ, List.getElem?_nil, List.set_cons_zero, List.set_cons_succ, List.length_cons, List.length_nil, List.map_cons, List.map_nil, List.replicate, List.cons_append, List.nil_append, Nat.reduceAdd, Nat.reduceLT, Nat.lt_irrefl, if_true, if_false, Option.bind_some, Option.bind_none, Option.map_some, Option.map_none, and_self, and_true, true_and, ite_true, ite_false, List.cons.injEq, reduceCtorEq, not_true_eq_false, not_false_eq_true, ne_eq, Nat.reduceEqDiff, okKeyW, in_sign]
  have a : allD (.list ((charsD z).map fun d => .bool (sgn d))) = some (.d (.bool (lets z))) := by
    unfold allD
    simp only [boolsOf_map, Option.map_some, List.all_map]
    rw [← chars_all]
    rfl
  have hk : (!keptL.contains z) = !decide (z ∈ g_KEPT) := by rw [List.contains_eq_mem]; rfl
  unfold fx_is_name m_is_name
  generalize lcD (itD (vD 0)) (gN 1) yesT b_is_name_1 [1] = M0 at c
  have e1 : nmB z = (decide (1 ≤ z.length) && decide (z.length ≤ 8) && lets z && !decide (z ∈ g_KEPT)) := by
    unfold nmB
    rw [hk, ← tl_len]
  rw [e1]
  by_cases h1 : (z.length : Int) < 1
  · have : ¬ (1 ≤ z.length) := by omega
    simp only [fxOf, runD, seqS, retS, retN, ifS, exprS, setS, setE, cD, vD, opd1, opd2, pkS, lift1, lift2, andD, orD, notD, boolD, ofD, boolT, notT, andT, orT, ifD, opdT, callD, callF, consA, nilA, tupD, lstD, Sl.val, nxS, bkS, ctS, raiseS, parS, par3S, asgS, gT, gsCons, gsNil, gN, drAt, drRest, drTurn, drCells, drMore, drPop, drPutS, Out.bind_ok, Out.bind_exc, Out.bind_bad, List.getElem?_cons_zero, List.getElem?_cons_succ, List.getElem?_nil, List.set_cons_zero, List.set_cons_succ, List.length_cons, List.length_nil, List.map_cons, List.map_nil, List.replicate, List.cons_append, List.nil_append, Nat.reduceAdd, Nat.reduceLT, Nat.lt_irrefl, if_true, if_false, Option.bind_some, Option.bind_none, Option.map_some, Option.map_none, and_self, and_true, true_and, ite_true, ite_false, List.cons.injEq, reduceCtorEq, not_true_eq_false, not_false_eq_true, ne_eq, Nat.reduceEqDiff, okKeyW, es, len_str h, l1, h1, decide_true, decide_false, this, Bool.false_and, Bool.not_true, Bool.false_eq_true]
  · have g1 : 1 ≤ z.length := by omega
    by_cases h2 : (z.length : Int) > 8
    · have : ¬ (z.length ≤ 8) := by omega
      simp only [fxOf, runD, seqS, retS, retN, ifS, exprS, setS, setE, cD, vD, opd1, opd2, pkS, lift1, lift2, andD, orD, notD, boolD, ofD, boolT, notT, andT, orT, ifD, opdT, callD, callF, consA, nilA, tupD, lstD, Sl.val, nxS, bkS, ctS, raiseS, parS, par3S, asgS, gT, gsCons, gsNil, gN, drAt, drRest, drTurn, drCells, drMore, drPop, drPutS, Out.bind_ok, Out.bind_exc, Out.bind_bad, List.getElem?_cons_zero, List.getElem?_cons_succ, List.getElem?_nil, List.set_cons_zero, List.set_cons_succ, List.length_cons, List.length_nil, List.map_cons, List.map_nil, List.replicate, List.cons_append, List.nil_append, Nat.reduceAdd, Nat.reduceLT, Nat.lt_irrefl, if_true, if_false, Option.bind_some, Option.bind_none, Option.map_some, Option.map_none, and_self, and_true, true_and, ite_true, ite_false, List.cons.injEq, reduceCtorEq, not_true_eq_false, not_false_eq_true, ne_eq, Nat.reduceEqDiff, okKeyW, es, len_str h, l1, l2, h1, h2, g1, decide_true, decide_false, this, Bool.false_and, Bool.true_and, Bool.not_true, Bool.false_eq_true]
    · have g2 : z.length ≤ 8 := by omega
      by_cases h3 : z ∈ g_KEPT
      · simp only [fxOf, runD, seqS, retS, retN, ifS, exprS, setS, setE, cD, vD, opd1, opd2, pkS, lift1, lift2, andD, orD, notD, boolD, ofD, boolT, notT, andT, orT, ifD, opdT, callD, callF, consA, nilA, tupD, lstD, Sl.val, nxS, bkS, ctS, raiseS, parS, par3S, asgS, gT, gsCons, gsNil, gN, drAt, drRest, drTurn, drCells, drMore, drPop, drPutS, Out.bind_ok, Out.bind_exc, Out.bind_bad, List.getElem?_cons_zero, List.getElem?_cons_succ, List.getElem?_nil, List.set_cons_zero, List.set_cons_succ, List.length_cons, List.length_nil, List.map_cons, List.map_nil, List.replicate, List.cons_append, List.nil_append, Nat.reduceAdd, Nat.reduceLT, Nat.lt_irrefl, if_true, if_false, Option.bind_some, Option.bind_none, Option.map_some, Option.map_none, and_self, and_true, true_and, ite_true, ite_false, List.cons.injEq, reduceCtorEq, not_true_eq_false, not_false_eq_true, ne_eq, Nat.reduceEqDiff, okKeyW, es, len_str h, l1, l2, h1, h2, g1, g2, h3, inT_strs, decide_true, decide_false, Bool.false_and, Bool.true_and, Bool.and_false, Bool.not_true, Bool.false_eq_true]
      · simp only [fxOf, runD, seqS, retS, retN, ifS, exprS, setS, setE, cD, vD, opd1, opd2, pkS, lift1, lift2, andD, orD, notD, boolD, ofD, boolT, notT, andT, orT, ifD, opdT, callD, callF, consA, nilA, tupD, lstD, Sl.val, nxS, bkS, ctS, raiseS, parS, par3S, asgS, gT, gsCons, gsNil, gN, drAt, drRest, drTurn, drCells, drMore, drPop, drPutS, Out.bind_ok, Out.bind_exc, Out.bind_bad, List.getElem?_cons_zero, List.getElem?_cons_succ, List.getElem?_nil, List.set_cons_zero, List.set_cons_succ, List.length_cons, List.length_nil, List.map_cons, List.map_nil, List.replicate, List.cons_append, List.nil_append, Nat.reduceAdd, Nat.reduceLT, Nat.lt_irrefl, if_true, if_false, Option.bind_some, Option.bind_none, Option.map_some, Option.map_none, and_self, and_true, true_and, ite_true, ite_false, List.cons.injEq, reduceCtorEq, not_true_eq_false, not_false_eq_true, ne_eq, Nat.reduceEqDiff, okKeyW, es, len_str h, l1, l2, h1, h2, g1, g2, h3, inT_strs, decide_true, decide_false, Bool.false_and, Bool.true_and, Bool.and_true, Bool.not_true, Bool.not_false, Bool.false_eq_true, c, a]
theorem is_name_odd {d : D} (h : d.plain = true) (h2 : d.isStr = false) : fx_is_name [d] dr = .ok (.bool false) dr := by
  have es : isaD (fun d => d.isStr) d = some (.d (.bool false)) := by unfold isaD; rw [if_pos h]; exact congrArg (fun b => some (Sl.d (PyData.bool b))) h2
  unfold fx_is_name m_is_name
  simp only [fxOf, runD, seqS, retS, retN, ifS, exprS, setS, setE, cD, vD, opd1, opd2, pkS, lift1, lift2, andD, orD, notD, boolD, ofD, boolT, notT, andT, orT, ifD, opdT, callD, callF, consA, nilA, tupD, lstD, Sl.val, nxS, bkS, ctS, raiseS, parS, par3S, asgS, gT, gsCons, gsNil, gN, drAt, drRest, drTurn, drCells, drMore, drPop, drPutS, Out.bind_ok, Out.bind_exc, Out.bind_bad, List.getElem?_cons_zero, List.getElem?_cons_succ, List.getElem?_nil, List.set_cons_zero, List.set_cons_succ, List.length_cons, List.length_nil, List.map_cons, List.map_nil, List.replicate, List.cons_append, List.nil_append, Nat.reduceAdd, Nat.reduceLT, Nat.lt_irrefl, if_true, if_false, Option.bind_some, Option.bind_none, Option.map_some, Option.map_none, and_self, and_true, true_and, ite_true, ite_false, List.cons.injEq, reduceCtorEq, not_true_eq_false, not_false_eq_true, ne_eq, Nat.reduceEqDiff, okKeyW, es, Bool.not_false]
theorem strs_shOk {ws : List Str} {zs : List D} (h : ∀ d ∈ zs, ∃ c : Nat, d = .str ⟨#[c]⟩) : shOkD zs := fun d hd => by
  obtain ⟨c, rfl⟩ := h d hd
  exact ⟨rfl, by simp [PyData.depth]⟩
theorem law_is_name_ok {z : Str} (h : z.length ≤ 1000) : fx__law_is_name [.str z] dr = .ok (.bool (nmB z)) dr := by
  have l2 (i j : Int) : gtD (.int i) (.int j) = some (.d (.bool (decide (i > j)))) := rfl
  have es : isaD (fun d => d.isStr) (.str z) = some (.d (.bool true)) := rfl
  have c : lcD (itD (vD 0)) (gN 1) b__law_is_name_1 (vD 1) [1] ⟨[.d (.str z), .u], dr⟩ = .ok (.o (.list (((charsD z).filter fun d => !sgn d).map id))) ⟨[.d (.str z), .u], dr⟩ := by
    refine lcD_eq (g := gN 1) (t := b__law_is_name_1) (me := vD 1) (vs := [1]) (mi := itD (vD 0)) (s := ⟨[.d (.str z), .u], dr⟩) (s1 := ⟨[.d (.str z), .u], dr⟩) (items := charsD z) (fun d => !sgn d) id rfl (fun x hx => ?_) (by rw [charsD_len]; exact size_ok h) rfl
    obtain ⟨ch, _, rfl⟩ := List.mem_map.mp hx
    refine ⟨⟨[.d (.str z), .d (.str ⟨#[ch]⟩)], dr⟩, rfl, ?_, fun _ => ⟨_, rfl, rfl⟩, rfl⟩
    unfold b__law_is_name_1
    simp only [fxOf, runD, seqS, retS, retN, ifS, exprS, setS, setE, cD, vD, opd1, opd2, pkS, lift1, lift2, andD, orD, notD, boolD, ofD, boolT, notT, andT, orT, ifD, opdT, callD, callF, consA, nilA, tupD, lstD, Sl.val, nxS, bkS, ctS, raiseS, parS, par3S, asgS, gT, gsCons, gsNil, gN, drAt, drRest, drTurn, drCells, drMore, drPop, drPutS, Out.bind_ok, Out.bind_exc, Out.bind_bad, List.getElem?_cons_zero, List.getElem?_cons_succ, List.getElem?_nil, List.set_cons_zero, List.set_cons_succ, List.length_cons, List.length_nil, List.map_cons, List.map_nil, List.replicate, List.cons_append, List.nil_append, Nat.reduceAdd, Nat.reduceLT, Nat.lt_irrefl, if_true, if_false, Option.bind_some, Option.bind_none, Option.map_some, Option.map_none, and_self, and_true, true_and, ite_true, ite_false, List.cons.injEq, reduceCtorEq, not_true_eq_false, not_false_eq_true, ne_eq, Nat.reduceEqDiff, okKeyW, notIn_sign]
    rfl
  rw [List.map_id] at c
  have a : eqD (.list ((charsD z).filter fun d => !sgn d)) (.list []) = some (.d (.bool (lets z))) := by
    rw [eqD_nil]
    · rw [← chars_all]
      congr 3
      rw [Bool.eq_iff_iff, List.isEmpty_iff, List.filter_eq_nil_iff, List.all_eq_true]
      constructor
      · intro q x hx
        simpa using q x hx
      · intro q x hx
        simpa using q x hx
    · exact strs_shOk (ws := []) fun d hd => by
        obtain ⟨c, _, rfl⟩ := List.mem_map.mp (List.mem_filter.mp hd).1
        exact ⟨c, rfl⟩
  have hk : (!keptL.contains z) = !decide (z ∈ keptL) := by rw [List.contains_eq_mem]
  unfold fx__law_is_name m__law_is_name
  generalize lcD (itD (vD 0)) (gN 1) b__law_is_name_1 (vD 1) [1] = M0 at c
  have e1 : nmB z = (decide (1 ≤ z.length) && decide (z.length ≤ 8) && lets z && !decide (z ∈ keptL)) := by
    unfold nmB
    rw [hk, ← tl_len]
  rw [e1]
  by_cases h3 : z ∈ keptL
  · simp only [fxOf, runD, seqS, retS, retN, ifS, exprS, setS, setE, cD, vD, opd1, opd2, pkS, lift1, lift2, andD, orD, notD, boolD, ofD, boolT, notT, andT, orT, ifD, opdT, callD, callF, consA, nilA, tupD, lstD, Sl.val, nxS, bkS, ctS, raiseS, parS, par3S, asgS, gT, gsCons, gsNil, gN, drAt, drRest, drTurn, drCells, drMore, drPop, drPutS, Out.bind_ok, Out.bind_exc, Out.bind_bad, List.getElem?_cons_zero, List.getElem?_cons_succ, List.getElem?_nil, List.set_cons_zero, List.set_cons_succ, List.length_cons, List.length_nil, List.map_cons, List.map_nil, List.replicate, List.cons_append, List.nil_append, Nat.reduceAdd, Nat.reduceLT, Nat.lt_irrefl, if_true, if_false, Option.bind_some, Option.bind_none, Option.map_some, Option.map_none, and_self, and_true, true_and, ite_true, ite_false, List.cons.injEq, reduceCtorEq, not_true_eq_false, not_false_eq_true, ne_eq, Nat.reduceEqDiff, okKeyW, es, kept_ok, inD_strs, h3, decide_true, decide_false, Bool.not_true, Bool.and_false, Bool.false_eq_true]
  · by_cases h1 : (z.length : Int) = 0
    · have : ¬ (1 ≤ z.length) := by omega
      simp only [fxOf, runD, seqS, retS, retN, ifS, exprS, setS, setE, cD, vD, opd1, opd2, pkS, lift1, lift2, andD, orD, notD, boolD, ofD, boolT, notT, andT, orT, ifD, opdT, callD, callF, consA, nilA, tupD, lstD, Sl.val, nxS, bkS, ctS, raiseS, parS, par3S, asgS, gT, gsCons, gsNil, gN, drAt, drRest, drTurn, drCells, drMore, drPop, drPutS, Out.bind_ok, Out.bind_exc, Out.bind_bad, List.getElem?_cons_zero, List.getElem?_cons_succ, List.getElem?_nil, List.set_cons_zero, List.set_cons_succ, List.length_cons, List.length_nil, List.map_cons, List.map_nil, List.replicate, List.cons_append, List.nil_append, Nat.reduceAdd, Nat.reduceLT, Nat.lt_irrefl, if_true, if_false, Option.bind_some, Option.bind_none, Option.map_some, Option.map_none, and_self, and_true, true_and, ite_true, ite_false, List.cons.injEq, reduceCtorEq, not_true_eq_false, not_false_eq_true, ne_eq, Nat.reduceEqDiff, okKeyW, es, kept_ok, inD_strs, h3, len_str h, eqD_int, h1, decide_true, decide_false, this, Bool.false_and, Bool.not_true, Bool.false_eq_true]
    · have g1 : 1 ≤ z.length := by omega
      by_cases h2 : (z.length : Int) > 8
      · have : ¬ (z.length ≤ 8) := by omega
        simp only [fxOf, runD, seqS, retS, retN, ifS, exprS, setS, setE, cD, vD, opd1, opd2, pkS, lift1, lift2, andD, orD, notD, boolD, ofD, boolT, notT, andT, orT, ifD, opdT, callD, callF, consA, nilA, tupD, lstD, Sl.val, nxS, bkS, ctS, raiseS, parS, par3S, asgS, gT, gsCons, gsNil, gN, drAt, drRest, drTurn, drCells, drMore, drPop, drPutS, Out.bind_ok, Out.bind_exc, Out.bind_bad, List.getElem?_cons_zero, List.getElem?_cons_succ, List.getElem?_nil, List.set_cons_zero, List.set_cons_succ, List.length_cons, List.length_nil, List.map_cons, List.map_nil, List.replicate, List.cons_append, List.nil_append, Nat.reduceAdd, Nat.reduceLT, Nat.lt_irrefl, if_true, if_false, Option.bind_some, Option.bind_none, Option.map_some, Option.map_none, and_self, and_true, true_and, ite_true, ite_false, List.cons.injEq, reduceCtorEq, not_true_eq_false, not_false_eq_true, ne_eq, Nat.reduceEqDiff, okKeyW, es, kept_ok, inD_strs, h3, len_str h, eqD_int, l2, h1, h2, g1, decide_true, decide_false, this, Bool.false_and, Bool.true_and, Bool.not_true, Bool.false_eq_true]
      · have g2 : z.length ≤ 8 := by omega
        simp only [fxOf, runD, seqS, retS, retN, ifS, exprS, setS, setE, cD, vD, opd1, opd2, pkS, lift1, lift2, andD, orD, notD, boolD, ofD, boolT, notT, andT, orT, ifD, opdT, callD, callF, consA, nilA, tupD, lstD, Sl.val, nxS, bkS, ctS, raiseS, parS, par3S, asgS, gT, gsCons, gsNil, gN, drAt, drRest, drTurn, drCells, drMore, drPop, drPutS, Out.bind_ok, Out.bind_exc, Out.bind_bad, List.getElem?_cons_zero, List.getElem?_cons_succ, List.getElem?_nil, List.set_cons_zero, List.set_cons_succ, List.length_cons, List.length_nil, List.map_cons, List.map_nil, List.replicate, List.cons_append, List.nil_append, Nat.reduceAdd, Nat.reduceLT, Nat.lt_irrefl, if_true, if_false, Option.bind_some, Option.bind_none, Option.map_some, Option.map_none, and_self, and_true, true_and, ite_true, ite_false, List.cons.injEq, reduceCtorEq, not_true_eq_false, not_false_eq_true, ne_eq, Nat.reduceEqDiff, okKeyW, es, kept_ok, inD_strs, h3, len_str h, eqD_int, l2, h1, h2, g1, g2, decide_true, decide_false, Bool.false_and, Bool.true_and, Bool.and_true, Bool.not_true, Bool.not_false, Bool.false_eq_true, c, lstD, nilA, if_pos (size_ok (show 0 ≤ 1000 by decide)), a]
end Lw
end
section
set_option Elab.async false
set_option linter.all false
set_option maxRecDepth 100000
set_option maxHeartbeats 4000000
namespace Lw
open PySem PySem.Spec L2 Dy LamX
variable [Ph] {dr : Option Dr} {n : Nat} {r : Dr}
theorem cutS_len (z : Str) (lo hi : Option Int) : (cutS z lo hi).length ≤ z.length := by
  rw [tl_len, tl_len]
  unfold cutS tl
  simp only [List.length_take, List.length_drop]
  omega
theorem add_str {a b : Str} (h : a.length + b.length ≤ 1000) : addD (.str a) (.str b) = some (.d (.str (a ++ b))) := by
  unfold addD
  exact if_pos (size_ok h)
theorem sl_str {z : Str} (h : z.length ≤ 1000) (lo hi : Option Int) : slD (.str z) lo hi = some (.d (.str (cutS z lo hi))) := by
  unfold slD
  exact if_pos (size_ok h)
theorem kept_len {z : Str} (h : z ∈ keptL) : 1 ≤ z.length ∧ z.length ≤ 8 := by
  have h1 : (keptL.all fun o => decide (1 ≤ o.length) && decide (o.length ≤ 8)) = true := by decide +kernel
  have := List.all_eq_true.mp h1 z h
  simpa using this
theorem ixl0 (x : D) (xs : List D) : ixD (.list (x :: xs)) (.int 0) = some (.d x) := by
  show Option.map Sl.d (L2.atI (x :: xs) ((0 : Nat) : Int)) = _
  rw [L2.atI_nat (j := 0) (v := x) rfl]
  rfl
def N_1 : M Fl := setS 1 (callD fx__law_pick (consA (vD 0) (consA (lstD (consA (opd2 (.e (callD fx__law_names (consA (vD 0) (consA (cD (.int 1)) nilA)))) (.e (cD (.int 0))) (lift2 ixD)) (consA (opd2 (.e (opd2 (.e (callD fx__law_names (consA (vD 0) (consA (cD (.int 1)) nilA)))) (.e (cD (.int 0))) (lift2 ixD))) (.e (cD (.str "abcdefgh"))) (lift2 addD)) (consA (callD fx__law_pick (consA (vD 0) (consA (callD fx__law_kept nilA) nilA))) nilA)))) nilA)))
def N_2 : M Fl := parS 3 4 (callD fx__law_take (consA (vD 0) (consA (opd1 (.n 1) (lift1 lenD)) nilA))) (callD fx__law_take (consA (vD 0) (consA (cD (.int 6)) nilA)))
def N_3 : M Fl := setS 2 (callD fx__law_pick (consA (vD 0) (consA (lstD (consA (callD fx__law_pick (consA (vD 0) (consA (cD (.str "abcdefghijklmnopqrstuvwxyz")) nilA))) (consA (callD fx__law_pick (consA (vD 0) (consA (cD (.str "ABCXYZ09_-. ")) nilA))) nilA))) nilA)))
def N_4 : M Fl := (seqS (ifS (opdT (.n 4) (.e (cD (.int 0))) eqD) (retS (opd2 (.e (opd2 (.e (sliceD (.n 1) none (some (vD 3)))) (.n 2) (lift2 addD))) (.e (sliceD (.n 1) (some (opd2 (.n 3) (.e (cD (.int 1))) (lift2 addD))) none)) (lift2 addD))) nxS)
  (seqS (ifS (opdT (.n 4) (.e (cD (.int 1))) eqD) (retS (opd2 (.e (sliceD (.n 1) none (some (vD 3)))) (.e (sliceD (.n 1) (some (opd2 (.n 3) (.e (cD (.int 1))) (lift2 addD))) none)) (lift2 addD))) nxS)
  (seqS (ifS (opdT (.n 4) (.e (cD (.int 2))) eqD) (retS (opd2 (.e (opd2 (.e (sliceD (.n 1) none (some (vD 3)))) (.n 2) (lift2 addD))) (.e (sliceD (.n 1) (some (vD 3)) none)) (lift2 addD))) nxS)
  (retS (opd2 (.e (sliceD (.n 1) none (some (callD fx__law_pick (consA (vD 0) (consA (lstD (consA (cD (.int 8)) (consA (cD (.int 8)) (consA (cD (.int 9)) (consA (cD (.int 16)) nilA))))) nilA)))))) (.e (callD fx__law_pick (consA (vD 0) (consA (lstD (consA (cD (.str "")) (consA (cD (.str "")) (consA (vD 2) nilA)))) nilA)))) (lift2 addD))))))
theorem near_eq : fx__law_near_word = fxOf 1 4 (seqS N_1 (seqS N_2 (seqS N_3 N_4))) := rfl
theorem abc_len : (("abcdefgh" : String) : Str).length = 8 := by decide
theorem N1_ok (h : Dw (n + 24) r) : ∃ z r', 1 ≤ z.length ∧ z.length ≤ 16 ∧ Dw n r' ∧ N_1 ⟨[.d tok, .u, .u, .u, .u], some r⟩ = .ok .nx ⟨[.d tok, .d (.str z), .u, .u, .u], some r'⟩ := by
  obtain ⟨ws1, r1, l1, _, a1, w1, e1⟩ := names_l (many := 1) (n := n + 13) (h.mono (by omega)) (by decide)
  obtain ⟨x, rfl⟩ : ∃ x, ws1 = [x] := by
    match ws1, l1 with
    | [x], _ => exact ⟨x, rfl⟩
  obtain ⟨ws2, r2, l2, _, a2, w2, e2⟩ := names_l (many := 1) (n := n + 2) (w1.mono (by omega)) (by decide)
  obtain ⟨y, rfl⟩ : ∃ x, ws2 = [x] := by
    match ws2, l2 with
    | [x], _ => exact ⟨x, rfl⟩
  have hx := a1 x List.mem_cons_self
  have hy := a2 y List.mem_cons_self
  have hx1 := hx.lo
  have hx2 := hx.hi
  have hy1 := hy.lo
  have hy2 := hy.hi
  rw [← tl_len] at hx1 hx2 hy1 hy2
  obtain ⟨k, hk, r3, w3, e3⟩ := pick_l (n := n + 1) (xs := keptL.map .str) w2 (by decide) (by decide)
  obtain ⟨kz, hkz, rfl⟩ := List.mem_map.mp hk
  obtain ⟨p, hp, r4, w4, e4⟩ := pick_l (n := n) (xs := [.str x, .str (y ++ "abcdefgh"), .str kz]) w3 (by simp) (show 3 ≤ 1000000 by decide)
  have hl := kept_len hkz
  have hpz : ∃ z : Str, p = .str z ∧ 1 ≤ z.length ∧ z.length ≤ 16 := by
    simp only [List.mem_cons, List.not_mem_nil, or_false] at hp
    rcases hp with rfl | rfl | rfl
    · exact ⟨_, rfl, by omega, by omega⟩
    · exact ⟨_, rfl, by rw [strLen_append]; omega, by rw [strLen_append, abc_len]; omega⟩
    · exact ⟨_, rfl, by omega, by omega⟩
  obtain ⟨z, rfl, z1, z2⟩ := hpz
  refine ⟨z, r4, z1, z2, w4, ?_⟩
  unfold N_1
  have e1' : fx__law_names [tok, .int 1] (some r) = .ok (.list [.str x]) (some r1) := e1
  have e2' : fx__law_names [tok, .int 1] (some r1) = .ok (.list [.str y]) (some r2) := e2
  simp only [fxOf, runD, seqS, retS, retN, ifS, exprS, setS, setE, cD, vD, opd1, opd2, pkS, lift1, lift2, andD, orD, notD, boolD, ofD, boolT, notT, andT, orT, ifD, opdT, callD, callF, consA, nilA, tupD, lstD, Sl.val, nxS, bkS, ctS, raiseS, parS, par3S, asgS, gT, gsCons, gsNil, gN, drAt, drRest, drTurn, drCells, drMore, drPop, drPutS, Out.bind_ok, Out.bind_exc, Out.bind_bad, List.getElem?_cons_zero, List.getElem?_cons_succ, List.getElem?_nil, List.set_cons_zero, List.set_cons_succ, List.length_cons, List.length_nil, List.map_cons, List.map_nil, List.replicate, List.cons_append, List.nil_append, Nat.reduceAdd, Nat.reduceLT, Nat.lt_irrefl, if_true, if_false, Option.bind_some, Option.bind_none, Option.map_some, Option.map_none, and_self, and_true, true_and, ite_true, ite_false, List.cons.injEq, reduceCtorEq, not_true_eq_false, not_false_eq_true, ne_eq, Nat.reduceEqDiff, okKeyW, e1', e2', ixl0, add_str (show y.length + (("abcdefgh" : String) : Str).length ≤ 1000 by rw [abc_len]; omega), kept_ok, e3, if_pos (size_ok (show 0 + 1 + 1 + 1 ≤ 1000 by decide)), if_pos (size_ok (show 3 ≤ 1000 by decide)), e4]
theorem N2_ok {z : Str} (h : Dw (n + 2) r) (h1 : 1 ≤ z.length) (h2 : z.length ≤ 16) : ∃ a k r', Dw n r' ∧ N_2 ⟨[.d tok, .d (.str z), .u, .u, .u], some r⟩ = .ok .nx ⟨[.d tok, .d (.str z), .u, .d (.int a), .d (.int k)], some r'⟩ := by
  obtain ⟨a, r1, _, _, w1, e1⟩ := take_l (m := z.length) (n := n + 1) h (by omega) (by
    have := log2_le (n := (z.length : Int).natAbs) (k := 10) (by omega)
    omega)
  obtain ⟨k, r2, _, _, w2, e2⟩ := take_l (m := 6) (n := n) w1 (by decide)
  refine ⟨a, k, r2, w2, ?_⟩
  unfold N_2
  simp only [fxOf, runD, seqS, retS, retN, ifS, exprS, setS, setE, cD, vD, opd1, opd2, pkS, lift1, lift2, andD, orD, notD, boolD, ofD, boolT, notT, andT, orT, ifD, opdT, callD, callF, consA, nilA, tupD, lstD, Sl.val, nxS, bkS, ctS, raiseS, parS, par3S, asgS, gT, gsCons, gsNil, gN, drAt, drRest, drTurn, drCells, drMore, drPop, drPutS, Out.bind_ok, Out.bind_exc, Out.bind_bad, List.getElem?_cons_zero, List.getElem?_cons_succ, List.getElem?_nil, List.set_cons_zero, List.set_cons_succ, List.length_cons, List.length_nil, List.map_cons, List.map_nil, List.replicate, List.cons_append, List.nil_append, Nat.reduceAdd, Nat.reduceLT, Nat.lt_irrefl, if_true, if_false, Option.bind_some, Option.bind_none, Option.map_some, Option.map_none, and_self, and_true, true_and, ite_true, ite_false, List.cons.injEq, reduceCtorEq, not_true_eq_false, not_false_eq_true, ne_eq, Nat.reduceEqDiff, okKeyW, len_str (show z.length ≤ 1000 by omega), e1, e2]
theorem N3_ok {x1 x3 x4 : Sl} (h : Dw (n + 3) r) : ∃ c r', Dw n r' ∧ N_3 ⟨[.d tok, x1, .u, x3, x4], some r⟩ = .ok .nx ⟨[.d tok, x1, .d (.str ⟨#[c]⟩), x3, x4], some r'⟩ := by
  obtain ⟨c1, _, r1, w1, e1⟩ := pick_s (z := "abcdefghijklmnopqrstuvwxyz") (n := n + 2) h (by decide) (by decide)
  obtain ⟨c2, _, r2, w2, e2⟩ := pick_s (z := "ABCXYZ09_-. ") (n := n + 1) w1 (by decide) (by decide)
  obtain ⟨p, hp, r3, w3, e3⟩ := pick_l (n := n) (xs := [.str ⟨#[c1]⟩, .str ⟨#[c2]⟩]) w2 (by simp) (show 2 ≤ 1000000 by decide)
  have hpz : ∃ c : Nat, p = .str ⟨#[c]⟩ := by
    simp only [List.mem_cons, List.not_mem_nil, or_false] at hp
    rcases hp with rfl | rfl
    · exact ⟨_, rfl⟩
    · exact ⟨_, rfl⟩
  obtain ⟨c, rfl⟩ := hpz
  refine ⟨c, r3, w3, ?_⟩
  unfold N_3
  simp only [fxOf, runD, seqS, retS, retN, ifS, exprS, setS, setE, cD, vD, opd1, opd2, pkS, lift1, lift2, andD, orD, notD, boolD, ofD, boolT, notT, andT, orT, ifD, opdT, callD, callF, consA, nilA, tupD, lstD, Sl.val, nxS, bkS, ctS, raiseS, parS, par3S, asgS, gT, gsCons, gsNil, gN, drAt, drRest, drTurn, drCells, drMore, drPop, drPutS, Out.bind_ok, Out.bind_exc, Out.bind_bad, List.getElem?_cons_zero, List.getElem?_cons_succ, List.getElem?_nil, List.set_cons_zero, List.set_cons_succ, List.length_cons, List.length_nil, List.map_cons, List.map_nil, List.replicate, List.cons_append, List.nil_append, Nat.reduceAdd, Nat.reduceLT, Nat.lt_irrefl, if_true, if_false, Option.bind_some, Option.bind_none, Option.map_some, Option.map_none, and_self, and_true, true_and, ite_true, ite_false, List.cons.injEq, reduceCtorEq, not_true_eq_false, not_false_eq_true, ne_eq, Nat.reduceEqDiff, okKeyW, e1, e2, if_pos (size_ok (show 0 + 1 + 1 ≤ 1000 by decide)), if_pos (size_ok (show 2 ≤ 1000 by decide)), e3]
theorem one_len (c : Nat) : (⟨#[c]⟩ : Str).length = 1 := rfl
theorem N4_ok {z : Str} {a k : Int} {c : Nat} (h : Dw (n + 2) r) (h2 : z.length ≤ 16) : ∃ y r' s', y.length ≤ 100 ∧ Dw n r' ∧ s'.dr = some r' ∧ N_4 ⟨[.d tok, .d (.str z), .d (.str ⟨#[c]⟩), .d (.int a), .d (.int k)], some r⟩ = .ok (.rt (.d (.str y))) s' := by
  have hz : z.length ≤ 1000 := by omega
  have b (lo hi : Option Int) := cutS_len z lo hi
  have b1 := b none (some a)
  have b2 := b (some (a + 1)) none
  have b3 := b (some a) none
  have q1 : addD (.str (cutS z none (some a))) (.str ⟨#[c]⟩) = some (.d (.str (cutS z none (some a) ++ ⟨#[c]⟩))) := add_str (by rw [one_len]; omega)
  have q1l : (cutS z none (some a) ++ (⟨#[c]⟩ : Str)).length ≤ 17 := by rw [strLen_append, one_len]; omega
  by_cases k0 : k = 0
  · refine ⟨cutS z none (some a) ++ ⟨#[c]⟩ ++ cutS z (some (a + 1)) none, r, ⟨[.d tok, .d (.str z), .d (.str ⟨#[c]⟩), .d (.int a), .d (.int k)], some r⟩, by rw [strLen_append]; omega, h.mono (by omega), rfl, ?_⟩
    unfold N_4
    simp only [fxOf, runD, seqS, retS, retN, ifS, exprS, setS, setE, cD, vD, opd1, opd2, pkS, lift1, lift2, andD, orD, notD, boolD, ofD, boolT, notT, andT, orT, ifD, opdT, callD, callF, consA, nilA, tupD, lstD, Sl.val, nxS, bkS, ctS, raiseS, parS, par3S, asgS, gT, gsCons, gsNil, gN, drAt, drRest, drTurn, drCells, drMore, drPop, drPutS, Out.bind_ok, Out.bind_exc, Out.bind_bad, List.getElem?_cons_zero, List.getElem?_cons_succ, List.getElem?_nil, List.set_cons_zero, List.set_cons_succ, List.length_cons, List.length_nil, List.map_cons, List.map_nil, List.replicate, List.cons_append, List.nil_append, Nat.reduceAdd, Nat.reduceLT, Nat.lt_irrefl, if_true, if_false, Option.bind_some, Option.bind_none, Option.map_some, Option.map_none, and_self, and_true, true_and, ite_true, ite_false, List.cons.injEq, reduceCtorEq, not_true_eq_false, not_false_eq_true, ne_eq, Nat.reduceEqDiff, okKeyW, eqD_int, show decide (k = 0) = true from decide_eq_true k0, sliceD, prtD, sl_str hz, q1, addD_int, add_str (show (cutS z none (some a) ++ (⟨#[c]⟩ : Str)).length + (cutS z (some (a + 1)) none).length ≤ 1000 by omega)]
  · by_cases k1 : k = 1
    · refine ⟨cutS z none (some a) ++ cutS z (some (a + 1)) none, r, ⟨[.d tok, .d (.str z), .d (.str ⟨#[c]⟩), .d (.int a), .d (.int k)], some r⟩, by rw [strLen_append]; omega, h.mono (by omega), rfl, ?_⟩
      unfold N_4
      simp only [fxOf, runD, seqS, retS, retN, ifS, exprS, setS, setE, cD, vD, opd1, opd2, pkS, lift1, lift2, andD, orD, notD, boolD, ofD, boolT, notT, andT, orT, ifD, opdT, callD, callF, consA, nilA, tupD, lstD, Sl.val, nxS, bkS, ctS, raiseS, parS, par3S, asgS, gT, gsCons, gsNil, gN, drAt, drRest, drTurn, drCells, drMore, drPop, drPutS, Out.bind_ok, Out.bind_exc, Out.bind_bad, List.getElem?_cons_zero, List.getElem?_cons_succ, List.getElem?_nil, List.set_cons_zero, List.set_cons_succ, List.length_cons, List.length_nil, List.map_cons, List.map_nil, List.replicate, List.cons_append, List.nil_append, Nat.reduceAdd, Nat.reduceLT, Nat.lt_irrefl, if_true, if_false, Option.bind_some, Option.bind_none, Option.map_some, Option.map_none, and_self, and_true, true_and, ite_true, ite_false, List.cons.injEq, reduceCtorEq, not_true_eq_false, not_false_eq_true, ne_eq, Nat.reduceEqDiff, okKeyW, eqD_int, show decide (k = 0) = false from decide_eq_false k0, show decide (k = 1) = true from decide_eq_true k1, Bool.false_eq_true, sliceD, prtD, sl_str hz, addD_int, add_str (show (cutS z none (some a)).length + (cutS z (some (a + 1)) none).length ≤ 1000 by omega)]
    · by_cases k2 : k = 2
      · refine ⟨cutS z none (some a) ++ ⟨#[c]⟩ ++ cutS z (some a) none, r, ⟨[.d tok, .d (.str z), .d (.str ⟨#[c]⟩), .d (.int a), .d (.int k)], some r⟩, by rw [strLen_append]; omega, h.mono (by omega), rfl, ?_⟩
        unfold N_4
        simp only [fxOf, runD, seqS, retS, retN, ifS, exprS, setS, setE, cD, vD, opd1, opd2, pkS, lift1, lift2, andD, orD, notD, boolD, ofD, boolT, notT, andT, orT, ifD, opdT, callD, callF, consA, nilA, tupD, lstD, Sl.val, nxS, bkS, ctS, raiseS, parS, par3S, asgS, gT, gsCons, gsNil, gN, drAt, drRest, drTurn, drCells, drMore, drPop, drPutS, Out.bind_ok, Out.bind_exc, Out.bind_bad, List.getElem?_cons_zero, List.getElem?_cons_succ, List.getElem?_nil, List.set_cons_zero, List.set_cons_succ, List.length_cons, List.length_nil, List.map_cons, List.map_nil, List.replicate, List.cons_append, List.nil_append, Nat.reduceAdd, Nat.reduceLT, Nat.lt_irrefl, if_true, if_false, Option.bind_some, Option.bind_none, Option.map_some, Option.map_none, and_self, and_true, true_and, ite_true, ite_false, List.cons.injEq, reduceCtorEq, not_true_eq_false, not_false_eq_true, ne_eq, Nat.reduceEqDiff, okKeyW, eqD_int, show decide (k = 0) = false from decide_eq_false k0, show decide (k = 1) = false from decide_eq_false k1, show decide (k = 2) = true from decide_eq_true k2, Bool.false_eq_true, sliceD, prtD, sl_str hz, q1, add_str (show (cutS z none (some a) ++ (⟨#[c]⟩ : Str)).length + (cutS z (some a) none).length ≤ 1000 by omega)]
      · obtain ⟨p, hp, r1, w1, e1⟩ := pick_l (n := n + 1) (xs := [.int 8, .int 8, .int 9, .int 16]) h (by simp) (show 4 ≤ 1000000 by decide)
        obtain ⟨i, rfl⟩ : ∃ i : Int, p = .int i := by
          simp only [List.mem_cons, List.not_mem_nil, or_false] at hp
          rcases hp with rfl | rfl | rfl | rfl <;> exact ⟨_, rfl⟩
        obtain ⟨q, hq, r2, w2, e2⟩ := pick_l (n := n) (xs := [.str "", .str "", .str ⟨#[c]⟩]) w1 (by simp) (show 3 ≤ 1000000 by decide)
        obtain ⟨y, rfl, hy⟩ : ∃ y : Str, q = .str y ∧ y.length ≤ 1 := by
          simp only [List.mem_cons, List.not_mem_nil, or_false] at hq
          rcases hq with rfl | rfl | rfl
          · exact ⟨_, rfl, by decide⟩
          · exact ⟨_, rfl, by decide⟩
          · exact ⟨_, rfl, Nat.le_refl 1⟩
        have b4 := b none (some i)
        refine ⟨cutS z none (some i) ++ y, r2, ⟨[.d tok, .d (.str z), .d (.str ⟨#[c]⟩), .d (.int a), .d (.int k)], some r2⟩, by rw [strLen_append]; omega, w2, rfl, ?_⟩
        unfold N_4
        simp only [fxOf, runD, seqS, retS, retN, ifS, exprS, setS, setE, cD, vD, opd1, opd2, pkS, lift1, lift2, andD, orD, notD, boolD, ofD, boolT, notT, andT, orT, ifD, opdT, callD, callF, consA, nilA, tupD, lstD, Sl.val, nxS, bkS, ctS, raiseS, parS, par3S, asgS, gT, gsCons, gsNil, gN, drAt, drRest, drTurn, drCells, drMore, drPop, drPutS, Out.bind_ok, Out.bind_exc, Out.bind_bad, List.getElem?_cons_zero, List.getElem?_cons_succ, List.getElem?_nil, List.set_cons_zero, List.set_cons_succ, List.length_cons, List.length_nil, List.map_cons, List.map_nil, List.replicate, List.cons_append, List.nil_append, Nat.reduceAdd, Nat.reduceLT, Nat.lt_irrefl, if_true, if_false, Option.bind_some, Option.bind_none, Option.map_some, Option.map_none, and_self, and_true, true_and, ite_true, ite_false, List.cons.injEq, reduceCtorEq, not_true_eq_false, not_false_eq_true, ne_eq, Nat.reduceEqDiff, okKeyW, eqD_int, show decide (k = 0) = false from decide_eq_false k0, show decide (k = 1) = false from decide_eq_false k1, show decide (k = 2) = false from decide_eq_false k2, Bool.false_eq_true, sliceD, prtD, sl_str hz, if_pos (size_ok (show 0 + 1 + 1 + 1 ≤ 1000 by decide)), if_pos (size_ok (show 3 ≤ 1000 by decide)), if_pos (size_ok (show 0 + 1 + 1 + 1 + 1 ≤ 1000 by decide)), if_pos (size_ok (show 4 ≤ 1000 by decide)), e1, e2, add_str (show (cutS z none (some i)).length + y.length ≤ 1000 by omega)]
theorem near_ok (h : Dw (n + 40) r) : ∃ y r', y.length ≤ 100 ∧ Dw n r' ∧ fx__law_near_word [tok] (some r) = .ok (.str y) (some r') := by
  obtain ⟨z, r1, z1, z2, w1, e1⟩ := N1_ok (n := n + 10) (h.mono (by omega))
  obtain ⟨a, k, r2, w2, e2⟩ := N2_ok (n := n + 8) w1 z1 z2
  obtain ⟨c, r3, w3, e3⟩ := N3_ok (n := n + 5) (x1 := .d (.str z)) (x3 := .d (.int a)) (x4 := .d (.int k)) w2
  obtain ⟨y, r4, s', hy, w4, hs, e4⟩ := N4_ok (n := n) (a := a) (k := k) (c := c) (w3.mono (by omega)) z2
  refine ⟨y, r4, hy, w4, ?_⟩
  rw [near_eq]
  have := fx_rt (k := 1) (n := 4) (ds := [tok]) (dr := some r) rfl ((seqS_nx e1).trans ((seqS_nx e2).trans ((seqS_nx e3).trans e4)))
  rw [hs] at this
  exact this
end Lw
end
section
set_option Elab.async false
set_option linter.all false
set_option maxRecDepth 100000
set_option maxHeartbeats 4000000
/-! the classes of the errors that are told -/
namespace Lw
open PySem PySem.Spec L2 Dy LamX
variable [Ph] {dr : Option Dr} {n : Nat} {r : Dr}
def oneOf : List Str := ["BadCount", "BadEnd", "BadGraph", "BadInputs", "BadLabel", "BadMoment", "BadNode", "BadNumber", "BadOp", "BadOther", "BadPlace", "BadProgram", "BadStep", "BadWords"]
/-- one class asked after -/
def ask (f : Str → Option Bool) (nm : Str) : M Fl := ifS (ofD (opd1 (.n 1) (lift1 (isxD f)))) (exprS (appD 2 (cD (.str nm)))) nxS
theorem ask_no {f : Str → Option Bool} {nm c : Str} {x0 x2 x3 : Sl} (h : f c = some false) : ask f nm ⟨[x0, .d (excD c), x2, x3], dr⟩ = .ok .nx ⟨[x0, .d (excD c), x2, x3], dr⟩ := by
  unfold ask
  have : isxD f (excD c) = some (.d (.bool false)) := by
    unfold isxD excD
    simp only [h]
    try rfl
  simp only [fxOf, runD, seqS, retS, retN, ifS, exprS, setS, setE, cD, vD, opd1, opd2, pkS, lift1, lift2, andD, orD, notD, boolD, ofD, boolT, notT, andT, orT, ifD, opdT, callD, callF, consA, nilA, tupD, lstD, Sl.val, nxS, bkS, ctS, raiseS, parS, par3S, asgS, gT, gsCons, gsNil, gN, drAt, drRest, drTurn, drCells, drMore, drPop, drPutS, Out.bind_ok, Out.bind_exc, Out.bind_bad, List.getElem?_cons_zero, List.getElem?_cons_succ, List.getElem?_nil, List.set_cons_zero, List.set_cons_succ, List.length_cons, List.length_nil, List.map_cons, List.map_nil, List.replicate, List.cons_append, List.nil_append, Nat.reduceAdd, Nat.reduceLT, Nat.lt_irrefl, if_true, if_false, Option.bind_some, Option.bind_none, Option.map_some, Option.map_none, and_self, and_true, true_and, ite_true, ite_false, List.cons.injEq, reduceCtorEq, not_true_eq_false, not_false_eq_true, ne_eq, Nat.reduceEqDiff, okKeyW, this, Bool.false_eq_true]
theorem ask_yes {f : Str → Option Bool} {nm c : Str} {x0 x3 : Sl} (h : f c = some true) : ask f nm ⟨[x0, .d (excD c), .o (.list []), x3], dr⟩ = .ok .nx ⟨[x0, .d (excD c), .o (.list [.str nm]), x3], dr⟩ := by
  unfold ask
  have : isxD f (excD c) = some (.d (.bool true)) := by
    unfold isxD excD
    simp only [h]
    try rfl
  have a := appD_ok (i := 2) (m := cD (.str nm)) (s := ⟨[x0, .d (excD c), .o (.list []), x3], dr⟩) (s1 := ⟨[x0, .d (excD c), .o (.list []), x3], dr⟩) (xs := []) (ys := []) rfl rfl rfl (by decide)
  generalize appD 2 (cD (.str nm)) = M0 at a
  simp only [fxOf, runD, seqS, retS, retN, ifS, exprS, setS, setE, cD, vD, opd1, opd2, pkS, lift1, lift2, andD, orD, notD, boolD, ofD, boolT, notT, andT, orT, ifD, opdT, callD, callF, consA, nilA, tupD, lstD, Sl.val, nxS, bkS, ctS, raiseS, parS, par3S, asgS, gT, gsCons, gsNil, gN, drAt, drRest, drTurn, drCells, drMore, drPop, drPutS, Out.bind_ok, Out.bind_exc, Out.bind_bad, List.getElem?_cons_zero, List.getElem?_cons_succ, List.getElem?_nil, List.set_cons_zero, List.set_cons_succ, List.length_cons, List.length_nil, List.map_cons, List.map_nil, List.replicate, List.cons_append, List.nil_append, Nat.reduceAdd, Nat.reduceLT, Nat.lt_irrefl, if_true, if_false, Option.bind_some, Option.bind_none, Option.map_some, Option.map_none, and_self, and_true, true_and, ite_true, ite_false, List.cons.injEq, reduceCtorEq, not_true_eq_false, not_false_eq_true, ne_eq, Nat.reduceEqDiff, okKeyW, this, a]
  try rfl
theorem ask_none {f : Str → Option Bool} {nm : Str} {x0 x2 x3 : Sl} : ask f nm ⟨[x0, .d .none, x2, x3], dr⟩ = .ok .nx ⟨[x0, .d .none, x2, x3], dr⟩ := by
  unfold ask
  have : isxD f .none = some (.d (.bool false)) := rfl
  simp only [fxOf, runD, seqS, retS, retN, ifS, exprS, setS, setE, cD, vD, opd1, opd2, pkS, lift1, lift2, andD, orD, notD, boolD, ofD, boolT, notT, andT, orT, ifD, opdT, callD, callF, consA, nilA, tupD, lstD, Sl.val, nxS, bkS, ctS, raiseS, parS, par3S, asgS, gT, gsCons, gsNil, gN, drAt, drRest, drTurn, drCells, drMore, drPop, drPutS, Out.bind_ok, Out.bind_exc, Out.bind_bad, List.getElem?_cons_zero, List.getElem?_cons_succ, List.getElem?_nil, List.set_cons_zero, List.set_cons_succ, List.length_cons, List.length_nil, List.map_cons, List.map_nil, List.replicate, List.cons_append, List.nil_append, Nat.reduceAdd, Nat.reduceLT, Nat.lt_irrefl, if_true, if_false, Option.bind_some, Option.bind_none, Option.map_some, Option.map_none, and_self, and_true, true_and, ite_true, ite_false, List.cons.injEq, reduceCtorEq, not_true_eq_false, not_false_eq_true, ne_eq, Nat.reduceEqDiff, okKeyW, this, Bool.false_eq_true]
def T_end : M Fl := (retS (ifD (orT (opdT (.n 2) (.e (lstD nilA)) neD) (ofD (opd1 (.n 1) (lift1 isNonD)))) (vD 2) (lstD (consA (cD (.str "CodeError")) nilA))))
theorem told_eq (T : LT) : fx__law_told T = fxOf 1 3 (seqS (setS 1 (cD .none)) (seqS (tryS (exprS (callL T 0)) 3 1 sub_CodeError) (seqS (setS 2 (lstD nilA)) (seqS (ask subx_BadCount "BadCount") (seqS (ask subx_BadEnd "BadEnd") (seqS (ask subx_BadGraph "BadGraph") (seqS (ask subx_BadInputs "BadInputs") (seqS (ask subx_BadLabel "BadLabel") (seqS (ask subx_BadMoment "BadMoment") (seqS (ask subx_BadNode "BadNode") (seqS (ask subx_BadNumber "BadNumber") (seqS (ask subx_BadOp "BadOp") (seqS (ask subx_BadOther "BadOther") (seqS (ask subx_BadPlace "BadPlace") (seqS (ask subx_BadProgram "BadProgram") (seqS (ask subx_BadStep "BadStep") (seqS (ask subx_BadWords "BadWords") T_end))))))))))))))))) := rfl
theorem call_exc {T : LT} {u : D} {c : Str} {x1 x2 x3 : Sl} (h : T u dr = .exc c dr) (hc : sub_CodeError c = some true) : tryS (exprS (callL T 0)) 3 1 sub_CodeError ⟨[.d u, x1, x2, x3], dr⟩ = .ok .nx ⟨[.d u, .d (excD c), x2, .u], dr⟩ := by
  have e : exprS (callL T 0) ⟨[.d u, x1, x2, x3], dr⟩ = .exc c ⟨[.d u, x1, x2, x3], dr⟩ := by
    simp only [fxOf, runD, seqS, retS, retN, ifS, exprS, setS, setE, cD, vD, opd1, opd2, pkS, lift1, lift2, andD, orD, notD, boolD, ofD, boolT, notT, andT, orT, ifD, opdT, callD, callF, consA, nilA, tupD, lstD, Sl.val, nxS, bkS, ctS, raiseS, parS, par3S, asgS, gT, gsCons, gsNil, gN, drAt, drRest, drTurn, drCells, drMore, drPop, drPutS, Out.bind_ok, Out.bind_exc, Out.bind_bad, List.getElem?_cons_zero, List.getElem?_cons_succ, List.getElem?_nil, List.set_cons_zero, List.set_cons_succ, List.length_cons, List.length_nil, List.map_cons, List.map_nil, List.replicate, List.cons_append, List.nil_append, Nat.reduceAdd, Nat.reduceLT, Nat.lt_irrefl, if_true, if_false, Option.bind_some, Option.bind_none, Option.map_some, Option.map_none, and_self, and_true, true_and, ite_true, ite_false, List.cons.injEq, reduceCtorEq, not_true_eq_false, not_false_eq_true, ne_eq, Nat.reduceEqDiff, okKeyW, callL, h]
  unfold tryS
  rw [e]
  simp only [hc]
  rfl
theorem call_ok {T : LT} {u v : D} {x1 x2 x3 : Sl} (h : T u dr = .ok v dr) : tryS (exprS (callL T 0)) 3 1 sub_CodeError ⟨[.d u, x1, x2, x3], dr⟩ = .ok .nx ⟨[.d u, x1, x2, x3], dr⟩ := by
  have e : exprS (callL T 0) ⟨[.d u, x1, x2, x3], dr⟩ = .ok .nx ⟨[.d u, x1, x2, x3], dr⟩ := by
    simp only [fxOf, runD, seqS, retS, retN, ifS, exprS, setS, setE, cD, vD, opd1, opd2, pkS, lift1, lift2, andD, orD, notD, boolD, ofD, boolT, notT, andT, orT, ifD, opdT, callD, callF, consA, nilA, tupD, lstD, Sl.val, nxS, bkS, ctS, raiseS, parS, par3S, asgS, gT, gsCons, gsNil, gN, drAt, drRest, drTurn, drCells, drMore, drPop, drPutS, Out.bind_ok, Out.bind_exc, Out.bind_bad, List.getElem?_cons_zero, List.getElem?_cons_succ, List.getElem?_nil, List.set_cons_zero, List.set_cons_succ, List.length_cons, List.length_nil, List.map_cons, List.map_nil, List.replicate, List.cons_append, List.nil_append, Nat.reduceAdd, Nat.reduceLT, Nat.lt_irrefl, if_true, if_false, Option.bind_some, Option.bind_none, Option.map_some, Option.map_none, and_self, and_true, true_and, ite_true, ite_false, List.cons.injEq, reduceCtorEq, not_true_eq_false, not_false_eq_true, ne_eq, Nat.reduceEqDiff, okKeyW, callL, h]
  unfold tryS
  rw [e]
theorem T_end_some {x0 x1 x3 : Sl} {c : Str} : T_end ⟨[x0, x1, .o (.list [.str c]), x3], dr⟩ = .ok (.rt (.d (.list [.str c]))) ⟨[x0, x1, .d (.list [.str c]), x3], dr⟩ := by
  have : neD (.list [.str c]) (.list []) = some (.d (.bool true)) := neD_nil (xs := [.str c]) fun d hd => by
    rw [List.mem_singleton] at hd
    subst hd
    exact ⟨rfl, by simp [PyData.depth]⟩
  unfold T_end
  simp only [fxOf, runD, seqS, retS, retN, ifS, exprS, setS, setE, cD, vD, opd1, opd2, pkS, lift1, lift2, andD, orD, notD, boolD, ofD, boolT, notT, andT, orT, ifD, opdT, callD, callF, consA, nilA, tupD, lstD, Sl.val, nxS, bkS, ctS, raiseS, parS, par3S, asgS, gT, gsCons, gsNil, gN, drAt, drRest, drTurn, drCells, drMore, drPop, drPutS, Out.bind_ok, Out.bind_exc, Out.bind_bad, List.getElem?_cons_zero, List.getElem?_cons_succ, List.getElem?_nil, List.set_cons_zero, List.set_cons_succ, List.length_cons, List.length_nil, List.map_cons, List.map_nil, List.replicate, List.cons_append, List.nil_append, Nat.reduceAdd, Nat.reduceLT, Nat.lt_irrefl, if_true, if_false, Option.bind_some, Option.bind_none, Option.map_some, Option.map_none, and_self, and_true, true_and, ite_true, ite_false, List.cons.injEq, reduceCtorEq, not_true_eq_false, not_false_eq_true, ne_eq, Nat.reduceEqDiff, okKeyW, if_pos (size_ok (show 0 ≤ 1000 by decide)), this]
theorem T_end_none {x0 x3 : Sl} : T_end ⟨[x0, .d .none, .o (.list []), x3], dr⟩ = .ok (.rt (.d (.list []))) ⟨[x0, .d .none, .d (.list []), x3], dr⟩ := by
  have : neD (.list []) (.list []) = some (.d (.bool false)) := neD_nil (xs := []) fun d hd => by cases hd
  unfold T_end
  simp only [fxOf, runD, seqS, retS, retN, ifS, exprS, setS, setE, cD, vD, opd1, opd2, pkS, lift1, lift2, andD, orD, notD, boolD, ofD, boolT, notT, andT, orT, ifD, opdT, callD, callF, consA, nilA, tupD, lstD, Sl.val, nxS, bkS, ctS, raiseS, parS, par3S, asgS, gT, gsCons, gsNil, gN, drAt, drRest, drTurn, drCells, drMore, drPop, drPutS, Out.bind_ok, Out.bind_exc, Out.bind_bad, List.getElem?_cons_zero, List.getElem?_cons_succ, List.getElem?_nil, List.set_cons_zero, List.set_cons_succ, List.length_cons, List.length_nil, List.map_cons, List.map_nil, List.replicate, List.cons_append, List.nil_append, Nat.reduceAdd, Nat.reduceLT, Nat.lt_irrefl, if_true, if_false, Option.bind_some, Option.bind_none, Option.map_some, Option.map_none, and_self, and_true, true_and, ite_true, ite_false, List.cons.injEq, reduceCtorEq, not_true_eq_false, not_false_eq_true, ne_eq, Nat.reduceEqDiff, okKeyW, if_pos (size_ok (show 0 ≤ 1000 by decide)), this, isNonD, Bool.false_eq_true]
theorem set_lst {x0 x1 x2 x3 : Sl} : setS 2 (lstD nilA) ⟨[x0, x1, x2, x3], dr⟩ = .ok .nx ⟨[x0, x1, .o (.list []), x3], dr⟩ := by
  simp only [fxOf, runD, seqS, retS, retN, ifS, exprS, setS, setE, cD, vD, opd1, opd2, pkS, lift1, lift2, andD, orD, notD, boolD, ofD, boolT, notT, andT, orT, ifD, opdT, callD, callF, consA, nilA, tupD, lstD, Sl.val, nxS, bkS, ctS, raiseS, parS, par3S, asgS, gT, gsCons, gsNil, gN, drAt, drRest, drTurn, drCells, drMore, drPop, drPutS, Out.bind_ok, Out.bind_exc, Out.bind_bad, List.getElem?_cons_zero, List.getElem?_cons_succ, List.getElem?_nil, List.set_cons_zero, List.set_cons_succ, List.length_cons, List.length_nil, List.map_cons, List.map_nil, List.replicate, List.cons_append, List.nil_append, Nat.reduceAdd, Nat.reduceLT, Nat.lt_irrefl, if_true, if_false, Option.bind_some, Option.bind_none, Option.map_some, Option.map_none, and_self, and_true, true_and, ite_true, ite_false, List.cons.injEq, reduceCtorEq, not_true_eq_false, not_false_eq_true, ne_eq, Nat.reduceEqDiff, okKeyW, if_pos (size_ok (show 0 ≤ 1000 by decide))]
  try rfl
theorem told_BadOp {T : LT} {u : D} (h : T u dr = .exc "BadOp" dr) : fx__law_told T [u] dr = .ok (.list [.str "BadOp"]) dr := by
  rw [told_eq]
  exact fx_rt (k := 1) (n := 3) (ds := [u]) (dr := dr) rfl ((seqS_nx (show setS 1 (cD .none) ⟨[.d u, .u, .u, .u], dr⟩ = .ok .nx ⟨[.d u, .d .none, .u, .u], dr⟩ from rfl)).trans ((seqS_nx (call_exc h rfl)).trans ((seqS_nx set_lst).trans ((seqS_nx (ask_no (f := subx_BadCount) (nm := "BadCount") rfl)).trans ((seqS_nx (ask_no (f := subx_BadEnd) (nm := "BadEnd") rfl)).trans ((seqS_nx (ask_no (f := subx_BadGraph) (nm := "BadGraph") rfl)).trans ((seqS_nx (ask_no (f := subx_BadInputs) (nm := "BadInputs") rfl)).trans ((seqS_nx (ask_no (f := subx_BadLabel) (nm := "BadLabel") rfl)).trans ((seqS_nx (ask_no (f := subx_BadMoment) (nm := "BadMoment") rfl)).trans ((seqS_nx (ask_no (f := subx_BadNode) (nm := "BadNode") rfl)).trans ((seqS_nx (ask_no (f := subx_BadNumber) (nm := "BadNumber") rfl)).trans ((seqS_nx (ask_yes (f := subx_BadOp) (nm := "BadOp") rfl)).trans ((seqS_nx (ask_no (f := subx_BadOther) (nm := "BadOther") rfl)).trans ((seqS_nx (ask_no (f := subx_BadPlace) (nm := "BadPlace") rfl)).trans ((seqS_nx (ask_no (f := subx_BadProgram) (nm := "BadProgram") rfl)).trans ((seqS_nx (ask_no (f := subx_BadStep) (nm := "BadStep") rfl)).trans ((seqS_nx (ask_no (f := subx_BadWords) (nm := "BadWords") rfl)).trans ( T_end_some))))))))))))))))))
theorem told_BadWords {T : LT} {u : D} (h : T u dr = .exc "BadWords" dr) : fx__law_told T [u] dr = .ok (.list [.str "BadWords"]) dr := by
  rw [told_eq]
  exact fx_rt (k := 1) (n := 3) (ds := [u]) (dr := dr) rfl ((seqS_nx (show setS 1 (cD .none) ⟨[.d u, .u, .u, .u], dr⟩ = .ok .nx ⟨[.d u, .d .none, .u, .u], dr⟩ from rfl)).trans ((seqS_nx (call_exc h rfl)).trans ((seqS_nx set_lst).trans ((seqS_nx (ask_no (f := subx_BadCount) (nm := "BadCount") rfl)).trans ((seqS_nx (ask_no (f := subx_BadEnd) (nm := "BadEnd") rfl)).trans ((seqS_nx (ask_no (f := subx_BadGraph) (nm := "BadGraph") rfl)).trans ((seqS_nx (ask_no (f := subx_BadInputs) (nm := "BadInputs") rfl)).trans ((seqS_nx (ask_no (f := subx_BadLabel) (nm := "BadLabel") rfl)).trans ((seqS_nx (ask_no (f := subx_BadMoment) (nm := "BadMoment") rfl)).trans ((seqS_nx (ask_no (f := subx_BadNode) (nm := "BadNode") rfl)).trans ((seqS_nx (ask_no (f := subx_BadNumber) (nm := "BadNumber") rfl)).trans ((seqS_nx (ask_no (f := subx_BadOp) (nm := "BadOp") rfl)).trans ((seqS_nx (ask_no (f := subx_BadOther) (nm := "BadOther") rfl)).trans ((seqS_nx (ask_no (f := subx_BadPlace) (nm := "BadPlace") rfl)).trans ((seqS_nx (ask_no (f := subx_BadProgram) (nm := "BadProgram") rfl)).trans ((seqS_nx (ask_no (f := subx_BadStep) (nm := "BadStep") rfl)).trans ((seqS_nx (ask_yes (f := subx_BadWords) (nm := "BadWords") rfl)).trans ( T_end_some))))))))))))))))))
theorem told_BadNumber {T : LT} {u : D} (h : T u dr = .exc "BadNumber" dr) : fx__law_told T [u] dr = .ok (.list [.str "BadNumber"]) dr := by
  rw [told_eq]
  exact fx_rt (k := 1) (n := 3) (ds := [u]) (dr := dr) rfl ((seqS_nx (show setS 1 (cD .none) ⟨[.d u, .u, .u, .u], dr⟩ = .ok .nx ⟨[.d u, .d .none, .u, .u], dr⟩ from rfl)).trans ((seqS_nx (call_exc h rfl)).trans ((seqS_nx set_lst).trans ((seqS_nx (ask_no (f := subx_BadCount) (nm := "BadCount") rfl)).trans ((seqS_nx (ask_no (f := subx_BadEnd) (nm := "BadEnd") rfl)).trans ((seqS_nx (ask_no (f := subx_BadGraph) (nm := "BadGraph") rfl)).trans ((seqS_nx (ask_no (f := subx_BadInputs) (nm := "BadInputs") rfl)).trans ((seqS_nx (ask_no (f := subx_BadLabel) (nm := "BadLabel") rfl)).trans ((seqS_nx (ask_no (f := subx_BadMoment) (nm := "BadMoment") rfl)).trans ((seqS_nx (ask_no (f := subx_BadNode) (nm := "BadNode") rfl)).trans ((seqS_nx (ask_yes (f := subx_BadNumber) (nm := "BadNumber") rfl)).trans ((seqS_nx (ask_no (f := subx_BadOp) (nm := "BadOp") rfl)).trans ((seqS_nx (ask_no (f := subx_BadOther) (nm := "BadOther") rfl)).trans ((seqS_nx (ask_no (f := subx_BadPlace) (nm := "BadPlace") rfl)).trans ((seqS_nx (ask_no (f := subx_BadProgram) (nm := "BadProgram") rfl)).trans ((seqS_nx (ask_no (f := subx_BadStep) (nm := "BadStep") rfl)).trans ((seqS_nx (ask_no (f := subx_BadWords) (nm := "BadWords") rfl)).trans ( T_end_some))))))))))))))))))
theorem told_none {T : LT} {u v : D} (h : T u dr = .ok v dr) : fx__law_told T [u] dr = .ok (.list []) dr := by
  rw [told_eq]
  exact fx_rt (k := 1) (n := 3) (ds := [u]) (dr := dr) rfl ((seqS_nx (show setS 1 (cD .none) ⟨[.d u, .u, .u, .u], dr⟩ = .ok .nx ⟨[.d u, .d .none, .u, .u], dr⟩ from rfl)).trans ((seqS_nx (call_ok h)).trans ((seqS_nx set_lst).trans ((seqS_nx (ask_none (f := subx_BadCount) (nm := "BadCount"))).trans ((seqS_nx (ask_none (f := subx_BadEnd) (nm := "BadEnd"))).trans ((seqS_nx (ask_none (f := subx_BadGraph) (nm := "BadGraph"))).trans ((seqS_nx (ask_none (f := subx_BadInputs) (nm := "BadInputs"))).trans ((seqS_nx (ask_none (f := subx_BadLabel) (nm := "BadLabel"))).trans ((seqS_nx (ask_none (f := subx_BadMoment) (nm := "BadMoment"))).trans ((seqS_nx (ask_none (f := subx_BadNode) (nm := "BadNode"))).trans ((seqS_nx (ask_none (f := subx_BadNumber) (nm := "BadNumber"))).trans ((seqS_nx (ask_none (f := subx_BadOp) (nm := "BadOp"))).trans ((seqS_nx (ask_none (f := subx_BadOther) (nm := "BadOther"))).trans ((seqS_nx (ask_none (f := subx_BadPlace) (nm := "BadPlace"))).trans ((seqS_nx (ask_none (f := subx_BadProgram) (nm := "BadProgram"))).trans ((seqS_nx (ask_none (f := subx_BadStep) (nm := "BadStep"))).trans ((seqS_nx (ask_none (f := subx_BadWords) (nm := "BadWords"))).trans ( T_end_none))))))))))))))))))
theorem add_list {xs ys : List D} (h : xs.length + ys.length ≤ 1000) : addD (.list xs) (.list ys) = some (.o (.list (xs ++ ys))) := by
  unfold addD
  exact if_pos (size_ok h)
inductive All2 (P : D → List D → Prop) : List D → List (List D) → Prop
  | nil : All2 P [] []
  | cons {u : D} {l : List D} {us : List D} {ls : List (List D)} : P u l → All2 P us ls → All2 P (u :: us) (l :: ls)
/-- what is told of one -/
def Tells (T : LT) (dr : Option Dr) (u : D) (l : List D) : Prop := fx__law_told T [u] dr = .ok (.list l) dr
theorem all_ok {T : LT} {us : List D} {ls : List (List D)} (h : All2 (Tells T dr) us ls) (hl : ls.flatten.length ≤ 100) : fx__law_all T [.list us] dr = .ok (.list ls.flatten) dr := by
  have turn (acc l : List D) (u : D) (x2 : Sl) (h : Tells T dr u l) (hl : acc.length + l.length ≤ 100) : b__law_all_1 T ⟨[.d (.list us), .o (.list acc), .d u], dr⟩ = .ok .nx ⟨[.d (.list us), .o (.list (acc ++ l)), .d u], dr⟩ := by
    unfold Tells at h
    unfold b__law_all_1
    simp only [fxOf, runD, seqS, retS, retN, ifS, exprS, setS, setE, cD, vD, opd1, opd2, pkS, lift1, lift2, andD, orD, notD, boolD, ofD, boolT, notT, andT, orT, ifD, opdT, callD, callF, consA, nilA, tupD, lstD, Sl.val, nxS, bkS, ctS, raiseS, parS, par3S, asgS, gT, gsCons, gsNil, gN, drAt, drRest, drTurn, drCells, drMore, drPop, drPutS, Out.bind_ok, Out.bind_exc, Out.bind_bad, List.getElem?_cons_zero, List.getElem?_cons_succ, List.getElem?_nil, List.set_cons_zero, List.set_cons_succ, List.length_cons, List.length_nil, List.map_cons, List.map_nil, List.replicate, List.cons_append, List.nil_append, Nat.reduceAdd, Nat.reduceLT, Nat.lt_irrefl, if_true, if_false, Option.bind_some, Option.bind_none, Option.map_some, Option.map_none, and_self, and_true, true_and, ite_true, ite_false, List.cons.injEq, reduceCtorEq, not_true_eq_false, not_false_eq_true, ne_eq, Nat.reduceEqDiff, okKeyW, h, add_list (show acc.length + l.length ≤ 1000 by omega)]
  have go : ∀ (vs : List D) (ks : List (List D)) (acc : List D) (x2 : Sl), All2 (Tells T dr) vs ks → acc.length + ks.flatten.length ≤ 100 → ∃ x2', forS (gN 2) (b__law_all_1 T) vs ⟨[.d (.list us), .o (.list acc), x2], dr⟩ = .ok .nx ⟨[.d (.list us), .o (.list (acc ++ ks.flatten)), x2'], dr⟩ := by
    intro vs ks acc x2 q
    induction q generalizing acc x2 with
    | nil => intro _; exact ⟨x2, by rw [List.flatten_nil, List.append_nil]; rfl⟩
    | @cons v k vs ks a _ ih =>
      intro hl
      rw [List.flatten_cons, List.length_append] at hl
      obtain ⟨x2', e⟩ := ih (acc ++ k) (.d v) (by rw [List.length_append]; omega)
      refine ⟨x2', ?_⟩
      rw [forS]
      have e1 : gN 2 v ⟨[.d (.list us), .o (.list acc), x2], dr⟩ = some ⟨[.d (.list us), .o (.list acc), .d v], dr⟩ := rfl
      rw [e1]
      simp only [turn acc k v x2 a (by omega), e]
      rw [List.flatten_cons, List.append_assoc]
  obtain ⟨x2', e⟩ := go us ls [] .u h (by simpa using hl)
  refine fx_rt (k := 1) (n := 2) (ds := [.list us]) (dr := dr) (s := ⟨[.d (.list us), .d (.list ls.flatten), x2'], dr⟩) (r := .d (.list ls.flatten)) rfl ((seqS_nx (s1 := ⟨[.d (.list us), .o (.list []), .u], dr⟩) ?_).trans ((seqS_nx (s1 := ⟨[.d (.list us), .o (.list ls.flatten), x2'], dr⟩) ?_).trans ?_))
  · simp only [fxOf, runD, seqS, retS, retN, ifS, exprS, setS, setE, cD, vD, opd1, opd2, pkS, lift1, lift2, andD, orD, notD, boolD, ofD, boolT, notT, andT, orT, ifD, opdT, callD, callF, consA, nilA, tupD, lstD, Sl.val, nxS, bkS, ctS, raiseS, parS, par3S, asgS, gT, gsCons, gsNil, gN, drAt, drRest, drTurn, drCells, drMore, drPop, drPutS, Out.bind_ok, Out.bind_exc, Out.bind_bad, List.getElem?_cons_zero, List.getElem?_cons_succ, List.getElem?_nil, List.set_cons_zero, List.set_cons_succ, List.length_cons, List.length_nil, List.map_cons, List.map_nil, List.replicate, List.cons_append, List.nil_append, Nat.reduceAdd, Nat.reduceLT, Nat.lt_irrefl, if_true, if_false, Option.bind_some, Option.bind_none, Option.map_some, Option.map_none, and_self, and_true, true_and, ite_true, ite_false, List.cons.injEq, reduceCtorEq, not_true_eq_false, not_false_eq_true, ne_eq, Nat.reduceEqDiff, okKeyW, if_pos (size_ok (show 0 ≤ 1000 by decide))]
    try rfl
  · exact e
  · simp only [fxOf, runD, seqS, retS, retN, ifS, exprS, setS, setE, cD, vD, opd1, opd2, pkS, lift1, lift2, andD, orD, notD, boolD, ofD, boolT, notT, andT, orT, ifD, opdT, callD, callF, consA, nilA, tupD, lstD, Sl.val, nxS, bkS, ctS, raiseS, parS, par3S, asgS, gT, gsCons, gsNil, gN, drAt, drRest, drTurn, drCells, drMore, drPop, drPutS, Out.bind_ok, Out.bind_exc, Out.bind_bad, List.getElem?_cons_zero, List.getElem?_cons_succ, List.getElem?_nil, List.set_cons_zero, List.set_cons_succ, List.length_cons, List.length_nil, List.map_cons, List.map_nil, List.replicate, List.cons_append, List.nil_append, Nat.reduceAdd, Nat.reduceLT, Nat.lt_irrefl, if_true, if_false, Option.bind_some, Option.bind_none, Option.map_some, Option.map_none, and_self, and_true, true_and, ite_true, ite_false, List.cons.injEq, reduceCtorEq, not_true_eq_false, not_false_eq_true, ne_eq, Nat.reduceEqDiff, okKeyW]
    try rfl
end Lw
end
section
set_option Elab.async false
set_option linter.all false
set_option maxRecDepth 100000
set_option maxHeartbeats 4000000
namespace Lw
open PySem PySem.Spec L2 Dy LamX
variable [Ph] {dr : Option Dr} {n : Nat} {r : Dr}
theorem plainAll_of : ∀ {xs : List D}, (∀ d ∈ xs, d.plain = true) → PyData.plainAll xs = true
  | [], _ => rfl
  | d :: xs, h => by
    rw [PyData.plainAll, h d List.mem_cons_self, plainAll_of fun d hd => h d (List.mem_cons_of_mem _ hd)]
    rfl
theorem depthAll_of : ∀ {xs : List D}, (∀ d ∈ xs, d.depth ≤ 58) → PyData.depthAll xs ≤ 58
  | [], _ => by simp [PyData.depthAll]
  | d :: xs, h => by
    have h1 := h d List.mem_cons_self
    have h2 := depthAll_of fun d hd => h d (List.mem_cons_of_mem _ hd)
    rw [PyData.depthAll]
    exact Nat.max_le.mpr ⟨h1, h2⟩
theorem okD_tup {xs : List D} (h : shOkD xs) : okD (.tuple xs) = true := okD_list h
theorem cut1 (x : D) (xs : List D) : cutD (x :: xs) (some 1) none = xs := by
  unfold cutD
  have e : HT.sIx (x :: xs).length 0 (some 1) = 1 := by
    have := HT.sIx_nat (x :: xs).length 0 1
    rw [show ((1 : Nat) : Int) = 1 from rfl] at this
    rw [this, List.length_cons]
    omega
  rw [e, HT.sIx_none]
  simp
theorem add_tup {xs ys : List D} (h : xs.length + ys.length ≤ 1000) : addD (.tuple xs) (.tuple ys) = some (.d (.tuple (xs ++ ys))) := by
  unfold addD
  exact if_pos (size_ok h)
/-- flat data -/
def Flat : D → Bool
  | .none => true
  | .bool _ => true
  | .int _ => true
  | .str _ => true
  | _ => false
theorem Flat.sh {xs : List D} (h : ∀ d ∈ xs, Flat d = true) : shOkD xs := fun d hd => by
  have := h d hd
  cases d <;> (first | (cases this; done) | exact ⟨rfl, by simp [PyData.depth]⟩)
theorem Flat.plain {xs : List D} (h : ∀ d ∈ xs, Flat d = true) : PyData.plainAll xs = true := plainAll_of fun d hd => (Flat.sh h d hd).1
/-- words that are not to be reckoned with -/
structure Wr (z : Str) (w : D) : Prop where
  bad : ∀ dr, fx_computed [.str z, w] dr = .exc "BadWords" dr
  plain : w.plain = true
  five : (isNum w = false ∧ neD w (.int 5) = some (.d (.bool true))) ∨ w = .int 5
theorem ne_tup {xs : List D} (h : ∀ d ∈ xs, Flat d = true) : neD (.tuple xs) (.int 5) = some (.d (.bool true)) := by
  unfold neD
  rw [if_pos ⟨okD_tup (Flat.sh h), rfl⟩]
  simp [PyData.eqv]
theorem Wr.tup {z : Str} {k : Nat} {xs : List D} (hz : isOp z k) (h : ∀ d ∈ xs, Flat d = true) (hl : xs.length ≤ 10) (hb : ¬ (xs.length = k ∧ xs.all isW = true)) : Wr z (.tuple xs) :=
  ⟨fun dr => by rw [computed_tup hz.takes (Flat.plain h) (by omega), if_neg hb], by rw [PyData.plain]; exact Flat.plain h, .inl ⟨rfl, ne_tup h⟩⟩
def Wl (x : D) (t : List D) : List D := [.tuple (x :: t ++ [.int 0]), .tuple t, .list (x :: t), .none, .tuple (t ++ [.bool true]), .tuple (t ++ [.int 2147483648]), .tuple (t ++ [.str "0"]), .int 5, .tuple (t ++ [.none])]
theorem wrong_ok {z : Str} {k : Nat} {x : D} {t : List D} (hz : isOp z k) (hk : (x :: t).length = k) (h : ∀ d ∈ x :: t, Flat d = true) {w : D} (hw : w ∈ Wl x t) : Wr z w := by
  have k2 : k ≤ 2 := by rcases hz with ⟨rfl, _⟩ | ⟨rfl, _⟩ <;> decide
  have ht : ∀ d ∈ t, Flat d = true := fun d hd => h d (List.mem_cons_of_mem _ hd)
  have hl : t.length + 1 = k := hk
  have app {y : D} (hy : Flat y = true) : ∀ d ∈ t ++ [y], Flat d = true := fun d hd => by
    rcases List.mem_append.mp hd with hd | hd
    · exact ht d hd
    · rw [List.mem_singleton] at hd
      subst hd
      exact hy
  have bad {y : D} (hy : Flat y = true) (hb : isW y = false) : Wr z (.tuple (t ++ [y])) := Wr.tup hz (app hy) (by rw [List.length_append, List.length_singleton]; omega) fun q => by
    have := q.2
    rw [List.all_append, List.all_cons, hb] at this
    simp at this
  simp only [Wl, List.mem_cons, List.not_mem_nil, or_false] at hw
  rcases hw with rfl | rfl | rfl | rfl | rfl | rfl | rfl | rfl | rfl
  · refine Wr.tup hz (fun d hd => ?_) (by rw [List.length_append, List.length_singleton]; omega) fun q => by
      have := q.1
      rw [List.length_append, List.length_singleton] at this
      omega
    rcases List.mem_append.mp hd with hd | hd
    · exact h d hd
    · rw [List.mem_singleton] at hd
      subst hd
      rfl
  · exact Wr.tup hz ht (by omega) fun q => by have := q.1; omega
  · have pl : (PyData.list (x :: t)).plain = true := by rw [PyData.plain]; exact Flat.plain h
    refine ⟨fun dr => computed_notup hz.some pl rfl, pl, .inl ⟨rfl, ?_⟩⟩
    unfold neD
    rw [if_pos ⟨okD_list (Flat.sh h), rfl⟩]
    simp [PyData.eqv]
  · exact ⟨fun dr => computed_notup hz.some rfl rfl, rfl, .inl ⟨rfl, rfl⟩⟩
  · exact bad rfl rfl
  · exact bad rfl rfl
  · exact bad rfl rfl
  · exact ⟨fun dr => computed_notup hz.some rfl rfl, rfl, .inr rfl⟩
  · exact bad rfl rfl
def Bl : List D := [.none, .str "", .str "Add", .str "div", .int 0, .tuple [.str "add"], .list [.str "add"], .str "nums", .str "a"]
theorem bad_op {b : D} (h : b ∈ Bl) (dr : Option Dr) : fx_is_op [b] dr = .ok (.bool false) dr := by
  simp only [Bl, List.mem_cons, List.not_mem_nil, or_false] at h
  rcases h with rfl | rfl | rfl | rfl | rfl | rfl | rfl | rfl | rfl
  · exact is_op_not rfl rfl
  · rw [is_op_str]; rfl
  · rw [is_op_str]; rfl
  · rw [is_op_str]; rfl
  · exact is_op_not rfl rfl
  · exact is_op_not rfl rfl
  · exact is_op_not rfl rfl
  · rw [is_op_str]; rfl
  · rw [is_op_str]; rfl
theorem sh_int {i : Int} (h : i.natAbs < 2 ^ 1000) : Sh (.int i) := ⟨by
  have := log2_le h
  simp only [shOk, decide_eq_true_eq]
  omega, by simp [PyData.depth], by simp [shB]⟩
def C_1 : M Fl := (setS 1 (callD fx__law_pick (consA (vD 0) (consA (callD fx__law_ops nilA) nilA))))
def C_2 : M Fl := (setS 2 (opd1 (.e (lcD (rng1D (callD fx__law_many_args (consA (vD 1) nilA))) (gN 6) yesT b__law_is_computed_1 [6])) (lift1 tupleD)))
def C_3 : M Fl := (ifS (orT (notT (ofD (callD fx__law_same (consA (callD fx_computed (consA (vD 1) (consA (vD 2) nilA))) (consA (callD fx__law_worth (consA (vD 1) (consA (vD 2) nilA))) nilA))))) (notT (ofD (callD fx__law_same (consA (callD fx_computed fun s => ((consA (vD 2) (consA (vD 1) nilA)) s).bind fun ds s => .ok (pick [1, 0] ds) s) (consA (callD fx__law_worth (consA (vD 1) (consA (vD 2) nilA))) nilA)))))) (retS (cD (.bool false))) nxS)
def C_4 : M Fl := (setS 3 (callD fx__law_pick (consA (vD 0) (consA (lstD (consA (opd2 (.n 2) (.e (tupD (consA (cD (.int 0)) nilA))) (lift2 addD)) (consA (sliceD (.n 2) (some (cD (.int 1))) none) (consA (opd1 (.n 2) (lift1 listD)) (consA (cD .none) (consA (opd2 (.e (sliceD (.n 2) (some (cD (.int 1))) none)) (.e (tupD (consA (cD (.bool true)) nilA))) (lift2 addD)) (consA (opd2 (.e (sliceD (.n 2) (some (cD (.int 1))) none)) (.e (tupD (consA (cD (.int 2147483648)) nilA))) (lift2 addD)) (consA (opd2 (.e (sliceD (.n 2) (some (cD (.int 1))) none)) (.e (tupD (consA (cD (.str "0")) nilA))) (lift2 addD)) (consA (cD (.int 5)) (consA (opd2 (.e (sliceD (.n 2) (some (cD (.int 1))) none)) (.e (tupD (consA (cD .none) nilA))) (lift2 addD)) nilA)))))))))) nilA))))
def C_5 : M Fl := (setS 4 (callD fx__law_pick (consA (vD 0) (consA (lstD (consA (cD .none) (consA (cD (.str "")) (consA (cD (.str "Add")) (consA (cD (.str "div")) (consA (cD (.int 0)) (consA (tupD (consA (cD (.str "add")) nilA)) (consA (lstD (consA (cD (.str "add")) nilA)) (consA (cD (.str "nums")) (consA (cD (.str "a")) nilA)))))))))) nilA))))
noncomputable def C_6 (cells : List (Str × Addr)) : M Fl := (setS 5 (callDL cells MB__law_is_computed [4, 3, 1] fx__law_all (consA (lstD (consA (lamD 0 cells) (consA (lamD 1 cells) (consA (lamD 2 cells) nilA)))) nilA)))
def C_7 : M Fl := (retS (ifD (opdT (.n 3) (.e (cD (.int 5))) neD) (opd2 (.n 5) (.e (lstD (consA (cD (.str "BadOp")) (consA (cD (.str "BadWords")) (consA (cD (.str "BadNumber")) nilA))))) (lift2 eqD)) (opd2 (.e (sliceD (.n 5) none (some (cD (.int 2))))) (.e (lstD (consA (cD (.str "BadOp")) (consA (cD (.str "BadWords")) nilA)))) (lift2 eqD))))
theorem is_computed_eq : fx__law_is_computed = fxC 1 6 fun cells => seqS C_1 (seqS C_2 (seqS C_3 (seqS C_4 (seqS C_5 (seqS (C_6 cells) C_7))))) := rfl
theorem C1_ok (h : Dw (n + 1) r) : ∃ z k r', isOp z k ∧ Dw n r' ∧ C_1 ⟨[.d tok, .u, .u, .u, .u, .u, .u], some r⟩ = .ok .nx ⟨[.d tok, .d (.str z), .u, .u, .u, .u, .u], some r'⟩ := by
  obtain ⟨p, hp, r1, w1, e1⟩ := pick_l (n := n) (xs := opsD) h (by simp [opsD]) (by decide)
  obtain ⟨z, k, rfl, hz⟩ := ops_op hp
  refine ⟨z, k, r1, hz, w1, ?_⟩
  unfold C_1
  simp only [fxOf, runD, seqS, retS, retN, ifS, exprS, setS, setE, cD, vD, opd1, opd2, pkS, lift1, lift2, andD, orD, notD, boolD, ofD, boolT, notT, andT, orT, ifD, opdT, callD, callF, consA, nilA, tupD, lstD, Sl.val, nxS, bkS, ctS, raiseS, parS, par3S, asgS, gT, gsCons, gsNil, gN, drAt, drRest, drTurn, drCells, drMore, drPop, drPutS, Out.bind_ok, Out.bind_exc, Out.bind_bad, List.getElem?_cons_zero, List.getElem?_cons_succ, List.getElem?_nil, List.set_cons_zero, List.set_cons_succ, List.length_cons, List.length_nil, List.map_cons, List.map_nil, List.replicate, List.cons_append, List.nil_append, Nat.reduceAdd, Nat.reduceLT, Nat.lt_irrefl, if_true, if_false, Option.bind_some, Option.bind_none, Option.map_some, Option.map_none, and_self, and_true, true_and, ite_true, ite_false, List.cons.injEq, reduceCtorEq, not_true_eq_false, not_false_eq_true, ne_eq, Nat.reduceEqDiff, okKeyW, ops_ok, e1]
theorem C2_ok {z : Str} {k : Nat} (hz : isOp z k) (h : Dw (n + 4) r) : ∃ (ws : List Int) (r' : Dr), ws.length = k ∧ (∀ i ∈ ws, IsW i) ∧ Dw n r' ∧ C_2 ⟨[.d tok, .d (.str z), .u, .u, .u, .u, .u], some r⟩ = .ok .nx ⟨[.d tok, .d (.str z), .d (.tuple (ws.map .int)), .u, .u, .u, .u], some r'⟩ := by
  have k2 : k ≤ 2 := by rcases hz with ⟨rfl, _⟩ | ⟨rfl, _⟩ <;> decide
  have e1 : callD fx__law_many_args (consA (vD 1) nilA) ⟨[.d tok, .d (.str z), .u, .u, .u, .u, .u], some r⟩ = .ok (.d (.int k)) ⟨[.d tok, .d (.str z), .u, .u, .u, .u, .u], some r⟩ := by
    simp only [fxOf, runD, seqS, retS, retN, ifS, exprS, setS, setE, cD, vD, opd1, opd2, pkS, lift1, lift2, andD, orD, notD, boolD, ofD, boolT, notT, andT, orT, ifD, opdT, callD, callF, consA, nilA, tupD, lstD, Sl.val, nxS, bkS, ctS, raiseS, parS, par3S, asgS, gT, gsCons, gsNil, gN, drAt, drRest, drTurn, drCells, drMore, drPop, drPutS, Out.bind_ok, Out.bind_exc, Out.bind_bad, List.getElem?_cons_zero, List.getElem?_cons_succ, List.getElem?_nil, List.set_cons_zero, List.set_cons_succ, List.length_cons, List.length_nil, List.map_cons, List.map_nil, List.replicate, List.cons_append, List.nil_append, Nat.reduceAdd, Nat.reduceLT, Nat.lt_irrefl, if_true, if_false, Option.bind_some, Option.bind_none, Option.map_some, Option.map_none, and_self, and_true, true_and, ite_true, ite_false, List.cons.injEq, reduceCtorEq, not_true_eq_false, not_false_eq_true, ne_eq, Nat.reduceEqDiff, okKeyW, many_ok hz]
  obtain ⟨acc, s', e2, ws, r2, hb, hc, hw, rfl, rfl⟩ := lc_done (g := gN 6) (t := yesT) (me := b__law_is_computed_1) (vs := [6]) (fun i acc s => ∃ (ws : List Int) (r2 : Dr), ws.length = i ∧ (∀ i ∈ ws, IsW i) ∧ Dw (n + 2 * (k - i)) r2 ∧ acc = ws.map .int ∧ s = ⟨[.d tok, .d (.str z), .u, .u, .u, .u, .u], some r2⟩)
    (rng1_ok (j := k) e1 rfl (by omega)) ⟨[], r, rfl, (fun b hb => by cases hb), h.mono (by omega), rfl, rfl⟩ (by
      rintro i x acc s hx ⟨ws, r2, hb, hc, hw, rfl, rfl⟩
      have hi : i < k := by
        have := (List.getElem?_eq_some_iff.mp hx).1
        simpa using this
      obtain ⟨c, r3, c1, w3, e3⟩ := word_ok (n := n + 2 * (k - (i + 1))) (r := r2) (hw.mono (by omega))
      refine ⟨⟨[.d tok, .d (.str z), .u, .u, .u, .u, .d x], some r2⟩, rfl, .inr ⟨⟨[.d tok, .d (.str z), .u, .u, .u, .u, .d x], some r2⟩, ⟨[.d tok, .d (.str z), .u, .u, .u, .u, .d x], some r3⟩, .d (.int c), rfl, ?_, ?_, ws ++ [c], r3, ?_, ?_, w3, ?_, rfl⟩⟩
      · unfold b__law_is_computed_1
        simp only [fxOf, runD, seqS, retS, retN, ifS, exprS, setS, setE, cD, vD, opd1, opd2, pkS, lift1, lift2, andD, orD, notD, boolD, ofD, boolT, notT, andT, orT, ifD, opdT, callD, callF, consA, nilA, tupD, lstD, Sl.val, nxS, bkS, ctS, raiseS, parS, par3S, asgS, gT, gsCons, gsNil, gN, drAt, drRest, drTurn, drCells, drMore, drPop, drPutS, Out.bind_ok, Out.bind_exc, Out.bind_bad, List.getElem?_cons_zero, List.getElem?_cons_succ, List.getElem?_nil, List.set_cons_zero, List.set_cons_succ, List.length_cons, List.length_nil, List.map_cons, List.map_nil, List.replicate, List.cons_append, List.nil_append, Nat.reduceAdd, Nat.reduceLT, Nat.lt_irrefl, if_true, if_false, Option.bind_some, Option.bind_none, Option.map_some, Option.map_none, and_self, and_true, true_and, ite_true, ite_false, List.cons.injEq, reduceCtorEq, not_true_eq_false, not_false_eq_true, ne_eq, Nat.reduceEqDiff, okKeyW, e3]
      · rw [List.length_map, sizeLine_eq]
        omega
      · rw [List.length_append, hb]
        rfl
      · intro b hb
        rcases List.mem_append.mp hb with hb | hb
        · exact hc b hb
        · rw [List.mem_singleton] at hb
          subst hb
          exact c1
      · rw [List.map_append]
        rfl)
  refine ⟨ws, r2, ?_, hc, hw.mono (by omega), ?_⟩
  · rw [hb, List.length_map, List.length_range]
  · unfold C_2
    generalize lcD (rng1D (callD fx__law_many_args (consA (vD 1) nilA))) (gN 6) yesT b__law_is_computed_1 [6] = M0 at e2
    simp only [fxOf, runD, seqS, retS, retN, ifS, exprS, setS, setE, cD, vD, opd1, opd2, pkS, lift1, lift2, andD, orD, notD, boolD, ofD, boolT, notT, andT, orT, ifD, opdT, callD, callF, consA, nilA, tupD, lstD, Sl.val, nxS, bkS, ctS, raiseS, parS, par3S, asgS, gT, gsCons, gsNil, gN, drAt, drRest, drTurn, drCells, drMore, drPop, drPutS, Out.bind_ok, Out.bind_exc, Out.bind_bad, List.getElem?_cons_zero, List.getElem?_cons_succ, List.getElem?_nil, List.set_cons_zero, List.set_cons_succ, List.length_cons, List.length_nil, List.map_cons, List.map_nil, List.replicate, List.cons_append, List.nil_append, Nat.reduceAdd, Nat.reduceLT, Nat.lt_irrefl, if_true, if_false, Option.bind_some, Option.bind_none, Option.map_some, Option.map_none, and_self, and_true, true_and, ite_true, ite_false, List.cons.injEq, reduceCtorEq, not_true_eq_false, not_false_eq_true, ne_eq, Nat.reduceEqDiff, okKeyW, e2, tupleD]
    rfl
theorem C3_ok {z : Str} {k : Nat} {ws : List Int} (hz : isOp z k) (hl : ws.length = k) (hw : ∀ i ∈ ws, IsW i) : C_3 ⟨[.d tok, .d (.str z), .d (.tuple (ws.map .int)), .u, .u, .u, .u], dr⟩ = .ok .nx ⟨[.d tok, .d (.str z), .d (.tuple (ws.map .int)), .u, .u, .u, .u], dr⟩ := by
  obtain ⟨v, hv, e⟩ := agree hz hl hw
  have e1 := fun dr => (e dr).1
  have e2 := fun dr => (e dr).2
  have s := fun dr => same_l (dr := dr) (d := .int v) (sh_int (Nat.lt_of_le_of_lt (show v.natAbs ≤ 2147483648 by unfold IsW at hv; omega) (by decide)))
  have p : pick [1, 0] [PyData.tuple (ws.map .int), .str z] = [.str z, .tuple (ws.map .int)] := rfl
  unfold C_3
  simp only [fxOf, runD, seqS, retS, retN, ifS, exprS, setS, setE, cD, vD, opd1, opd2, pkS, lift1, lift2, andD, orD, notD, boolD, ofD, boolT, notT, andT, orT, ifD, opdT, callD, callF, consA, nilA, tupD, lstD, Sl.val, nxS, bkS, ctS, raiseS, parS, par3S, asgS, gT, gsCons, gsNil, gN, drAt, drRest, drTurn, drCells, drMore, drPop, drPutS, Out.bind_ok, Out.bind_exc, Out.bind_bad, List.getElem?_cons_zero, List.getElem?_cons_succ, List.getElem?_nil, List.set_cons_zero, List.set_cons_succ, List.length_cons, List.length_nil, List.map_cons, List.map_nil, List.replicate, List.cons_append, List.nil_append, Nat.reduceAdd, Nat.reduceLT, Nat.lt_irrefl, if_true, if_false, Option.bind_some, Option.bind_none, Option.map_some, Option.map_none, and_self, and_true, true_and, ite_true, ite_false, List.cons.injEq, reduceCtorEq, not_true_eq_false, not_false_eq_true, ne_eq, Nat.reduceEqDiff, okKeyW, e1, e2, s, p, Bool.not_true, Bool.false_eq_true]
theorem C4_ok {z : Str} {x : D} {t : List D} (h : Dw (n + 1) r) (hl : t.length ≤ 5) : ∃ w r', w ∈ Wl x t ∧ Dw n r' ∧ C_4 ⟨[.d tok, .d (.str z), .d (.tuple (x :: t)), .u, .u, .u, .u], some r⟩ = .ok .nx ⟨[.d tok, .d (.str z), .d (.tuple (x :: t)), .d w, .u, .u, .u], some r'⟩ := by
  obtain ⟨w, hw, r1, w1, e1⟩ := pick_l (n := n) (xs := Wl x t) h (by simp [Wl]) (by simp [Wl])
  refine ⟨w, r1, hw, w1, ?_⟩
  have sl : slD (.tuple (x :: t)) (some 1) none = some (.d (.tuple t)) := by
    unfold slD
    simp only [cut1]
  have a0 : addD (.tuple (x :: t)) (.tuple [.int 0]) = some (.d (.tuple (x :: t ++ [.int 0]))) := add_tup (by simp only [List.length_cons, List.length_nil]; omega)
  have a1 (y : D) : addD (.tuple t) (.tuple [y]) = some (.d (.tuple (t ++ [y]))) := add_tup (by simp only [List.length_cons, List.length_nil]; omega)
  have l1 : listD (.tuple (x :: t)) = some (.o (.list (x :: t))) := rfl
  unfold Wl at e1
  rw [List.cons_append] at e1 a0
  unfold C_4
  simp only [fxOf, runD, seqS, retS, retN, ifS, exprS, setS, setE, cD, vD, opd1, opd2, pkS, lift1, lift2, andD, orD, notD, boolD, ofD, boolT, notT, andT, orT, ifD, opdT, callD, callF, consA, nilA, tupD, lstD, Sl.val, nxS, bkS, ctS, raiseS, parS, par3S, asgS, gT, gsCons, gsNil, gN, drAt, drRest, drTurn, drCells, drMore, drPop, drPutS, Out.bind_ok, Out.bind_exc, Out.bind_bad, List.getElem?_cons_zero, List.getElem?_cons_succ, List.getElem?_nil, List.set_cons_zero, List.set_cons_succ, List.length_cons, List.length_nil, List.map_cons, List.map_nil, List.replicate, List.cons_append, List.nil_append, Nat.reduceAdd, Nat.reduceLT, Nat.lt_irrefl, if_true, if_false, Option.bind_some, Option.bind_none, Option.map_some, Option.map_none, and_self, and_true, true_and, ite_true, ite_false, List.cons.injEq, reduceCtorEq, not_true_eq_false, not_false_eq_true, ne_eq, Nat.reduceEqDiff, okKeyW, sliceD, prtD, sl, a0, a1, l1, if_pos (size_ok (show 0 + 1 ≤ 1000 by decide)), if_pos (size_ok (show 1 ≤ 1000 by decide)), if_pos (size_ok (show 0 + 1 + 1 + 1 + 1 + 1 + 1 + 1 + 1 + 1 ≤ 1000 by decide)), if_pos (size_ok (show 9 ≤ 1000 by decide)), e1]
theorem C5_ok {x1 x2 x3 : Sl} (h : Dw (n + 1) r) : ∃ b r', b ∈ Bl ∧ Dw n r' ∧ C_5 ⟨[.d tok, x1, x2, x3, .u, .u, .u], some r⟩ = .ok .nx ⟨[.d tok, x1, x2, x3, .d b, .u, .u], some r'⟩ := by
  obtain ⟨w, hw, r1, w1, e1⟩ := pick_l (n := n) (xs := Bl) h (by simp [Bl]) (by simp [Bl])
  refine ⟨w, r1, hw, w1, ?_⟩
  unfold Bl at e1
  unfold C_5
  simp only [fxOf, runD, seqS, retS, retN, ifS, exprS, setS, setE, cD, vD, opd1, opd2, pkS, lift1, lift2, andD, orD, notD, boolD, ofD, boolT, notT, andT, orT, ifD, opdT, callD, callF, consA, nilA, tupD, lstD, Sl.val, nxS, bkS, ctS, raiseS, parS, par3S, asgS, gT, gsCons, gsNil, gN, drAt, drRest, drTurn, drCells, drMore, drPop, drPutS, Out.bind_ok, Out.bind_exc, Out.bind_bad, List.getElem?_cons_zero, List.getElem?_cons_succ, List.getElem?_nil, List.set_cons_zero, List.set_cons_succ, List.length_cons, List.length_nil, List.map_cons, List.map_nil, List.replicate, List.cons_append, List.nil_append, Nat.reduceAdd, Nat.reduceLT, Nat.lt_irrefl, if_true, if_false, Option.bind_some, Option.bind_none, Option.map_some, Option.map_none, and_self, and_true, true_and, ite_true, ite_false, List.cons.injEq, reduceCtorEq, not_true_eq_false, not_false_eq_true, ne_eq, Nat.reduceEqDiff, okKeyW, if_pos (size_ok (show 0 + 1 ≤ 1000 by decide)), if_pos (size_ok (show 1 ≤ 1000 by decide)), if_pos (size_ok (show 0 + 1 + 1 + 1 + 1 + 1 + 1 + 1 + 1 + 1 ≤ 1000 by decide)), if_pos (size_ok (show 9 ≤ 1000 by decide)), e1]
def toldL (w : D) : List D := if isNum w = true then [.str "BadOp", .str "BadWords"] else [.str "BadOp", .str "BadWords", .str "BadNumber"]
theorem C6_ok {z : Str} {w b x2 : D} (cells : List (Str × Addr)) (hw : Wr z w) (hb : b ∈ Bl) : C_6 cells ⟨[.d tok, .d (.str z), .d x2, .d w, .d b, .u, .u], dr⟩ = .ok .nx ⟨[.d tok, .d (.str z), .d x2, .d w, .d b, .d (.list (toldL w)), .u], dr⟩ := by
  have t0 : LTof cells [.d tok, .d (.str z), .d x2, .d w, .d b, .u, .u] MB__law_is_computed (lamTok 0 cells) dr = .exc "BadOp" dr := by
    refine LTof_hd.trans ?_
    unfold thunk lm_0
    simp only [fxOf, runD, seqS, retS, retN, ifS, exprS, setS, setE, cD, vD, opd1, opd2, pkS, lift1, lift2, andD, orD, notD, boolD, ofD, boolT, notT, andT, orT, ifD, opdT, callD, callF, consA, nilA, tupD, lstD, Sl.val, nxS, bkS, ctS, raiseS, parS, par3S, asgS, gT, gsCons, gsNil, gN, drAt, drRest, drTurn, drCells, drMore, drPop, drPutS, Out.bind_ok, Out.bind_exc, Out.bind_bad, List.getElem?_cons_zero, List.getElem?_cons_succ, List.getElem?_nil, List.set_cons_zero, List.set_cons_succ, List.length_cons, List.length_nil, List.map_cons, List.map_nil, List.replicate, List.cons_append, List.nil_append, Nat.reduceAdd, Nat.reduceLT, Nat.lt_irrefl, if_true, if_false, Option.bind_some, Option.bind_none, Option.map_some, Option.map_none, and_self, and_true, true_and, ite_true, ite_false, List.cons.injEq, reduceCtorEq, not_true_eq_false, not_false_eq_true, ne_eq, Nat.reduceEqDiff, okKeyW, computed_noop (bad_op hb dr)]
  have t1 : LTof cells [.d tok, .d (.str z), .d x2, .d w, .d b, .u, .u] MB__law_is_computed (lamTok 1 cells) dr = .exc "BadWords" dr := by
    refine (LTof_tl (by decide)).trans (LTof_hd.trans ?_)
    unfold thunk lm_1
    simp only [fxOf, runD, seqS, retS, retN, ifS, exprS, setS, setE, cD, vD, opd1, opd2, pkS, lift1, lift2, andD, orD, notD, boolD, ofD, boolT, notT, andT, orT, ifD, opdT, callD, callF, consA, nilA, tupD, lstD, Sl.val, nxS, bkS, ctS, raiseS, parS, par3S, asgS, gT, gsCons, gsNil, gN, drAt, drRest, drTurn, drCells, drMore, drPop, drPutS, Out.bind_ok, Out.bind_exc, Out.bind_bad, List.getElem?_cons_zero, List.getElem?_cons_succ, List.getElem?_nil, List.set_cons_zero, List.set_cons_succ, List.length_cons, List.length_nil, List.map_cons, List.map_nil, List.replicate, List.cons_append, List.nil_append, Nat.reduceAdd, Nat.reduceLT, Nat.lt_irrefl, if_true, if_false, Option.bind_some, Option.bind_none, Option.map_some, Option.map_none, and_self, and_true, true_and, ite_true, ite_false, List.cons.injEq, reduceCtorEq, not_true_eq_false, not_false_eq_true, ne_eq, Nat.reduceEqDiff, okKeyW, hw.bad dr]
  have t2 : LTof cells [.d tok, .d (.str z), .d x2, .d w, .d b, .u, .u] MB__law_is_computed (lamTok 2 cells) dr = if isNum w = true then .ok (.int (fo 5)) dr else .exc "BadNumber" dr := by
    refine (LTof_tl (by decide)).trans ((LTof_tl (by decide)).trans (LTof_hd.trans ?_))
    unfold thunk lm_2
    rcases hw.five with ⟨hn, _⟩ | rfl
    · simp only [fxOf, runD, seqS, retS, retN, ifS, exprS, setS, setE, cD, vD, opd1, opd2, pkS, lift1, lift2, andD, orD, notD, boolD, ofD, boolT, notT, andT, orT, ifD, opdT, callD, callF, consA, nilA, tupD, lstD, Sl.val, nxS, bkS, ctS, raiseS, parS, par3S, asgS, gT, gsCons, gsNil, gN, drAt, drRest, drTurn, drCells, drMore, drPop, drPutS, Out.bind_ok, Out.bind_exc, Out.bind_bad, List.getElem?_cons_zero, List.getElem?_cons_succ, List.getElem?_nil, List.set_cons_zero, List.set_cons_succ, List.length_cons, List.length_nil, List.map_cons, List.map_nil, List.replicate, List.cons_append, List.nil_append, Nat.reduceAdd, Nat.reduceLT, Nat.lt_irrefl, if_true, if_false, Option.bind_some, Option.bind_none, Option.map_some, Option.map_none, and_self, and_true, true_and, ite_true, ite_false, List.cons.injEq, reduceCtorEq, not_true_eq_false, not_false_eq_true, ne_eq, Nat.reduceEqDiff, okKeyW, wrap_bad hw.plain hn, hn, Bool.false_eq_true]
    · simp only [fxOf, runD, seqS, retS, retN, ifS, exprS, setS, setE, cD, vD, opd1, opd2, pkS, lift1, lift2, andD, orD, notD, boolD, ofD, boolT, notT, andT, orT, ifD, opdT, callD, callF, consA, nilA, tupD, lstD, Sl.val, nxS, bkS, ctS, raiseS, parS, par3S, asgS, gT, gsCons, gsNil, gN, drAt, drRest, drTurn, drCells, drMore, drPop, drPutS, Out.bind_ok, Out.bind_exc, Out.bind_bad, List.getElem?_cons_zero, List.getElem?_cons_succ, List.getElem?_nil, List.set_cons_zero, List.set_cons_succ, List.length_cons, List.length_nil, List.map_cons, List.map_nil, List.replicate, List.cons_append, List.nil_append, Nat.reduceAdd, Nat.reduceLT, Nat.lt_irrefl, if_true, if_false, Option.bind_some, Option.bind_none, Option.map_some, Option.map_none, and_self, and_true, true_and, ite_true, ite_false, List.cons.injEq, reduceCtorEq, not_true_eq_false, not_false_eq_true, ne_eq, Nat.reduceEqDiff, okKeyW, wrap_ok, isNum]
  have all : fx__law_all (LTof cells [.d tok, .d (.str z), .d x2, .d w, .d b, .u, .u] MB__law_is_computed) [.list [lamTok 0 cells, lamTok 1 cells, lamTok 2 cells]] dr = .ok (.list (toldL w)) dr := by
    by_cases hn : isNum w = true
    · rw [if_pos hn] at t2
      have := all_ok (T := LTof cells [.d tok, .d (.str z), .d x2, .d w, .d b, .u, .u] MB__law_is_computed) (dr := dr) (.cons (told_BadOp t0) (.cons (told_BadWords t1) (.cons (told_none t2) .nil))) (by simp)
      unfold toldL
      rw [if_pos hn]
      exact this
    · rw [if_neg hn] at t2
      have := all_ok (T := LTof cells [.d tok, .d (.str z), .d x2, .d w, .d b, .u, .u] MB__law_is_computed) (dr := dr) (.cons (told_BadOp t0) (.cons (told_BadWords t1) (.cons (told_BadNumber t2) .nil))) (by simp)
      unfold toldL
      rw [if_neg hn]
      exact this
  unfold C_6 setS callDL
  have a : consA (lstD (consA (lamD 0 cells) (consA (lamD 1 cells) (consA (lamD 2 cells) nilA)))) nilA ⟨[.d tok, .d (.str z), .d x2, .d w, .d b, .u, .u], dr⟩ = .ok [.list [lamTok 0 cells, lamTok 1 cells, lamTok 2 cells]] ⟨[.d tok, .d (.str z), .d x2, .d w, .d b, .u, .u], dr⟩ := by
    simp only [fxOf, runD, seqS, retS, retN, ifS, exprS, setS, setE, cD, vD, opd1, opd2, pkS, lift1, lift2, andD, orD, notD, boolD, ofD, boolT, notT, andT, orT, ifD, opdT, callD, callF, consA, nilA, tupD, lstD, Sl.val, nxS, bkS, ctS, raiseS, parS, par3S, asgS, gT, gsCons, gsNil, gN, drAt, drRest, drTurn, drCells, drMore, drPop, drPutS, Out.bind_ok, Out.bind_exc, Out.bind_bad, List.getElem?_cons_zero, List.getElem?_cons_succ, List.getElem?_nil, List.set_cons_zero, List.set_cons_succ, List.length_cons, List.length_nil, List.map_cons, List.map_nil, List.replicate, List.cons_append, List.nil_append, Nat.reduceAdd, Nat.reduceLT, Nat.lt_irrefl, if_true, if_false, Option.bind_some, Option.bind_none, Option.map_some, Option.map_none, and_self, and_true, true_and, ite_true, ite_false, List.cons.injEq, reduceCtorEq, not_true_eq_false, not_false_eq_true, ne_eq, Nat.reduceEqDiff, okKeyW, lamD, if_pos (size_ok (show 0 + 1 + 1 + 1 ≤ 1000 by decide)), if_pos (size_ok (show 3 ≤ 1000 by decide))]
  rw [a]
  simp only [Out.bind_ok]
  have f : frzS [4, 3, 1] ⟨[.d tok, .d (.str z), .d x2, .d w, .d b, .u, .u], dr⟩ = ⟨[.d tok, .d (.str z), .d x2, .d w, .d b, .u, .u], dr⟩ := rfl
  have o : onlyD [.d tok, .d (.str z), .d x2, .d w, .d b, .u, .u] = [.d tok, .d (.str z), .d x2, .d w, .d b, .u, .u] := rfl
  rw [f]
  simp only [o, callF, all]
  rfl
theorem sh_told3 : Sh (.list [.str "BadOp", .str "BadWords", .str "BadNumber"]) := ⟨by decide +kernel, by simp [PyData.depth, PyData.depthAll], by decide +kernel⟩
theorem sh_told2 : Sh (.list [.str "BadOp", .str "BadWords"]) := ⟨by decide +kernel, by simp [PyData.depth, PyData.depthAll], by decide +kernel⟩
theorem C7_ok {z : Str} {w b x2 : D} (hw : Wr z w) : ∃ s', s'.dr = dr ∧ C_7 ⟨[.d tok, .d (.str z), .d x2, .d w, .d b, .d (.list (toldL w)), .u], dr⟩ = .ok (.rt (.d (.bool true))) s' := by
  refine ⟨⟨[.d tok, .d (.str z), .d x2, .d w, .d b, .d (.list (toldL w)), .u], dr⟩, rfl, ?_⟩
  unfold C_7
  rcases hw.five with ⟨hn, h5⟩ | rfl
  · have : toldL w = [.str "BadOp", .str "BadWords", .str "BadNumber"] := if_neg (by rw [hn]; decide)
    rw [this]
    simp only [fxOf, runD, seqS, retS, retN, ifS, exprS, setS, setE, cD, vD, opd1, opd2, pkS, lift1, lift2, andD, orD, notD, boolD, ofD, boolT, notT, andT, orT, ifD, opdT, callD, callF, consA, nilA, tupD, lstD, Sl.val, nxS, bkS, ctS, raiseS, parS, par3S, asgS, gT, gsCons, gsNil, gN, drAt, drRest, drTurn, drCells, drMore, drPop, drPutS, Out.bind_ok, Out.bind_exc, Out.bind_bad, List.getElem?_cons_zero, List.getElem?_cons_succ, List.getElem?_nil, List.set_cons_zero, List.set_cons_succ, List.length_cons, List.length_nil, List.map_cons, List.map_nil, List.replicate, List.cons_append, List.nil_append, Nat.reduceAdd, Nat.reduceLT, Nat.lt_irrefl, if_true, if_false, Option.bind_some, Option.bind_none, Option.map_some, Option.map_none, and_self, and_true, true_and, ite_true, ite_false, List.cons.injEq, reduceCtorEq, not_true_eq_false, not_false_eq_true, ne_eq, Nat.reduceEqDiff, okKeyW, h5, if_pos (size_ok (show 0 + 1 + 1 + 1 ≤ 1000 by decide)), if_pos (size_ok (show 3 ≤ 1000 by decide)), sh_told3.eq]
  · have : toldL (.int 5) = [.str "BadOp", .str "BadWords"] := rfl
    rw [this]
    have sl : slD (.list [.str "BadOp", .str "BadWords"]) none (some 2) = some (.o (.list [.str "BadOp", .str "BadWords"])) := rfl
    simp only [fxOf, runD, seqS, retS, retN, ifS, exprS, setS, setE, cD, vD, opd1, opd2, pkS, lift1, lift2, andD, orD, notD, boolD, ofD, boolT, notT, andT, orT, ifD, opdT, callD, callF, consA, nilA, tupD, lstD, Sl.val, nxS, bkS, ctS, raiseS, parS, par3S, asgS, gT, gsCons, gsNil, gN, drAt, drRest, drTurn, drCells, drMore, drPop, drPutS, Out.bind_ok, Out.bind_exc, Out.bind_bad, List.getElem?_cons_zero, List.getElem?_cons_succ, List.getElem?_nil, List.set_cons_zero, List.set_cons_succ, List.length_cons, List.length_nil, List.map_cons, List.map_nil, List.replicate, List.cons_append, List.nil_append, Nat.reduceAdd, Nat.reduceLT, Nat.lt_irrefl, if_true, if_false, Option.bind_some, Option.bind_none, Option.map_some, Option.map_none, and_self, and_true, true_and, ite_true, ite_false, List.cons.injEq, reduceCtorEq, not_true_eq_false, not_false_eq_true, ne_eq, Nat.reduceEqDiff, okKeyW, neD_int, decide_true, Bool.not_true, Bool.false_eq_true, sliceD, prtD, sl, if_pos (size_ok (show 0 + 1 + 1 ≤ 1000 by decide)), if_pos (size_ok (show 2 ≤ 1000 by decide)), sh_told2.eq]
theorem is_computed_ok (h : Dw (n + 10) r) : ∃ r', Dw n r' ∧ fx__law_is_computed [tok] (some r) = .ok (.bool true) (some r') := by
  obtain ⟨z, k, r1, hz, w1, e1⟩ := C1_ok (n := n + 9) h
  obtain ⟨ws, r2, hl, hw, w2, e2⟩ := C2_ok (n := n + 5) hz w1
  have k2 : 1 ≤ k ∧ k ≤ 2 := by rcases hz with ⟨rfl, _⟩ | ⟨rfl, _⟩ <;> decide
  have e3 := C3_ok (dr := some r2) hz hl hw
  match ws, hl, hw, e2, e3 with
  | [], hl, _, _, _ => exact absurd hl (by simp only [List.length_nil]; omega)
  | i :: ws, hl, hw, e2, e3 =>
    rw [List.map_cons] at e2 e3
    obtain ⟨w, r3, hwl, w3, e4⟩ := C4_ok (n := n + 4) (z := z) (x := .int i) (t := ws.map .int) w2 (by rw [List.length_map]; rw [List.length_cons] at hl; omega)
    obtain ⟨b, r4, hb, w4, e5⟩ := C5_ok (n := n + 3) (x1 := .d (.str z)) (x2 := .d (.tuple (.int i :: ws.map .int))) (x3 := .d w) w3
    have hwr : Wr z w := wrong_ok hz (by rw [List.length_cons, List.length_map]; exact hl) (fun d hd => by
      rw [← List.map_cons] at hd
      obtain ⟨j, _, rfl⟩ := List.mem_map.mp hd
      rfl) hwl
    obtain ⟨s', hs, e7⟩ := C7_ok (dr := some r4) (b := b) (x2 := .tuple (.int i :: ws.map .int)) hwr
    refine ⟨r4, w4.mono (by omega), ?_⟩
    rw [is_computed_eq]
    refine fxC_eq fun cells => ?_
    have := fx_rt (k := 1) (n := 6) (ds := [tok]) (dr := some r) rfl ((seqS_nx e1).trans ((seqS_nx e2).trans ((seqS_nx e3).trans ((seqS_nx e4).trans ((seqS_nx e5).trans ((seqS_nx (C6_ok cells hwr hb)).trans e7))))))
    rw [hs] at this
    exact this
end Lw
end
section
set_option Elab.async false
set_option linter.all false
set_option maxRecDepth 100000
set_option maxHeartbeats 4000000
namespace Lw
open PySem PySem.Spec L2 Dy LamX
section
variable [Ph] {dr : Option Dr} {n : Nat} {r : Dr}
theorem shOks_ints : ∀ {l : List Int}, (∀ i ∈ l, i.natAbs < 2 ^ 200) → shOks (l.map .int) = true ∧ shBs (l.map .int) = 1923 * l.length ∧ PyData.depthAll (l.map .int) ≤ 1
  | [], _ => ⟨rfl, rfl, by simp [PyData.depthAll]⟩
  | i :: l, h => by
    obtain ⟨h1, h2, h3⟩ := shOks_ints (l := l) fun i hi => h i (List.mem_cons_of_mem _ hi)
    have hi := log2_le (h i List.mem_cons_self)
    rw [List.map_cons]
    refine ⟨?_, ?_, ?_⟩
    · rw [shOks, h1, shOk, decide_eq_true (show i.natAbs.log2 < 1920 by omega)]
      rfl
    · rw [shBs, h2, shB, List.length_cons]
      omega
    · rw [PyData.depthAll]
      exact Nat.max_le.mpr ⟨by simp [PyData.depth], h3⟩
theorem sh_ints {l : List Int} (h : ∀ i ∈ l, i.natAbs < 2 ^ 200) (hl : l.length ≤ 100) : Sh (.list (l.map .int)) := by
  obtain ⟨h1, h2, h3⟩ := shOks_ints h
  refine ⟨by rw [shOk]; exact h1, ?_, by rw [shB, h2]; omega⟩
  rw [PyData.depth]
  omega
theorem fo_small (i : Int) : (fo i).natAbs < 2 ^ 200 := Nat.lt_of_le_of_lt (show (fo i).natAbs ≤ 2147483648 by have := fo_lo i; omega) (by decide)
theorem sh_bool (b : Bool) : Sh (.bool b) := ⟨rfl, by simp [PyData.depth], by simp [shB]⟩
def L_1 : M Fl := (setS 1 (callD fx__law_begun (consA (vD 0) nilA)))
def L_2 : M Fl := (ifS (orT (notT (ofD (callD fx__law_same (consA (cD (.tuple (g_KEPT.map .str))) (consA (opd1 (.e (callD fx__law_kept nilA)) (lift1 tupleD)) nilA))))) (notT (ofD (callD fx__law_same (consA (lstD (consA (callD fx_is_name (consA (cD (.str "abcdefgh")) nilA)) (consA (callD fx_is_name (consA (cD (.str "abcdefghi")) nilA)) nilA))) (consA (lstD (consA (cD (.bool true)) (consA (cD (.bool false)) nilA))) nilA)))))) (retS (cD (.bool false))) nxS)
def L_3i : M (List D) := (itD (opd2 (.e (callD fx__law_kept nilA)) (.e (lstD (consA (cD (.str "")) (consA (cD .none) (consA (cD (.int 5)) (consA (cD (.bool true)) (consA (tupD (consA (cD (.str "a")) nilA)) (consA (lstD (consA (cD (.str "a")) nilA)) (consA (cD (.str "A")) (consA (cD (.str "a ")) (consA (cD (.str "a\n")) (consA (cD (.str "1")) nilA)))))))))))) (lift2 addD)))
def L_4i : M (List D) := (rng1D (opd2 (.e (cD (.int 12))) (.e (opd2 (.e (opd1 (.n 0) (lift1 lenD))) (.e (cD (.int 12))) (lift2 min2D))) (lift2 addD)))
def L_5 : M Fl := (setS 4 (lstD (consA (callD fx_wrap (consA (cD (.int 2147483648)) nilA)) (consA (callD fx_wrap (consA (opd2 (.e (cD (.int 0))) (.e (cD (.int 2147483649))) (lift2 subD)) nilA)) (consA (callD fx_computed (consA (cD (.str "mul")) (consA (tupD (consA (cD (.int 65536)) (consA (cD (.int 65536)) nilA))) nilA))) (consA (callD fx_computed (consA (cD (.str "sub")) (consA (tupD (consA (opd2 (.e (cD (.int 0))) (.e (cD (.int 2147483648))) (lift2 subD)) (consA (cD (.int 1)) nilA))) nilA))) (consA (callD fx_computed (consA (cD (.str "less")) (consA (tupD (consA (opd2 (.e (cD (.int 0))) (.e (cD (.int 1))) (lift2 subD)) (consA (cD (.int 0)) nilA))) nilA))) nilA)))))))
def L_6 : M Fl := (retS (callD fx__law_same (consA (vD 4) (consA (lstD (consA (opd2 (.e (cD (.int 0))) (.e (cD (.int 2147483648))) (lift2 subD)) (consA (cD (.int 2147483647)) (consA (cD (.int 0)) (consA (cD (.int 2147483647)) (consA (cD (.int 1)) nilA)))))) nilA))))
theorem law_eq : fx_law = fxOf 1 7 (seqS L_1 (seqS L_2 (seqS (Dy.forM L_3i (gN 2) b_law_1) (seqS (Dy.forM L_4i (gN 3) b_law_2) (seqS L_5 L_6))))) := rfl
def B_1 : M Fl := (setS 2 (callD fx__law_near_word (consA (vD 1) nilA)))
noncomputable def B_2 : M Fl := (ifS (orT (notT (ofD (callD fx__law_same (consA (callD fx_is_name (consA (vD 2) nilA)) (consA (callD fx__law_is_name (consA (vD 2) nilA)) nilA))))) (notT (ofD (callD fx__law_is_computed (consA (vD 1) nilA))))) (retS (cD (.bool false))) nxS)
def B_3 : M Fl := (parS 6 7 (callD fx__law_number (consA (vD 1) nilA)) (callD fx__law_number (consA (vD 1) nilA)))
def B_4 : M Fl := (ifS (notT (ofD (callD fx__law_same (consA (lstD (consA (callD fx_wrap (consA (vD 6) nilA)) (consA (callD fx_wrap fun s => ((consA (vD 7) nilA) s).bind fun ds s => .ok (pick [0] ds) s) nilA))) (consA (lstD (consA (callD fx__law_folded (consA (vD 6) nilA)) (consA (callD fx__law_folded (consA (vD 7) nilA)) nilA))) nilA))))) (retS (cD (.bool false))) nxS)
def B_5 : M Fl := (setS 5 (tupD (consA (callD fx_wrap (consA (vD 6) nilA)) (consA (callD fx_wrap (consA (vD 7) nilA)) nilA))))
def B_6 : M Fl := (ifS (notT (ofD (callD fx__law_same (consA (lstD (consA (callD fx_wrap (consA (opd2 (.n 6) (.n 7) (lift2 addD)) nilA)) (consA (callD fx_wrap (consA (opd2 (.n 6) (.n 7) (lift2 subD)) nilA)) (consA (callD fx_wrap (consA (opd2 (.n 6) (.n 7) (lift2 mulD)) nilA)) nilA)))) (consA (lstD (consA (callD fx_computed (consA (cD (.str "add")) (consA (vD 5) nilA))) (consA (callD fx_computed (consA (cD (.str "sub")) (consA (vD 5) nilA))) (consA (callD fx_computed (consA (cD (.str "mul")) (consA (vD 5) nilA))) nilA)))) nilA))))) (retS (cD (.bool false))) nxS)
def B_7 : M Fl := (ifS (opdT (.e (opd2 (.e (callD fx_computed (consA (cD (.str "less")) (consA (vD 5) nilA)))) (.e (cD (.int 1))) (lift2 eqD))) (.e (andD (opd2 (.e (callD fx_computed (consA (cD (.str "less")) (consA (opd1 (.n 5) (lift1 revD)) nilA)))) (.e (cD (.int 0))) (lift2 eqD)) (opd2 (.e (callD fx_computed (consA (cD (.str "same")) (consA (vD 5) nilA)))) (.e (cD (.int 0))) (lift2 eqD)))) neD) (retS (cD (.bool false))) nxS)
theorem turn_eq : b_law_2 = seqS B_1 (seqS B_2 (seqS B_3 (seqS B_4 (seqS B_5 (seqS B_6 B_7))))) := rfl
theorem val_add (a b : Int) : val "add" a b = fo (a + b) := if_pos rfl
theorem val_sub (a b : Int) : val "sub" a b = fo (a - b) := (if_neg (by decide)).trans (if_pos rfl)
theorem val_mul (a b : Int) : val "mul" a b = fo (a * b) := (if_neg (by decide)).trans ((if_neg (by decide)).trans (if_pos rfl))
theorem val_less (a b : Int) : val "less" a b = if a < b then 1 else 0 := (if_neg (by decide)).trans ((if_neg (by decide)).trans ((if_neg (by decide)).trans (if_pos rfl)))
theorem val_same (a b : Int) : val "same" a b = if a = b then 1 else 0 := (if_neg (by decide)).trans ((if_neg (by decide)).trans ((if_neg (by decide)).trans (if_neg (by decide))))
theorem neD_bool (b : Bool) : neD (.bool b) (.bool b) = some (.d (.bool false)) := by cases b <;> rfl
theorem turn_ok' {L : D} {i : D} {x2 x5 x6 x7 : Sl} (h : Dw (n + 60) r) : ∃ (r' : Dr) (y2 y5 y6 y7 : Sl), Dw n r' ∧ b_law_2 ⟨[.d L, .d tok, x2, .d i, .u, x5, x6, x7], some r⟩ = .ok .nx ⟨[.d L, .d tok, y2, .d i, .u, y5, y6, y7], some r'⟩ := by
  obtain ⟨y, r1, hy, w1, e1⟩ := near_ok (n := n + 20) h
  obtain ⟨r2, w2, e2⟩ := is_computed_ok (n := n + 10) w1
  obtain ⟨a, r3, ha, w3, e3⟩ := number_ok (n := n + 7) w2
  obtain ⟨b, r4, hb, w4, e4⟩ := number_ok (n := n + 4) w3
  refine ⟨r4, .d (.str y), .d (.tuple [.int (fo a), .int (fo b)]), .d (.int a), .d (.int b), w4.mono (by omega), ?_⟩
  have f1 : B_1 ⟨[.d L, .d tok, x2, .d i, .u, x5, x6, x7], some r⟩ = .ok .nx ⟨[.d L, .d tok, .d (.str y), .d i, .u, x5, x6, x7], some r1⟩ := by
    unfold B_1
    simp only [fxOf, runD, seqS, retS, retN, ifS, exprS, setS, setE, cD, vD, opd1, opd2, pkS, lift1, lift2, andD, orD, notD, boolD, ofD, boolT, notT, andT, orT, ifD, opdT, callD, callF, consA, nilA, tupD, lstD, Sl.val, nxS, bkS, ctS, raiseS, parS, par3S, asgS, gT, gsCons, gsNil, gN, drAt, drRest, drTurn, drCells, drMore, drPop, drPutS, Out.bind_ok, Out.bind_exc, Out.bind_bad, List.getElem?_cons_zero, List.getElem?_cons_succ, List.getElem?_nil, List.set_cons_zero, List.set_cons_succ, List.length_cons, List.length_nil, List.map_cons, List.map_nil, List.replicate, List.cons_append, List.nil_append, Nat.reduceAdd, Nat.reduceLT, Nat.lt_irrefl, if_true, if_false, Option.bind_some, Option.bind_none, Option.map_some, Option.map_none, and_self, and_true, true_and, ite_true, ite_false, List.cons.injEq, reduceCtorEq, not_true_eq_false, not_false_eq_true, ne_eq, Nat.reduceEqDiff, okKeyW, e1]
  have f2 : B_2 ⟨[.d L, .d tok, .d (.str y), .d i, .u, x5, x6, x7], some r1⟩ = .ok .nx ⟨[.d L, .d tok, .d (.str y), .d i, .u, x5, x6, x7], some r2⟩ := by
    unfold B_2
    simp only [fxOf, runD, seqS, retS, retN, ifS, exprS, setS, setE, cD, vD, opd1, opd2, pkS, lift1, lift2, andD, orD, notD, boolD, ofD, boolT, notT, andT, orT, ifD, opdT, callD, callF, consA, nilA, tupD, lstD, Sl.val, nxS, bkS, ctS, raiseS, parS, par3S, asgS, gT, gsCons, gsNil, gN, drAt, drRest, drTurn, drCells, drMore, drPop, drPutS, Out.bind_ok, Out.bind_exc, Out.bind_bad, List.getElem?_cons_zero, List.getElem?_cons_succ, List.getElem?_nil, List.set_cons_zero, List.set_cons_succ, List.length_cons, List.length_nil, List.map_cons, List.map_nil, List.replicate, List.cons_append, List.nil_append, Nat.reduceAdd, Nat.reduceLT, Nat.lt_irrefl, if_true, if_false, Option.bind_some, Option.bind_none, Option.map_some, Option.map_none, and_self, and_true, true_and, ite_true, ite_false, List.cons.injEq, reduceCtorEq, not_true_eq_false, not_false_eq_true, ne_eq, Nat.reduceEqDiff, okKeyW, is_name_ok (show y.length ≤ 1000 by omega), law_is_name_ok (show y.length ≤ 1000 by omega), same_l (sh_bool (nmB y)), e2, Bool.not_true, Bool.false_eq_true]
  have f3 : B_3 ⟨[.d L, .d tok, .d (.str y), .d i, .u, x5, x6, x7], some r2⟩ = .ok .nx ⟨[.d L, .d tok, .d (.str y), .d i, .u, x5, .d (.int a), .d (.int b)], some r4⟩ := by
    unfold B_3
    simp only [fxOf, runD, seqS, retS, retN, ifS, exprS, setS, setE, cD, vD, opd1, opd2, pkS, lift1, lift2, andD, orD, notD, boolD, ofD, boolT, notT, andT, orT, ifD, opdT, callD, callF, consA, nilA, tupD, lstD, Sl.val, nxS, bkS, ctS, raiseS, parS, par3S, asgS, gT, gsCons, gsNil, gN, drAt, drRest, drTurn, drCells, drMore, drPop, drPutS, Out.bind_ok, Out.bind_exc, Out.bind_bad, List.getElem?_cons_zero, List.getElem?_cons_succ, List.getElem?_nil, List.set_cons_zero, List.set_cons_succ, List.length_cons, List.length_nil, List.map_cons, List.map_nil, List.replicate, List.cons_append, List.nil_append, Nat.reduceAdd, Nat.reduceLT, Nat.lt_irrefl, if_true, if_false, Option.bind_some, Option.bind_none, Option.map_some, Option.map_none, and_self, and_true, true_and, ite_true, ite_false, List.cons.injEq, reduceCtorEq, not_true_eq_false, not_false_eq_true, ne_eq, Nat.reduceEqDiff, okKeyW, e3, e4]
  have s2 : Sh (.list [.int (fo a), .int (fo b)]) := sh_ints (l := [fo a, fo b]) (fun i hi => by
    simp only [List.mem_cons, List.not_mem_nil, or_false] at hi
    rcases hi with rfl | rfl <;> exact fo_small _) (show 2 ≤ 100 by decide)
  have p : pick [0] [PyData.int b] = [.int b] := rfl
  have f4 : B_4 ⟨[.d L, .d tok, .d (.str y), .d i, .u, x5, .d (.int a), .d (.int b)], some r4⟩ = .ok .nx ⟨[.d L, .d tok, .d (.str y), .d i, .u, x5, .d (.int a), .d (.int b)], some r4⟩ := by
    unfold B_4
    simp only [fxOf, runD, seqS, retS, retN, ifS, exprS, setS, setE, cD, vD, opd1, opd2, pkS, lift1, lift2, andD, orD, notD, boolD, ofD, boolT, notT, andT, orT, ifD, opdT, callD, callF, consA, nilA, tupD, lstD, Sl.val, nxS, bkS, ctS, raiseS, parS, par3S, asgS, gT, gsCons, gsNil, gN, drAt, drRest, drTurn, drCells, drMore, drPop, drPutS, Out.bind_ok, Out.bind_exc, Out.bind_bad, List.getElem?_cons_zero, List.getElem?_cons_succ, List.getElem?_nil, List.set_cons_zero, List.set_cons_succ, List.length_cons, List.length_nil, List.map_cons, List.map_nil, List.replicate, List.cons_append, List.nil_append, Nat.reduceAdd, Nat.reduceLT, Nat.lt_irrefl, if_true, if_false, Option.bind_some, Option.bind_none, Option.map_some, Option.map_none, and_self, and_true, true_and, ite_true, ite_false, List.cons.injEq, reduceCtorEq, not_true_eq_false, not_false_eq_true, ne_eq, Nat.reduceEqDiff, okKeyW, wrap_ok, p, folded_ok, if_pos (size_ok (show 0 + 1 + 1 ≤ 1000 by decide)), if_pos (size_ok (show 2 ≤ 1000 by decide)), same_l s2, Bool.not_true, Bool.false_eq_true]
  have f5 : B_5 ⟨[.d L, .d tok, .d (.str y), .d i, .u, x5, .d (.int a), .d (.int b)], some r4⟩ = .ok .nx ⟨[.d L, .d tok, .d (.str y), .d i, .u, .d (.tuple [.int (fo a), .int (fo b)]), .d (.int a), .d (.int b)], some r4⟩ := by
    unfold B_5
    simp only [fxOf, runD, seqS, retS, retN, ifS, exprS, setS, setE, cD, vD, opd1, opd2, pkS, lift1, lift2, andD, orD, notD, boolD, ofD, boolT, notT, andT, orT, ifD, opdT, callD, callF, consA, nilA, tupD, lstD, Sl.val, nxS, bkS, ctS, raiseS, parS, par3S, asgS, gT, gsCons, gsNil, gN, drAt, drRest, drTurn, drCells, drMore, drPop, drPutS, Out.bind_ok, Out.bind_exc, Out.bind_bad, List.getElem?_cons_zero, List.getElem?_cons_succ, List.getElem?_nil, List.set_cons_zero, List.set_cons_succ, List.length_cons, List.length_nil, List.map_cons, List.map_nil, List.replicate, List.cons_append, List.nil_append, Nat.reduceAdd, Nat.reduceLT, Nat.lt_irrefl, if_true, if_false, Option.bind_some, Option.bind_none, Option.map_some, Option.map_none, and_self, and_true, true_and, ite_true, ite_false, List.cons.injEq, reduceCtorEq, not_true_eq_false, not_false_eq_true, ne_eq, Nat.reduceEqDiff, okKeyW, wrap_ok, if_pos (size_ok (show 0 + 1 + 1 ≤ 1000 by decide)), if_pos (size_ok (show 2 ≤ 1000 by decide))]
  have wa : IsW (fo a) := fo_lo a
  have wb : IsW (fo b) := fo_lo b
  have s3 : Sh (.list [.int (fo (a + b)), .int (fo (a - b)), .int (fo (a * b))]) := sh_ints (l := [fo (a + b), fo (a - b), fo (a * b)]) (fun i hi => by
    simp only [List.mem_cons, List.not_mem_nil, or_false] at hi
    rcases hi with rfl | rfl | rfl <;> exact fo_small _) (show 3 ≤ 100 by decide)
  have hm : mulD (.int a) (.int b) = some (.d (.int (a * b))) := mulD_int (by
    have := log2_le ha
    have := log2_le hb
    omega)
  have f6 : B_6 ⟨[.d L, .d tok, .d (.str y), .d i, .u, .d (.tuple [.int (fo a), .int (fo b)]), .d (.int a), .d (.int b)], some r4⟩ = .ok .nx ⟨[.d L, .d tok, .d (.str y), .d i, .u, .d (.tuple [.int (fo a), .int (fo b)]), .d (.int a), .d (.int b)], some r4⟩ := by
    have c1 := fun dr => computed2 (dr := dr) (z := "add") (.inl rfl) wa wb
    have c2 := fun dr => computed2 (dr := dr) (z := "sub") (.inr (.inl rfl)) wa wb
    have c3 := fun dr => computed2 (dr := dr) (z := "mul") (.inr (.inr (.inl rfl))) wa wb
    simp only [val_add, val_sub, val_mul, fo_add, fo_sub, fo_mul] at c1 c2 c3
    unfold B_6
    simp only [fxOf, runD, seqS, retS, retN, ifS, exprS, setS, setE, cD, vD, opd1, opd2, pkS, lift1, lift2, andD, orD, notD, boolD, ofD, boolT, notT, andT, orT, ifD, opdT, callD, callF, consA, nilA, tupD, lstD, Sl.val, nxS, bkS, ctS, raiseS, parS, par3S, asgS, gT, gsCons, gsNil, gN, drAt, drRest, drTurn, drCells, drMore, drPop, drPutS, Out.bind_ok, Out.bind_exc, Out.bind_bad, List.getElem?_cons_zero, List.getElem?_cons_succ, List.getElem?_nil, List.set_cons_zero, List.set_cons_succ, List.length_cons, List.length_nil, List.map_cons, List.map_nil, List.replicate, List.cons_append, List.nil_append, Nat.reduceAdd, Nat.reduceLT, Nat.lt_irrefl, if_true, if_false, Option.bind_some, Option.bind_none, Option.map_some, Option.map_none, and_self, and_true, true_and, ite_true, ite_false, List.cons.injEq, reduceCtorEq, not_true_eq_false, not_false_eq_true, ne_eq, Nat.reduceEqDiff, okKeyW, addD_int, subD_int, hm, wrap_ok, c1, c2, c3, if_pos (size_ok (show 0 + 1 + 1 + 1 ≤ 1000 by decide)), if_pos (size_ok (show 3 ≤ 1000 by decide)), same_l s3, Bool.not_true, Bool.false_eq_true]
  have f7 : B_7 ⟨[.d L, .d tok, .d (.str y), .d i, .u, .d (.tuple [.int (fo a), .int (fo b)]), .d (.int a), .d (.int b)], some r4⟩ = .ok .nx ⟨[.d L, .d tok, .d (.str y), .d i, .u, .d (.tuple [.int (fo a), .int (fo b)]), .d (.int a), .d (.int b)], some r4⟩ := by
    have c1 := fun dr => computed2 (dr := dr) (z := "less") (.inr (.inr (.inr (.inl rfl)))) wa wb
    have c2 := fun dr => computed2 (dr := dr) (z := "less") (.inr (.inr (.inr (.inl rfl)))) wb wa
    have c3 := fun dr => computed2 (dr := dr) (z := "same") (.inr (.inr (.inr (.inr rfl)))) wa wb
    have rv : revD (.tuple [.int (fo a), .int (fo b)]) = some (.d (.tuple [.int (fo b), .int (fo a)])) := rfl
    generalize fo a = u at wa c1 c2 c3 rv
    generalize fo b = v at wb c1 c2 c3 rv
    simp only [val_less, val_same] at c1 c2 c3
    unfold B_7
    have e10 : decide ((1 : Int) = 0) = false := rfl
    have e01 : decide ((0 : Int) = 1) = false := rfl
    by_cases h1 : u < v
    · have h2 : ¬ v < u := by omega
      have h3 : ¬ u = v := by omega
      simp only [if_pos h1, if_neg h2, if_neg h3] at c1 c2 c3
      simp only [fxOf, runD, seqS, retS, retN, ifS, exprS, setS, setE, cD, vD, opd1, opd2, pkS, lift1, lift2, andD, orD, notD, boolD, ofD, boolT, notT, andT, orT, ifD, opdT, callD, callF, consA, nilA, tupD, lstD, Sl.val, nxS, bkS, ctS, raiseS, parS, par3S, asgS, gT, gsCons, gsNil, gN, drAt, drRest, drTurn, drCells, drMore, drPop, drPutS, Out.bind_ok, Out.bind_exc, Out.bind_bad, List.getElem?_cons_zero, List.getElem?_cons_succ, List.getElem?_nil, List.set_cons_zero, List.set_cons_succ, List.length_cons, List.length_nil, List.map_cons, List.map_nil, List.replicate, List.cons_append, List.nil_append, Nat.reduceAdd, Nat.reduceLT, Nat.lt_irrefl, if_true, if_false, Option.bind_some, Option.bind_none, Option.map_some, Option.map_none, and_self, and_true, true_and, ite_true, ite_false, List.cons.injEq, reduceCtorEq, not_true_eq_false, not_false_eq_true, ne_eq, Nat.reduceEqDiff, okKeyW, rv, c1, c2, c3, eqD_int, e10, e01, decide_true, neD_bool, Bool.false_eq_true]
    · by_cases h2 : v < u
      · have h3 : ¬ u = v := by omega
        simp only [if_neg h1, if_pos h2, if_neg h3] at c1 c2 c3
        simp only [fxOf, runD, seqS, retS, retN, ifS, exprS, setS, setE, cD, vD, opd1, opd2, pkS, lift1, lift2, andD, orD, notD, boolD, ofD, boolT, notT, andT, orT, ifD, opdT, callD, callF, consA, nilA, tupD, lstD, Sl.val, nxS, bkS, ctS, raiseS, parS, par3S, asgS, gT, gsCons, gsNil, gN, drAt, drRest, drTurn, drCells, drMore, drPop, drPutS, Out.bind_ok, Out.bind_exc, Out.bind_bad, List.getElem?_cons_zero, List.getElem?_cons_succ, List.getElem?_nil, List.set_cons_zero, List.set_cons_succ, List.length_cons, List.length_nil, List.map_cons, List.map_nil, List.replicate, List.cons_append, List.nil_append, Nat.reduceAdd, Nat.reduceLT, Nat.lt_irrefl, if_true, if_false, Option.bind_some, Option.bind_none, Option.map_some, Option.map_none, and_self, and_true, true_and, ite_true, ite_false, List.cons.injEq, reduceCtorEq, not_true_eq_false, not_false_eq_true, ne_eq, Nat.reduceEqDiff, okKeyW, rv, c1, c2, c3, eqD_int, e10, e01, decide_true, neD_bool, Bool.false_eq_true]
      · have h3 : u = v := by omega
        simp only [if_neg h1, if_neg h2, if_pos h3] at c1 c2 c3
        simp only [fxOf, runD, seqS, retS, retN, ifS, exprS, setS, setE, cD, vD, opd1, opd2, pkS, lift1, lift2, andD, orD, notD, boolD, ofD, boolT, notT, andT, orT, ifD, opdT, callD, callF, consA, nilA, tupD, lstD, Sl.val, nxS, bkS, ctS, raiseS, parS, par3S, asgS, gT, gsCons, gsNil, gN, drAt, drRest, drTurn, drCells, drMore, drPop, drPutS, Out.bind_ok, Out.bind_exc, Out.bind_bad, List.getElem?_cons_zero, List.getElem?_cons_succ, List.getElem?_nil, List.set_cons_zero, List.set_cons_succ, List.length_cons, List.length_nil, List.map_cons, List.map_nil, List.replicate, List.cons_append, List.nil_append, Nat.reduceAdd, Nat.reduceLT, Nat.lt_irrefl, if_true, if_false, Option.bind_some, Option.bind_none, Option.map_some, Option.map_none, and_self, and_true, true_and, ite_true, ite_false, List.cons.injEq, reduceCtorEq, not_true_eq_false, not_false_eq_true, ne_eq, Nat.reduceEqDiff, okKeyW, rv, c1, c2, c3, eqD_int, e10, e01, decide_true, neD_bool, Bool.false_eq_true]
  rw [turn_eq]
  exact (seqS_nx f1).trans ((seqS_nx f2).trans ((seqS_nx f3).trans ((seqS_nx f4).trans ((seqS_nx f5).trans ((seqS_nx f6).trans f7)))))
def oddL : List D := keptL.map .str ++ [.str "", .none, .int 5, .bool true, .tuple [.str "a"], .list [.str "a"], .str "A", .str "a ", .str "a\n", .str "1"]
theorem odd_ok {x : D} (h : x ∈ oddL) (dr : Option Dr) : fx_is_name [x] dr = .ok (.bool false) dr := by
  rcases List.mem_append.mp h with h | h
  · obtain ⟨z, hz, rfl⟩ := List.mem_map.mp h
    have := (kept_len hz).2
    rw [is_name_ok (by omega)]
    have : nmB z = false := by
      rw [Bool.eq_false_iff]
      exact fun q => (nmB_iff.mp q).kept hz
    rw [this]
  · have st (z : Str) (h1 : z.length ≤ 1000) (h2 : nmB z = false) : fx_is_name [.str z] dr = .ok (.bool false) dr := by rw [is_name_ok h1, h2]
    simp only [List.mem_cons, List.not_mem_nil, or_false] at h
    rcases h with rfl | rfl | rfl | rfl | rfl | rfl | rfl | rfl | rfl | rfl
    · exact st _ (by decide) (by decide +kernel)
    · exact is_name_odd rfl rfl
    · exact is_name_odd rfl rfl
    · exact is_name_odd rfl rfl
    · exact is_name_odd rfl rfl
    · exact is_name_odd rfl rfl
    · exact st _ (by decide) (by decide +kernel)
    · exact st _ (by decide) (by decide +kernel)
    · exact st _ (by decide) (by decide +kernel)
    · exact st _ (by decide) (by decide +kernel)
end
end Lw
end
section
set_option Elab.async false
set_option linter.all false
set_option maxRecDepth 100000
set_option maxHeartbeats 400000
namespace Lw
open PySem PySem.Spec L2 Dy LamX
section
variable [Ph] {dr : Option Dr} {n : Nat} {r : Dr}
variable {ns : List Int}
theorem G2_ok : L_2 ⟨[.d (.list (ns.map .int)), .d tok, .u, .u, .u, .u, .u, .u], some r⟩ = .ok .nx ⟨[.d (.list (ns.map .int)), .d tok, .u, .u, .u, .u, .u, .u], some r⟩ := by
  have sk : Sh (.tuple (g_KEPT.map .str)) := ⟨by decide +kernel, by simp [PyData.depth, PyData.depthAll, g_KEPT], by decide +kernel⟩
  have s2 : Sh (.list [.bool true, .bool false]) := ⟨by decide +kernel, by simp [PyData.depth, PyData.depthAll], by decide +kernel⟩
  have tk : tupleD (.list (keptL.map .str)) = some (.d (.tuple (g_KEPT.map .str))) := rfl
  have n1 := fun dr => is_name_ok (dr := dr) (z := "abcdefgh") (by decide)
  have n2 := fun dr => is_name_ok (dr := dr) (z := "abcdefghi") (by decide)
  have n3 : nmB "abcdefgh" = true := by decide +kernel
  have n4 : nmB "abcdefghi" = false := by decide +kernel
  unfold L_2
  simp only [fxOf, runD, seqS, retS, retN, ifS, exprS, setS, setE, cD, vD, opd1, opd2, pkS, lift1, lift2, andD, orD, notD, boolD, ofD, boolT, notT, andT, orT, ifD, opdT, callD, callF, consA, nilA, tupD, lstD, Sl.val, nxS, bkS, ctS, raiseS, parS, par3S, asgS, gT, gsCons, gsNil, gN, drAt, drRest, drTurn, drCells, drMore, drPop, drPutS, Out.bind_ok, Out.bind_exc, Out.bind_bad, List.getElem?_cons_zero, List.getElem?_cons_succ, List.getElem?_nil, List.set_cons_zero, List.set_cons_succ, List.length_cons, List.length_nil, List.map_cons, List.map_nil, List.replicate, List.cons_append, List.nil_append, Nat.reduceAdd, Nat.reduceLT, Nat.lt_irrefl, if_true, if_false, Option.bind_some, Option.bind_none, Option.map_some, Option.map_none, and_self, and_true, true_and, ite_true, ite_false, List.cons.injEq, reduceCtorEq, not_true_eq_false, not_false_eq_true, ne_eq, Nat.reduceEqDiff, okKeyW, kept_ok, tk, same_l sk, n1, n2, n3, n4, same_l s2, if_pos (size_ok (show 0 + 1 + 1 ≤ 1000 by decide)), if_pos (size_ok (show 2 ≤ 1000 by decide)), Bool.not_true, Bool.false_eq_true]
theorem I3_ok : L_3i ⟨[.d (.list (ns.map .int)), .d tok, .u, .u, .u, .u, .u, .u], some r⟩ = .ok oddL ⟨[.d (.list (ns.map .int)), .d tok, .u, .u, .u, .u, .u, .u], some r⟩ := by
  have a : addD (.list (keptL.map .str)) (.list [.str "", .none, .int 5, .bool true, .tuple [.str "a"], .list [.str "a"], .str "A", .str "a ", .str "a\n", .str "1"]) = some (.o (.list oddL)) := add_list (by rw [List.length_map]; decide)
  unfold L_3i
  simp only [fxOf, runD, seqS, retS, retN, ifS, exprS, setS, setE, cD, vD, opd1, opd2, pkS, lift1, lift2, andD, orD, notD, boolD, ofD, boolT, notT, andT, orT, ifD, opdT, callD, callF, consA, nilA, tupD, lstD, Sl.val, nxS, bkS, ctS, raiseS, parS, par3S, asgS, gT, gsCons, gsNil, gN, drAt, drRest, drTurn, drCells, drMore, drPop, drPutS, Out.bind_ok, Out.bind_exc, Out.bind_bad, List.getElem?_cons_zero, List.getElem?_cons_succ, List.getElem?_nil, List.set_cons_zero, List.set_cons_succ, List.length_cons, List.length_nil, List.map_cons, List.map_nil, List.replicate, List.cons_append, List.nil_append, Nat.reduceAdd, Nat.reduceLT, Nat.lt_irrefl, if_true, if_false, Option.bind_some, Option.bind_none, Option.map_some, Option.map_none, and_self, and_true, true_and, ite_true, ite_false, List.cons.injEq, reduceCtorEq, not_true_eq_false, not_false_eq_true, ne_eq, Nat.reduceEqDiff, okKeyW, itD, kept_ok, if_pos (size_ok (show 0 + 1 ≤ 1000 by decide)), if_pos (size_ok (show 1 ≤ 1000 by decide)), if_pos (size_ok (show 0 + 1 + 1 + 1 + 1 + 1 + 1 + 1 + 1 + 1 + 1 ≤ 1000 by decide)), if_pos (size_ok (show 10 ≤ 1000 by decide)), a]
theorem G3_ok : ∃ x2, Dy.forM L_3i (gN 2) b_law_1 ⟨[.d (.list (ns.map .int)), .d tok, .u, .u, .u, .u, .u, .u], some r⟩ = .ok .nx ⟨[.d (.list (ns.map .int)), .d tok, x2, .u, .u, .u, .u, .u], some r⟩ := by
  obtain ⟨s3, e3, x2, rfl⟩ := for_done (g := gN 2) (body := b_law_1) (fun _ s => ∃ x2, s = ⟨[.d (.list (ns.map .int)), .d tok, x2, .u, .u, .u, .u, .u], some r⟩) oddL ⟨[.d (.list (ns.map .int)), .d tok, .u, .u, .u, .u, .u, .u], some r⟩ ⟨.u, rfl⟩ (by
    rintro i x s hx ⟨x2, rfl⟩
    have hm := List.mem_of_getElem? hx
    refine ⟨⟨[.d (.list (ns.map .int)), .d tok, .d x, .u, .u, .u, .u, .u], some r⟩, _, rfl, .inl ?_, .d x, rfl⟩
    unfold b_law_1
    simp only [fxOf, runD, seqS, retS, retN, ifS, exprS, setS, setE, cD, vD, opd1, opd2, pkS, lift1, lift2, andD, orD, notD, boolD, ofD, boolT, notT, andT, orT, ifD, opdT, callD, callF, consA, nilA, tupD, lstD, Sl.val, nxS, bkS, ctS, raiseS, parS, par3S, asgS, gT, gsCons, gsNil, gN, drAt, drRest, drTurn, drCells, drMore, drPop, drPutS, Out.bind_ok, Out.bind_exc, Out.bind_bad, List.getElem?_cons_zero, List.getElem?_cons_succ, List.getElem?_nil, List.set_cons_zero, List.set_cons_succ, List.length_cons, List.length_nil, List.map_cons, List.map_nil, List.replicate, List.cons_append, List.nil_append, Nat.reduceAdd, Nat.reduceLT, Nat.lt_irrefl, if_true, if_false, Option.bind_some, Option.bind_none, Option.map_some, Option.map_none, and_self, and_true, true_and, ite_true, ite_false, List.cons.injEq, reduceCtorEq, not_true_eq_false, not_false_eq_true, ne_eq, Nat.reduceEqDiff, okKeyW, odd_ok hm, same_l (sh_bool false), Bool.not_true, Bool.false_eq_true])
  have g3 : Dy.forM L_3i (gN 2) b_law_1 ⟨[.d (.list (ns.map .int)), .d tok, .u, .u, .u, .u, .u, .u], some r⟩ = .ok .nx ⟨[.d (.list (ns.map .int)), .d tok, x2, .u, .u, .u, .u, .u], some r⟩ := by
    unfold Dy.forM
    rw [I3_ok, Out.bind_ok]
    exact e3
  exact ⟨x2, g3⟩
theorem I4_ok {x2 : Sl} : ∃ j : Nat, j ≤ 24 ∧ L_4i ⟨[.d (.list (ns.map .int)), .d tok, x2, .u, .u, .u, .u, .u], some r⟩ = .ok ((List.range j).map fun i => .int (i : Nat)) ⟨[.d (.list (ns.map .int)), .d tok, x2, .u, .u, .u, .u, .u], some r⟩ := by
    have lm : lenD (.list (ns.map .int)) = some (.d (.int (ns.length : Nat))) := by
      show some (Sl.d (PyData.int ((ns.map PyData.int).length : Nat))) = _
      rw [List.length_map]
    have mn : min2D (.int (ns.length : Nat)) (.int 12) = some (.d (.int (if (12 : Int) < ((ns.length : Nat) : Int) then (12 : Int) else ((ns.length : Nat) : Int)))) := rfl
    refine ⟨12 + min ns.length 12, by omega, ?_⟩
    refine rng1_ok (r := .d (.int (12 + (if (12 : Int) < ((ns.length : Nat) : Int) then (12 : Int) else ((ns.length : Nat) : Int))))) ?_ ?_ (by omega)
    · simp only [fxOf, runD, seqS, retS, retN, ifS, exprS, setS, setE, cD, vD, opd1, opd2, pkS, lift1, lift2, andD, orD, notD, boolD, ofD, boolT, notT, andT, orT, ifD, opdT, callD, callF, consA, nilA, tupD, lstD, Sl.val, nxS, bkS, ctS, raiseS, parS, par3S, asgS, gT, gsCons, gsNil, gN, drAt, drRest, drTurn, drCells, drMore, drPop, drPutS, Out.bind_ok, Out.bind_exc, Out.bind_bad, List.getElem?_cons_zero, List.getElem?_cons_succ, List.getElem?_nil, List.set_cons_zero, List.set_cons_succ, List.length_cons, List.length_nil, List.map_cons, List.map_nil, List.replicate, List.cons_append, List.nil_append, Nat.reduceAdd, Nat.reduceLT, Nat.lt_irrefl, if_true, if_false, Option.bind_some, Option.bind_none, Option.map_some, Option.map_none, and_self, and_true, true_and, ite_true, ite_false, List.cons.injEq, reduceCtorEq, not_true_eq_false, not_false_eq_true, ne_eq, Nat.reduceEqDiff, okKeyW, lm, mn, addD_int]
    · refine congrArg PyData.int ?_
      split <;> omega
theorem G4_ok {x2 : Sl} (w : Dw 999999999999 r) : ∃ r4 y2 y3 y5 y6 y7, Dy.forM L_4i (gN 3) b_law_2 ⟨[.d (.list (ns.map .int)), .d tok, x2, .u, .u, .u, .u, .u], some r⟩ = .ok .nx ⟨[.d (.list (ns.map .int)), .d tok, y2, y3, .u, y5, y6, y7], some r4⟩ := by
  obtain ⟨j, hj, i4⟩ := I4_ok (ns := ns) (x2 := x2) (r := r)
  obtain ⟨s4, e4, r4, y2, y3, y5, y6, y7, w4, rfl⟩ := for_done (g := gN 3) (body := b_law_2) (fun i s => ∃ (r4 : Dr) (y2 y3 y5 y6 y7 : Sl), Dw (60 * (24 - i)) r4 ∧ s = ⟨[.d (.list (ns.map .int)), .d tok, y2, y3, .u, y5, y6, y7], some r4⟩) ((List.range j).map fun i => .int (i : Nat)) ⟨[.d (.list (ns.map .int)), .d tok, x2, .u, .u, .u, .u, .u], some r⟩ ⟨r, x2, .u, .u, .u, .u, w.mono (by omega), rfl⟩ (by
    rintro i x s hx ⟨r4, y2, y3, y5, y6, y7, w4, rfl⟩
    have hi : i < j := by
      have := (List.getElem?_eq_some_iff.mp hx).1
      simpa using this
    obtain ⟨r5, z2, z5, z6, z7, w5, e5⟩ := turn_ok' (L := .list (ns.map .int)) (i := x) (x2 := y2) (x5 := y5) (x6 := y6) (x7 := y7) (n := 60 * (24 - (i + 1))) (r := r4) (w4.mono (by omega))
    exact ⟨⟨[.d (.list (ns.map .int)), .d tok, y2, .d x, .u, y5, y6, y7], some r4⟩, _, rfl, .inl e5, r5, z2, .d x, z5, z6, z7, w5, rfl⟩)
  have g4 : Dy.forM L_4i (gN 3) b_law_2 ⟨[.d (.list (ns.map .int)), .d tok, x2, .u, .u, .u, .u, .u], some r⟩ = .ok .nx ⟨[.d (.list (ns.map .int)), .d tok, y2, y3, .u, y5, y6, y7], some r4⟩ := by
    unfold Dy.forM
    rw [i4, Out.bind_ok]
    exact e4
  exact ⟨r4, y2, y3, y5, y6, y7, g4⟩
theorem G5_ok {r4 : Dr} {y2 y3 y5 y6 y7 : Sl} : L_5 ⟨[.d (.list (ns.map .int)), .d tok, y2, y3, .u, y5, y6, y7], some r4⟩ = .ok .nx ⟨[.d (.list (ns.map .int)), .d tok, y2, y3, .o (.list [.int (0 - 2147483648), .int 2147483647, .int 0, .int 2147483647, .int 1]), y5, y6, y7], some r4⟩ := by
  have c1 := fun dr => computed2 (dr := dr) (z := "mul") (a := 65536) (b := 65536) (.inr (.inr (.inl rfl))) (by unfold IsW; omega) (by unfold IsW; omega)
  have c2 := fun dr => computed2 (dr := dr) (z := "sub") (a := 0 - 2147483648) (b := 1) (.inr (.inl rfl)) (by unfold IsW; omega) (by unfold IsW; omega)
  have c3 := fun dr => computed2 (dr := dr) (z := "less") (a := 0 - 1) (b := 0) (.inr (.inr (.inr (.inl rfl)))) (by unfold IsW; omega) (by unfold IsW; omega)
  have v1 : val "mul" 65536 65536 = 0 := by rw [val_mul]; decide
  have v2 : val "sub" (0 - 2147483648) 1 = 2147483647 := by rw [val_sub]; decide
  have v3 : val "less" (0 - 1) 0 = 1 := by rw [val_less]; decide
  have v4 : fo 2147483648 = 0 - 2147483648 := by decide
  have v5 : fo (0 - 2147483649) = 2147483647 := by decide
  unfold L_5
  simp only [fxOf, runD, seqS, retS, retN, ifS, exprS, setS, setE, cD, vD, opd1, opd2, pkS, lift1, lift2, andD, orD, notD, boolD, ofD, boolT, notT, andT, orT, ifD, opdT, callD, callF, consA, nilA, tupD, lstD, Sl.val, nxS, bkS, ctS, raiseS, parS, par3S, asgS, gT, gsCons, gsNil, gN, drAt, drRest, drTurn, drCells, drMore, drPop, drPutS, Out.bind_ok, Out.bind_exc, Out.bind_bad, List.getElem?_cons_zero, List.getElem?_cons_succ, List.getElem?_nil, List.set_cons_zero, List.set_cons_succ, List.length_cons, List.length_nil, List.map_cons, List.map_nil, List.replicate, List.cons_append, List.nil_append, Nat.reduceAdd, Nat.reduceLT, Nat.lt_irrefl, if_true, if_false, Option.bind_some, Option.bind_none, Option.map_some, Option.map_none, and_self, and_true, true_and, ite_true, ite_false, List.cons.injEq, reduceCtorEq, not_true_eq_false, not_false_eq_true, ne_eq, Nat.reduceEqDiff, okKeyW, wrap_ok, subD_int, if_pos (size_ok (show 0 + 1 + 1 ≤ 1000 by decide)), if_pos (size_ok (show 2 ≤ 1000 by decide)), c1, c2, c3, v1, v2, v3, v4, v5, if_pos (size_ok (show 0 + 1 + 1 + 1 + 1 + 1 ≤ 1000 by decide)), if_pos (size_ok (show 5 ≤ 1000 by decide))]
theorem G6_ok {r4 : Dr} {y2 y3 y5 y6 y7 : Sl} : L_6 ⟨[.d (.list (ns.map .int)), .d tok, y2, y3, .o (.list [.int (0 - 2147483648), .int 2147483647, .int 0, .int 2147483647, .int 1]), y5, y6, y7], some r4⟩ = .ok (.rt (.d (.bool true))) ⟨[.d (.list (ns.map .int)), .d tok, y2, y3, .d (.list [.int (0 - 2147483648), .int 2147483647, .int 0, .int 2147483647, .int 1]), y5, y6, y7], some r4⟩ := by
  have s5 : Sh (.list [.int (0 - 2147483648), .int 2147483647, .int 0, .int 2147483647, .int 1]) := sh_ints (l := [0 - 2147483648, 2147483647, 0, 2147483647, 1]) (by decide) (by decide)
  unfold L_6
  simp only [fxOf, runD, seqS, retS, retN, ifS, exprS, setS, setE, cD, vD, opd1, opd2, pkS, lift1, lift2, andD, orD, notD, boolD, ofD, boolT, notT, andT, orT, ifD, opdT, callD, callF, consA, nilA, tupD, lstD, Sl.val, nxS, bkS, ctS, raiseS, parS, par3S, asgS, gT, gsCons, gsNil, gN, drAt, drRest, drTurn, drCells, drMore, drPop, drPutS, Out.bind_ok, Out.bind_exc, Out.bind_bad, List.getElem?_cons_zero, List.getElem?_cons_succ, List.getElem?_nil, List.set_cons_zero, List.set_cons_succ, List.length_cons, List.length_nil, List.map_cons, List.map_nil, List.replicate, List.cons_append, List.nil_append, Nat.reduceAdd, Nat.reduceLT, Nat.lt_irrefl, if_true, if_false, Option.bind_some, Option.bind_none, Option.map_some, Option.map_none, and_self, and_true, true_and, ite_true, ite_false, List.cons.injEq, reduceCtorEq, not_true_eq_false, not_false_eq_true, ne_eq, Nat.reduceEqDiff, okKeyW, subD_int, if_pos (size_ok (show 0 + 1 + 1 + 1 + 1 + 1 ≤ 1000 by decide)), if_pos (size_ok (show 5 ≤ 1000 by decide)), same_l s5]
theorem law_ok (hl : ns.length ≤ 1000) : ∃ dr, fx_law [.list (ns.map .int)] none = .ok (.bool true) dr := by
  obtain ⟨r, w, e⟩ := begun_ok hl
  have e' : fx__law_begun [.list (ns.map .int)] none = .ok tok (some r) := e
  have g1 : L_1 ⟨[.d (.list (ns.map .int)), .u, .u, .u, .u, .u, .u, .u], none⟩ = .ok .nx ⟨[.d (.list (ns.map .int)), .d tok, .u, .u, .u, .u, .u, .u], some r⟩ := by
    unfold L_1
    simp only [fxOf, runD, seqS, retS, retN, ifS, exprS, setS, setE, cD, vD, opd1, opd2, pkS, lift1, lift2, andD, orD, notD, boolD, ofD, boolT, notT, andT, orT, ifD, opdT, callD, callF, consA, nilA, tupD, lstD, Sl.val, nxS, bkS, ctS, raiseS, parS, par3S, asgS, gT, gsCons, gsNil, gN, drAt, drRest, drTurn, drCells, drMore, drPop, drPutS, Out.bind_ok, Out.bind_exc, Out.bind_bad, List.getElem?_cons_zero, List.getElem?_cons_succ, List.getElem?_nil, List.set_cons_zero, List.set_cons_succ, List.length_cons, List.length_nil, List.map_cons, List.map_nil, List.replicate, List.cons_append, List.nil_append, Nat.reduceAdd, Nat.reduceLT, Nat.lt_irrefl, if_true, if_false, Option.bind_some, Option.bind_none, Option.map_some, Option.map_none, and_self, and_true, true_and, ite_true, ite_false, List.cons.injEq, reduceCtorEq, not_true_eq_false, not_false_eq_true, ne_eq, Nat.reduceEqDiff, okKeyW, e']
  obtain ⟨x2, g3⟩ := G3_ok (ns := ns) (r := r)
  obtain ⟨r4, y2, y3, y5, y6, y7, g4⟩ := G4_ok (ns := ns) (x2 := x2) w
  rw [law_eq]
  exact ⟨some r4, fx_rt (k := 1) (n := 7) (ds := [.list (ns.map .int)]) (dr := none) rfl ((seqS_nx g1).trans ((seqS_nx G2_ok).trans ((seqS_nx g3).trans ((seqS_nx g4).trans ((seqS_nx G5_ok).trans G6_ok)))))⟩
end
end Lw
end
section
set_option Elab.async false
set_option linter.all false
set_option maxRecDepth 100000
set_option maxHeartbeats 0
noncomputable section
namespace Lw
open PySem PySem.Spec PyProof.Rows L2 Dy LamX
/-- all that the head tells -/
structure Lv (K : PySem.W.Frag) (w : World) (mg : Str → Option Value) : Prop where
  F : Fc K w mg
  TT : tabsNe K = true
  d_is_number : ∃ fd, FnP K "is_number" st_is_number (He.ga K "is_number") fd
  g_is_number : mg "is_number" = some (.ref (He.ga K "is_number"))
  d_is_name : ∃ fd, FnP K "is_name" st_is_name (He.ga K "is_name") fd
  g_is_name : mg "is_name" = some (.ref (He.ga K "is_name"))
  d_is_word : ∃ fd, FnP K "is_word" st_is_word (He.ga K "is_word") fd
  g_is_word : mg "is_word" = some (.ref (He.ga K "is_word"))
  d_is_op : ∃ fd, FnP K "is_op" st_is_op (He.ga K "is_op") fd
  g_is_op : mg "is_op" = some (.ref (He.ga K "is_op"))
  d_wrapped : ∃ fd, FnP K "wrapped" st_wrapped (He.ga K "wrapped") fd
  g_wrapped : mg "wrapped" = some (.ref (He.ga K "wrapped"))
  d_wrap : ∃ fd, FnP K "wrap" st_wrap (He.ga K "wrap") fd
  g_wrap : mg "wrap" = some (.ref (He.ga K "wrap"))
  d_result : ∃ fd, FnP K "result" st_result (He.ga K "result") fd
  g_result : mg "result" = some (.ref (He.ga K "result"))
  d_computed : ∃ fd, FnP K "computed" st_computed (He.ga K "computed") fd
  g_computed : mg "computed" = some (.ref (He.ga K "computed"))
  d__law_begun : ∃ fd, FnP K "_law_begun" st__law_begun (He.ga K "_law_begun") fd
  g__law_begun : mg "_law_begun" = some (.ref (He.ga K "_law_begun"))
  d__law_mixed : ∃ fd, FnP K "_law_mixed" st__law_mixed (He.ga K "_law_mixed") fd
  g__law_mixed : mg "_law_mixed" = some (.ref (He.ga K "_law_mixed"))
  d__law_take : ∃ fd, FnP K "_law_take" st__law_take (He.ga K "_law_take") fd
  g__law_take : mg "_law_take" = some (.ref (He.ga K "_law_take"))
  d__law_pick : ∃ fd, FnP K "_law_pick" st__law_pick (He.ga K "_law_pick") fd
  g__law_pick : mg "_law_pick" = some (.ref (He.ga K "_law_pick"))
  d__law_shuffled : ∃ fd, FnP K "_law_shuffled" st__law_shuffled (He.ga K "_law_shuffled") fd
  g__law_shuffled : mg "_law_shuffled" = some (.ref (He.ga K "_law_shuffled"))
  d__law_kept : ∃ fd, FnP K "_law_kept" st__law_kept (He.ga K "_law_kept") fd
  g__law_kept : mg "_law_kept" = some (.ref (He.ga K "_law_kept"))
  d__law_names : ∃ fd, FnP K "_law_names" st__law_names (He.ga K "_law_names") fd
  g__law_names : mg "_law_names" = some (.ref (He.ga K "_law_names"))
  d__law_is_name : ∃ fd, FnP K "_law_is_name" st__law_is_name (He.ga K "_law_is_name") fd
  g__law_is_name : mg "_law_is_name" = some (.ref (He.ga K "_law_is_name"))
  d__law_same : ∃ fd, FnP K "_law_same" st__law_same (He.ga K "_law_same") fd
  g__law_same : mg "_law_same" = some (.ref (He.ga K "_law_same"))
  d__law_folded : ∃ fd, FnP K "_law_folded" st__law_folded (He.ga K "_law_folded") fd
  g__law_folded : mg "_law_folded" = some (.ref (He.ga K "_law_folded"))
  d__law_word : ∃ fd, FnP K "_law_word" st__law_word (He.ga K "_law_word") fd
  g__law_word : mg "_law_word" = some (.ref (He.ga K "_law_word"))
  d__law_worth : ∃ fd, FnP K "_law_worth" st__law_worth (He.ga K "_law_worth") fd
  g__law_worth : mg "_law_worth" = some (.ref (He.ga K "_law_worth"))
  d__law_many_args : ∃ fd, FnP K "_law_many_args" st__law_many_args (He.ga K "_law_many_args") fd
  g__law_many_args : mg "_law_many_args" = some (.ref (He.ga K "_law_many_args"))
  d__law_ops : ∃ fd, FnP K "_law_ops" st__law_ops (He.ga K "_law_ops") fd
  g__law_ops : mg "_law_ops" = some (.ref (He.ga K "_law_ops"))
  d__law_near_word : ∃ fd, FnP K "_law_near_word" st__law_near_word (He.ga K "_law_near_word") fd
  g__law_near_word : mg "_law_near_word" = some (.ref (He.ga K "_law_near_word"))
  d__law_number : ∃ fd, FnP K "_law_number" st__law_number (He.ga K "_law_number") fd
  g__law_number : mg "_law_number" = some (.ref (He.ga K "_law_number"))
  d__law_told : ∃ fd, FnP K "_law_told" st__law_told (He.ga K "_law_told") fd
  g__law_told : mg "_law_told" = some (.ref (He.ga K "_law_told"))
  d__law_all : ∃ fd, FnP K "_law_all" st__law_all (He.ga K "_law_all") fd
  g__law_all : mg "_law_all" = some (.ref (He.ga K "_law_all"))
  d__law_is_computed : ∃ fd, FnP K "_law_is_computed" st__law_is_computed (He.ga K "_law_is_computed") fd
  g__law_is_computed : mg "_law_is_computed" = some (.ref (He.ga K "_law_is_computed"))
  d_law : ∃ fd, FnP K "law" st_law (He.ga K "law") fd
  g_law : mg "law" = some (.ref (He.ga K "law"))
/-- the tables of code objects -/
def TBs (K : PySem.W.Frag) (mg : Str → Option Value) (b : Heap) : Prop := ∀ x ∈ (["_law_is_computed"] : List Str), LamX.TabB b mg (He.codeOf K (x, none)) (He.cT K (x, none)).2
section
variable [Ph] {P : Program} {w : World} {K : PySem.W.Frag} {mg : Str → Option Value} {base : Heap}
theorem H_is_number (L : Lv K w mg) (TB : TBs K mg base) : Has P w K mg base "is_number" 1 1 fx_is_number := by
  obtain ⟨fd, Fd⟩ := L.d_is_number
  exact ⟨_, fd, _, fk_is_number L.F  Fd, L.g_is_number, Fd.kp, Fd.bindsN (ps := ["thing"]) (fun _ _ _ _ _ _ us hl => match us, hl with | [_], _ => rfl)⟩
theorem H_is_name (L : Lv K w mg) (TB : TBs K mg base) : Has P w K mg base "is_name" 1 1 fx_is_name := by
  obtain ⟨fd, Fd⟩ := L.d_is_name
  exact ⟨_, fd, _, fk_is_name L.F  Fd, L.g_is_name, Fd.kp, Fd.bindsN (ps := ["thing"]) (fun _ _ _ _ _ _ us hl => match us, hl with | [_], _ => rfl)⟩
theorem H_is_word (L : Lv K w mg) (TB : TBs K mg base) : Has P w K mg base "is_word" 1 2 fx_is_word := by
  obtain ⟨fd, Fd⟩ := L.d_is_word
  exact ⟨_, fd, _, fk_is_word L.F (H_is_number L TB) Fd, L.g_is_word, Fd.kp, Fd.bindsN (ps := ["thing"]) (fun _ _ _ _ _ _ us hl => match us, hl with | [_], _ => rfl)⟩
theorem H_is_op (L : Lv K w mg) (TB : TBs K mg base) : Has P w K mg base "is_op" 1 1 fx_is_op := by
  obtain ⟨fd, Fd⟩ := L.d_is_op
  exact ⟨_, fd, _, fk_is_op L.F  Fd, L.g_is_op, Fd.kp, Fd.bindsN (ps := ["thing"]) (fun _ _ _ _ _ _ us hl => match us, hl with | [_], _ => rfl)⟩
theorem H_wrapped (L : Lv K w mg) (TB : TBs K mg base) : Has P w K mg base "wrapped" 1 1 fx_wrapped := by
  obtain ⟨fd, Fd⟩ := L.d_wrapped
  exact ⟨_, fd, _, fk_wrapped L.F  Fd, L.g_wrapped, Fd.kp, Fd.bindsN (ps := ["number"]) (fun _ _ _ _ _ _ us hl => match us, hl with | [_], _ => rfl)⟩
theorem H_wrap (L : Lv K w mg) (TB : TBs K mg base) : Has P w K mg base "wrap" 1 2 fx_wrap := by
  obtain ⟨fd, Fd⟩ := L.d_wrap
  exact ⟨_, fd, _, fk_wrap L.F (H_is_number L TB) (H_wrapped L TB) Fd, L.g_wrap, Fd.kp, Fd.bindsN (ps := ["number"]) (fun _ _ _ _ _ _ us hl => match us, hl with | [_], _ => rfl)⟩
theorem HK_wrap_number (L : Lv K w mg) (TB : TBs K mg base) : HasK P w K mg base "wrap" ["number"] [0] 1 2 fx_wrap := by
  obtain ⟨fd, Fd⟩ := L.d_wrap
  exact has_K Fd L.g_wrap (fk_wrap L.F (H_is_number L TB) (H_wrapped L TB) Fd) (fun _ _ _ _ _ _ ws hl => match ws, hl with | [_], _ => rfl)
theorem H_result (L : Lv K w mg) (TB : TBs K mg base) : Has P w K mg base "result" 2 2 fx_result := by
  obtain ⟨fd, Fd⟩ := L.d_result
  exact ⟨_, fd, _, fk_result L.F (H_wrapped L TB) Fd, L.g_result, Fd.kp, Fd.bindsN (ps := ["op", "words"]) (fun _ _ _ _ _ _ us hl => match us, hl with | [_, _], _ => rfl)⟩
theorem H_computed (L : Lv K w mg) (TB : TBs K mg base) : Has P w K mg base "computed" 2 3 fx_computed := by
  obtain ⟨fd, Fd⟩ := L.d_computed
  exact ⟨_, fd, _, fk_computed L.F (H_is_op L TB) (H_is_word L TB) (H_result L TB) Fd, L.g_computed, Fd.kp, Fd.bindsN (ps := ["op", "words"]) (fun _ _ _ _ _ _ us hl => match us, hl with | [_, _], _ => rfl)⟩
theorem HK_computed_words_op (L : Lv K w mg) (TB : TBs K mg base) : HasK P w K mg base "computed" ["words", "op"] [1, 0] 2 3 fx_computed := by
  obtain ⟨fd, Fd⟩ := L.d_computed
  exact has_K Fd L.g_computed (fk_computed L.F (H_is_op L TB) (H_is_word L TB) (H_result L TB) Fd) (fun _ _ _ _ _ _ ws hl => match ws, hl with | [_, _], _ => rfl)
theorem H__law_begun (L : Lv K w mg) (TB : TBs K mg base) : Has P w K mg base "_law_begun" 1 1 fx__law_begun := by
  obtain ⟨fd, Fd⟩ := L.d__law_begun
  exact ⟨_, fd, _, fk__law_begun L.F  Fd, L.g__law_begun, Fd.kp, Fd.bindsN (ps := ["script"]) (fun _ _ _ _ _ _ us hl => match us, hl with | [_], _ => rfl)⟩
theorem H__law_mixed (L : Lv K w mg) (TB : TBs K mg base) : Has P w K mg base "_law_mixed" 1 1 fx__law_mixed := by
  obtain ⟨fd, Fd⟩ := L.d__law_mixed
  exact ⟨_, fd, _, fk__law_mixed L.F  Fd, L.g__law_mixed, Fd.kp, Fd.bindsN (ps := ["draw"]) (fun _ _ _ _ _ _ us hl => match us, hl with | [_], _ => rfl)⟩
theorem H__law_take (L : Lv K w mg) (TB : TBs K mg base) : Has P w K mg base "_law_take" 2 2 fx__law_take := by
  obtain ⟨fd, Fd⟩ := L.d__law_take
  exact ⟨_, fd, _, fk__law_take L.F (H__law_mixed L TB) Fd, L.g__law_take, Fd.kp, Fd.bindsN (ps := ["draw", "many"]) (fun _ _ _ _ _ _ us hl => match us, hl with | [_, _], _ => rfl)⟩
theorem H__law_pick (L : Lv K w mg) (TB : TBs K mg base) : Has P w K mg base "_law_pick" 2 3 fx__law_pick := by
  obtain ⟨fd, Fd⟩ := L.d__law_pick
  exact ⟨_, fd, _, fk__law_pick L.F (H__law_take L TB) Fd, L.g__law_pick, Fd.kp, Fd.bindsN (ps := ["draw", "some"]) (fun _ _ _ _ _ _ us hl => match us, hl with | [_, _], _ => rfl)⟩
theorem H__law_shuffled (L : Lv K w mg) (TB : TBs K mg base) : Has P w K mg base "_law_shuffled" 2 3 fx__law_shuffled := by
  obtain ⟨fd, Fd⟩ := L.d__law_shuffled
  exact ⟨_, fd, _, fk__law_shuffled L.F (H__law_take L TB) Fd, L.g__law_shuffled, Fd.kp, Fd.bindsN (ps := ["draw", "some"]) (fun _ _ _ _ _ _ us hl => match us, hl with | [_, _], _ => rfl)⟩
theorem H__law_kept (L : Lv K w mg) (TB : TBs K mg base) : Has P w K mg base "_law_kept" 0 1 fx__law_kept := by
  obtain ⟨fd, Fd⟩ := L.d__law_kept
  exact ⟨_, fd, _, fk__law_kept L.F  Fd, L.g__law_kept, Fd.kp, Fd.bindsN (ps := []) (fun _ _ _ _ _ _ us hl => match us, hl with | [], _ => rfl)⟩
theorem H__law_names (L : Lv K w mg) (TB : TBs K mg base) : Has P w K mg base "_law_names" 2 4 fx__law_names := by
  obtain ⟨fd, Fd⟩ := L.d__law_names
  exact ⟨_, fd, _, fk__law_names L.F (H__law_take L TB) (H__law_pick L TB) (H__law_shuffled L TB) Fd, L.g__law_names, Fd.kp, Fd.bindsN (ps := ["draw", "many"]) (fun _ _ _ _ _ _ us hl => match us, hl with | [_, _], _ => rfl)⟩
theorem H__law_is_name (L : Lv K w mg) (TB : TBs K mg base) : Has P w K mg base "_law_is_name" 1 2 fx__law_is_name := by
  obtain ⟨fd, Fd⟩ := L.d__law_is_name
  exact ⟨_, fd, _, fk__law_is_name L.F (H__law_kept L TB) Fd, L.g__law_is_name, Fd.kp, Fd.bindsN (ps := ["thing"]) (fun _ _ _ _ _ _ us hl => match us, hl with | [_], _ => rfl)⟩
theorem H__law_same (L : Lv K w mg) (TB : TBs K mg base) : Has P w K mg base "_law_same" 2 1 fx__law_same := by
  obtain ⟨fd, Fd⟩ := L.d__law_same
  exact ⟨_, fd, _, fk__law_same L.F  Fd, L.g__law_same, Fd.kp, Fd.bindsN (ps := ["told", "due"]) (fun _ _ _ _ _ _ us hl => match us, hl with | [_, _], _ => rfl)⟩
theorem H__law_folded (L : Lv K w mg) (TB : TBs K mg base) : Has P w K mg base "_law_folded" 1 1 fx__law_folded := by
  obtain ⟨fd, Fd⟩ := L.d__law_folded
  exact ⟨_, fd, _, fk__law_folded L.F  Fd, L.g__law_folded, Fd.kp, Fd.bindsN (ps := ["number"]) (fun _ _ _ _ _ _ us hl => match us, hl with | [_], _ => rfl)⟩
theorem H__law_word (L : Lv K w mg) (TB : TBs K mg base) : Has P w K mg base "_law_word" 1 4 fx__law_word := by
  obtain ⟨fd, Fd⟩ := L.d__law_word
  exact ⟨_, fd, _, fk__law_word L.F (H__law_take L TB) (H__law_pick L TB) Fd, L.g__law_word, Fd.kp, Fd.bindsN (ps := ["draw"]) (fun _ _ _ _ _ _ us hl => match us, hl with | [_], _ => rfl)⟩
theorem H__law_worth (L : Lv K w mg) (TB : TBs K mg base) : Has P w K mg base "_law_worth" 2 2 fx__law_worth := by
  obtain ⟨fd, Fd⟩ := L.d__law_worth
  exact ⟨_, fd, _, fk__law_worth L.F (H__law_folded L TB) Fd, L.g__law_worth, Fd.kp, Fd.bindsN (ps := ["op", "words"]) (fun _ _ _ _ _ _ us hl => match us, hl with | [_, _], _ => rfl)⟩
theorem H__law_many_args (L : Lv K w mg) (TB : TBs K mg base) : Has P w K mg base "_law_many_args" 1 1 fx__law_many_args := by
  obtain ⟨fd, Fd⟩ := L.d__law_many_args
  exact ⟨_, fd, _, fk__law_many_args L.F  Fd, L.g__law_many_args, Fd.kp, Fd.bindsN (ps := ["op"]) (fun _ _ _ _ _ _ us hl => match us, hl with | [_], _ => rfl)⟩
theorem H__law_ops (L : Lv K w mg) (TB : TBs K mg base) : Has P w K mg base "_law_ops" 0 1 fx__law_ops := by
  obtain ⟨fd, Fd⟩ := L.d__law_ops
  exact ⟨_, fd, _, fk__law_ops L.F  Fd, L.g__law_ops, Fd.kp, Fd.bindsN (ps := []) (fun _ _ _ _ _ _ us hl => match us, hl with | [], _ => rfl)⟩
theorem H__law_near_word (L : Lv K w mg) (TB : TBs K mg base) : Has P w K mg base "_law_near_word" 1 5 fx__law_near_word := by
  obtain ⟨fd, Fd⟩ := L.d__law_near_word
  exact ⟨_, fd, _, fk__law_near_word L.F (H__law_pick L TB) (H__law_names L TB) (H__law_kept L TB) (H__law_take L TB) Fd, L.g__law_near_word, Fd.kp, Fd.bindsN (ps := ["draw"]) (fun _ _ _ _ _ _ us hl => match us, hl with | [_], _ => rfl)⟩
theorem H__law_number (L : Lv K w mg) (TB : TBs K mg base) : Has P w K mg base "_law_number" 1 5 fx__law_number := by
  obtain ⟨fd, Fd⟩ := L.d__law_number
  exact ⟨_, fd, _, fk__law_number L.F (H__law_take L TB) (H__law_word L TB) Fd, L.g__law_number, Fd.kp, Fd.bindsN (ps := ["draw"]) (fun _ _ _ _ _ _ us hl => match us, hl with | [_], _ => rfl)⟩
theorem H__law_told (L : Lv K w mg) (TB : TBs K mg base) {T : LT} (th : ThOk P w K mg base 4 T) : Has P w K mg base "_law_told" 1 5 (fx__law_told T) := by
  obtain ⟨fd, Fd⟩ := L.d__law_told
  exact ⟨_, fd, _, fk__law_told L.F th Fd, L.g__law_told, Fd.kp, Fd.bindsN (ps := ["work"]) (fun _ _ _ _ _ _ us hl => match us, hl with | [_], _ => rfl)⟩
theorem H__law_all (L : Lv K w mg) (TB : TBs K mg base) {T : LT} (th : ThOk P w K mg base 4 T) : Has P w K mg base "_law_all" 1 6 (fx__law_all T) := by
  obtain ⟨fd, Fd⟩ := L.d__law_all
  exact ⟨_, fd, _, fk__law_all L.F th (H__law_told L TB th) Fd, L.g__law_all, Fd.kp, Fd.bindsN (ps := ["works"]) (fun _ _ _ _ _ _ us hl => match us, hl with | [_], _ => rfl)⟩
theorem hm__law_is_computed : ((He.cT K ("_law_is_computed", none)).2, (("_law_is_computed" : Str) ++ ".<locals>.") ++ "<lambda>") ∈ lamTT K := List.mem_map.mpr ⟨"_law_is_computed", by simp [LawI.lamDefs], rfl⟩
theorem H__law_is_computed (L : Lv K w mg) (TB : TBs K mg base) : Has P w K mg base "_law_is_computed" 1 7 fx__law_is_computed := by
  obtain ⟨fd, Fd⟩ := L.d__law_is_computed
  exact ⟨_, fd, _, fk__law_is_computed L.F (H__law_pick L TB) (H__law_ops L TB) (H__law_many_args L TB) (H__law_word L TB) (H__law_same L TB) (H_computed L TB) (H__law_worth L TB) (H_wrap L TB) (HK_computed_words_op L TB) (fun p b T l th => @H__law_all p P w K mg b L (fun x h => TabB_up (TB x h) l) T th) Fd (TB _ (by simp)) hm__law_is_computed (tabsNe_ok L.TT hm__law_is_computed), L.g__law_is_computed, Fd.kp, Fd.bindsN (ps := ["draw"]) (fun _ _ _ _ _ _ us hl => match us, hl with | [_], _ => rfl)⟩
theorem H_law (L : Lv K w mg) (TB : TBs K mg base) : Has P w K mg base "law" 1 8 fx_law := by
  obtain ⟨fd, Fd⟩ := L.d_law
  exact ⟨_, fd, _, fk_law L.F (H__law_begun L TB) (H__law_same L TB) (H__law_kept L TB) (H_is_name L TB) (H__law_near_word L TB) (H__law_is_name L TB) (H__law_is_computed L TB) (H__law_number L TB) (H_wrap L TB) (H__law_folded L TB) (H_computed L TB) (HK_wrap_number L TB) Fd, L.g_law, Fd.kp, Fd.bindsN (ps := ["script"]) (fun _ _ _ _ _ _ us hl => match us, hl with | [_], _ => rfl)⟩
theorem F_law (L : Lv K w mg) (TB : TBs K mg base) {fd : FuncData} (Fd : FnP K "law" st_law (He.ga K "law") fd) : FnOkG P w K mg base (L2.CX P w) 8 (He.ga K "law") fd ["script"] (spD K 1 fx_law) := fk_law L.F (H__law_begun L TB) (H__law_same L TB) (H__law_kept L TB) (H_is_name L TB) (H__law_near_word L TB) (H__law_is_name L TB) (H__law_is_computed L TB) (H__law_number L TB) (H_wrap L TB) (H__law_folded L TB) (H_computed L TB) (HK_wrap_number L TB) Fd
end
def fa : List He.Fa := [.glo "is_number", .glo "is_name", .glo "is_word", .glo "is_op", .glo "wrapped", .glo "wrap", .glo "result", .glo "computed", .glo "_law_begun", .glo "_law_mixed", .glo "_law_take", .glo "_law_pick", .glo "_law_shuffled", .glo "_law_kept", .glo "_law_names", .glo "_law_is_name", .glo "_law_same", .glo "_law_folded", .glo "_law_word", .glo "_law_worth", .glo "_law_many_args", .glo "_law_ops", .glo "_law_near_word", .glo "_law_number", .glo "_law_told", .glo "_law_all", .glo "_law_is_computed", .glo "law", .int "HIGH" 2147483647, .glo "KEPT", .str "LETTERS" "abcdefghijklmnopqrstuvwxyz", .int "LOW" (-2147483648), .int "SPAN" 4294967296, .glo "TAKES", .free "abs", .free "all", .free "bool", .free "int", .free "isinstance", .free "len", .free "list", .free "min", .free "range", .free "repr", .free "str", .free "tuple", .glo "BadCount", .exc "BadCount", .glo "BadEnd", .exc "BadEnd", .glo "BadGraph", .exc "BadGraph", .glo "BadInputs", .exc "BadInputs", .glo "BadLabel", .exc "BadLabel", .glo "BadMoment", .exc "BadMoment", .glo "BadNode", .exc "BadNode", .glo "BadNumber", .exc "BadNumber", .glo "BadOp", .exc "BadOp", .glo "BadOther", .exc "BadOther", .glo "BadPlace", .exc "BadPlace", .glo "BadProgram", .exc "BadProgram", .glo "BadStep", .exc "BadStep", .glo "BadWords", .exc "BadWords", .glo "CodeError", .exc "CodeError"]
def dd (x : Str) (st : Stmt) : He.DefD := ⟨(x, none), x, x, defArgs st, defBody st, defScope st, [], []⟩
def fn : List He.DefD := [dd "is_number" st_is_number, dd "is_name" st_is_name, dd "is_word" st_is_word, dd "is_op" st_is_op, dd "wrapped" st_wrapped, dd "wrap" st_wrap, dd "result" st_result, dd "computed" st_computed, dd "_law_begun" st__law_begun, dd "_law_mixed" st__law_mixed, dd "_law_take" st__law_take, dd "_law_pick" st__law_pick, dd "_law_shuffled" st__law_shuffled, dd "_law_kept" st__law_kept, dd "_law_names" st__law_names, dd "_law_is_name" st__law_is_name, dd "_law_same" st__law_same, dd "_law_folded" st__law_folded, dd "_law_word" st__law_word, dd "_law_worth" st__law_worth, dd "_law_many_args" st__law_many_args, dd "_law_ops" st__law_ops, dd "_law_near_word" st__law_near_word, dd "_law_number" st__law_number, dd "_law_told" st__law_told, dd "_law_all" st__law_all, dd "_law_is_computed" st__law_is_computed, dd "law" st_law]
def ts : List He.Tab := [(fun K => He.ga K "TAKES", g_TAKES.map (·.1))]
def tf : List He.Defn := (["_law_is_computed"] : List Str).map fun x => (x, none)
def exs : List Str := ["CodeError", "BadCount", "BadEnd", "BadGraph", "BadInputs", "BadLabel", "BadMoment", "BadNode", "BadNumber", "BadOp", "BadOther", "BadPlace", "BadProgram", "BadStep", "BadWords"]
def subl_BadCount : List (Str × Bool) := [("CodeError", false), ("BadCount", true), ("BadEnd", false), ("BadGraph", false), ("BadInputs", false), ("BadLabel", false), ("BadMoment", false), ("BadNode", false), ("BadNumber", false), ("BadOp", false), ("BadOther", false), ("BadPlace", false), ("BadProgram", false), ("BadStep", false), ("BadWords", false)]
def subl_BadEnd : List (Str × Bool) := [("CodeError", false), ("BadCount", false), ("BadEnd", true), ("BadGraph", false), ("BadInputs", false), ("BadLabel", false), ("BadMoment", false), ("BadNode", false), ("BadNumber", false), ("BadOp", false), ("BadOther", false), ("BadPlace", false), ("BadProgram", false), ("BadStep", false), ("BadWords", false)]
def subl_BadGraph : List (Str × Bool) := [("CodeError", false), ("BadCount", false), ("BadEnd", false), ("BadGraph", true), ("BadInputs", false), ("BadLabel", false), ("BadMoment", false), ("BadNode", false), ("BadNumber", false), ("BadOp", false), ("BadOther", false), ("BadPlace", false), ("BadProgram", false), ("BadStep", false), ("BadWords", false)]
def subl_BadInputs : List (Str × Bool) := [("CodeError", false), ("BadCount", false), ("BadEnd", false), ("BadGraph", false), ("BadInputs", true), ("BadLabel", false), ("BadMoment", false), ("BadNode", false), ("BadNumber", false), ("BadOp", false), ("BadOther", false), ("BadPlace", false), ("BadProgram", false), ("BadStep", false), ("BadWords", false)]
def subl_BadLabel : List (Str × Bool) := [("CodeError", false), ("BadCount", false), ("BadEnd", false), ("BadGraph", false), ("BadInputs", false), ("BadLabel", true), ("BadMoment", false), ("BadNode", false), ("BadNumber", false), ("BadOp", false), ("BadOther", false), ("BadPlace", false), ("BadProgram", false), ("BadStep", false), ("BadWords", false)]
def subl_BadMoment : List (Str × Bool) := [("CodeError", false), ("BadCount", false), ("BadEnd", false), ("BadGraph", false), ("BadInputs", false), ("BadLabel", false), ("BadMoment", true), ("BadNode", false), ("BadNumber", false), ("BadOp", false), ("BadOther", false), ("BadPlace", false), ("BadProgram", false), ("BadStep", false), ("BadWords", false)]
def subl_BadNode : List (Str × Bool) := [("CodeError", false), ("BadCount", false), ("BadEnd", false), ("BadGraph", false), ("BadInputs", false), ("BadLabel", false), ("BadMoment", false), ("BadNode", true), ("BadNumber", false), ("BadOp", false), ("BadOther", false), ("BadPlace", false), ("BadProgram", false), ("BadStep", false), ("BadWords", false)]
def subl_BadNumber : List (Str × Bool) := [("CodeError", false), ("BadCount", false), ("BadEnd", false), ("BadGraph", false), ("BadInputs", false), ("BadLabel", false), ("BadMoment", false), ("BadNode", false), ("BadNumber", true), ("BadOp", false), ("BadOther", false), ("BadPlace", false), ("BadProgram", false), ("BadStep", false), ("BadWords", false)]
def subl_BadOp : List (Str × Bool) := [("CodeError", false), ("BadCount", false), ("BadEnd", false), ("BadGraph", false), ("BadInputs", false), ("BadLabel", false), ("BadMoment", false), ("BadNode", false), ("BadNumber", false), ("BadOp", true), ("BadOther", false), ("BadPlace", false), ("BadProgram", false), ("BadStep", false), ("BadWords", false)]
def subl_BadOther : List (Str × Bool) := [("CodeError", false), ("BadCount", false), ("BadEnd", false), ("BadGraph", false), ("BadInputs", false), ("BadLabel", false), ("BadMoment", false), ("BadNode", false), ("BadNumber", false), ("BadOp", false), ("BadOther", true), ("BadPlace", false), ("BadProgram", false), ("BadStep", false), ("BadWords", false)]
def subl_BadPlace : List (Str × Bool) := [("CodeError", false), ("BadCount", false), ("BadEnd", false), ("BadGraph", false), ("BadInputs", false), ("BadLabel", false), ("BadMoment", false), ("BadNode", false), ("BadNumber", false), ("BadOp", false), ("BadOther", false), ("BadPlace", true), ("BadProgram", false), ("BadStep", false), ("BadWords", false)]
def subl_BadProgram : List (Str × Bool) := [("CodeError", false), ("BadCount", false), ("BadEnd", false), ("BadGraph", false), ("BadInputs", false), ("BadLabel", false), ("BadMoment", false), ("BadNode", false), ("BadNumber", false), ("BadOp", false), ("BadOther", false), ("BadPlace", false), ("BadProgram", true), ("BadStep", false), ("BadWords", false)]
def subl_BadStep : List (Str × Bool) := [("CodeError", false), ("BadCount", false), ("BadEnd", false), ("BadGraph", false), ("BadInputs", false), ("BadLabel", false), ("BadMoment", false), ("BadNode", false), ("BadNumber", false), ("BadOp", false), ("BadOther", false), ("BadPlace", false), ("BadProgram", false), ("BadStep", true), ("BadWords", false)]
def subl_BadWords : List (Str × Bool) := [("CodeError", false), ("BadCount", false), ("BadEnd", false), ("BadGraph", false), ("BadInputs", false), ("BadLabel", false), ("BadMoment", false), ("BadNode", false), ("BadNumber", false), ("BadOp", false), ("BadOther", false), ("BadPlace", false), ("BadProgram", false), ("BadStep", false), ("BadWords", true)]
def subl_CodeError : List (Str × Bool) := [("CodeError", true), ("BadCount", true), ("BadEnd", true), ("BadGraph", true), ("BadInputs", true), ("BadLabel", true), ("BadMoment", true), ("BadNode", true), ("BadNumber", true), ("BadOp", true), ("BadOther", true), ("BadPlace", true), ("BadProgram", true), ("BadStep", true), ("BadWords", true)]
def exL (K : PySem.W.Frag) : List Bool := [noLists K, tabsNe K, (exs.all fun c => excCB K (He.ga K c)), He.valsB K (He.ga K "TAKES") (g_TAKES.map fun p => (p.1, dvD p.2)), He.tupB K "KEPT" (g_KEPT.map He.Dv.str), isxB K "BadCount" subl_BadCount, isxB K "BadEnd" subl_BadEnd, isxB K "BadGraph" subl_BadGraph, isxB K "BadInputs" subl_BadInputs, isxB K "BadLabel" subl_BadLabel, isxB K "BadMoment" subl_BadMoment, isxB K "BadNode" subl_BadNode, isxB K "BadNumber" subl_BadNumber, isxB K "BadOp" subl_BadOp, isxB K "BadOther" subl_BadOther, isxB K "BadPlace" subl_BadPlace, isxB K "BadProgram" subl_BadProgram, isxB K "BadStep" subl_BadStep, isxB K "BadWords" subl_BadWords, exmB K "CodeError" subl_CodeError]
def ex (K : PySem.W.Frag) : Bool := (exL K).all id
theorem ex_at {K : PySem.W.Frag} (h : ex K = true) (i : Nat) {b : Bool} (e : (exL K)[i]? = some b) : b = true := List.all_eq_true.mp h b (List.mem_of_getElem? e)
abbrev R : PySem.W.OpenRow := PySem.W.OpenLaw.row PySem.Challenge.rw_runskept_k00_names_and_words
abbrev hk : PySem.W.Hook := He.hookX 3 fa fn ts tf ex
def ob (s : PySem.W.SharedT) : He.AlX := He.obsX 3 fa fn ts tf ex (HandSHeadRun.getT s)
theorem ob_eq (s : PySem.W.SharedT) : ob s = hk.obs s.abs := He.obsX_eq (HandSHeadRun.getT_eq s)
def names0 : List PySem.Str := ["is_number", "is_name", "is_word", "is_op", "wrapped", "wrap", "result", "computed", "_law_begun", "_law_mixed", "_law_take", "_law_pick", "_law_shuffled", "_law_kept", "_law_names", "_law_is_name", "_law_same", "_law_folded", "_law_word", "_law_worth"]
def names1 : List PySem.Str := ["_law_many_args", "_law_ops", "_law_near_word", "_law_told", "_law_all", "_law_number", "_law_is_computed", "CodeError", "BadCount", "BadEnd", "BadGraph", "BadInputs", "BadLabel", "BadMoment", "BadNode", "BadNumber", "BadOp", "BadOther", "BadPlace", "BadProgram"]
def names2 : List PySem.Str := ["BadStep", "BadWords", "KEPT", "LETTERS", "LOW", "HIGH", "SPAN", "TAKES"]
def names : List PySem.Str := names0 ++ names1 ++ names2
theorem run_false (w : World) : HandSHeadRun.RunEq R (PySem.W.view R.prog [52]) hk ob 100000 names (w.withFollow "special-get-raises" false) := by
  intro os
  kernel_rfl
theorem run_true (w : World) : HandSHeadRun.RunEq R (PySem.W.view R.prog [52]) hk ob 100000 names (w.withFollow "special-get-raises" true) := by
  intro os
  kernel_rfl
theorem run (w : World) : HandSHeadRun.RunEq R (PySem.W.view R.prog [52]) hk ob 100000 names w := PySem.W.byRow2 "special-get-raises" run_false run_true w
theorem lv {w : World} {K : PySem.W.Frag} {h : Heap} {mg : Str → Option Value} (X : K.In h) (G : h.Ns mainGlobals mg) (c : He.SaysX fa fn ts tf ex w h K) : Lv K w mg := by
  letI := phTop
  have d := c.t.d
  have m : ex K = true := c.more
  have es : (exs.all fun c => excCB K (He.ga K c)) = true := ex_at m 2 rfl
  exact {
    F := {
      gi_HIGH := He.int_ok X G (d.fact 28 (f := .int "HIGH" 2147483647) rfl)
      gt_KEPT := ⟨_, He.glo_ok X G (d.fact 29 (f := .glo "KEPT") rfl), fun H => by have z := He.tupB_ok (ex_at m 4 rfl) H; rw [List.map_map] at z; exact z⟩
      gs_LETTERS := He.str_ok X G (d.fact 30 (f := .str "LETTERS" "abcdefghijklmnopqrstuvwxyz") rfl)
      gi_LOW := He.int_ok X G (d.fact 31 (f := .int "LOW" (-2147483648)) rfl)
      gi_SPAN := He.int_ok X G (d.fact 32 (f := .int "SPAN" 4294967296) rfl)
      tb_TAKES := tabG_of (He.glo_ok X G (d.fact 33 (f := .glo "TAKES") rfl)) (tab_at c 0 rfl) (ex_at m 3 rfl) rfl
      fr_abs := He.free_ok X G (d.fact 34 (f := .free "abs") rfl)
      fr_all := He.free_ok X G (d.fact 35 (f := .free "all") rfl)
      fr_bool := He.free_ok X G (d.fact 36 (f := .free "bool") rfl)
      fr_int := He.free_ok X G (d.fact 37 (f := .free "int") rfl)
      fr_isinstance := He.free_ok X G (d.fact 38 (f := .free "isinstance") rfl)
      fr_len := He.free_ok X G (d.fact 39 (f := .free "len") rfl)
      fr_list := He.free_ok X G (d.fact 40 (f := .free "list") rfl)
      fr_min := He.free_ok X G (d.fact 41 (f := .free "min") rfl)
      fr_range := He.free_ok X G (d.fact 42 (f := .free "range") rfl)
      fr_repr := He.free_ok X G (d.fact 43 (f := .free "repr") rfl)
      fr_str := He.free_ok X G (d.fact 44 (f := .free "str") rfl)
      fr_tuple := He.free_ok X G (d.fact 45 (f := .free "tuple") rfl)
      ex_BadCount := ExCl.of X G (d.fact 46 (f := .glo "BadCount") rfl) (d.fact 47 (f := .exc "BadCount") rfl)
      ex_BadEnd := ExCl.of X G (d.fact 48 (f := .glo "BadEnd") rfl) (d.fact 49 (f := .exc "BadEnd") rfl)
      ex_BadGraph := ExCl.of X G (d.fact 50 (f := .glo "BadGraph") rfl) (d.fact 51 (f := .exc "BadGraph") rfl)
      ex_BadInputs := ExCl.of X G (d.fact 52 (f := .glo "BadInputs") rfl) (d.fact 53 (f := .exc "BadInputs") rfl)
      ex_BadLabel := ExCl.of X G (d.fact 54 (f := .glo "BadLabel") rfl) (d.fact 55 (f := .exc "BadLabel") rfl)
      ex_BadMoment := ExCl.of X G (d.fact 56 (f := .glo "BadMoment") rfl) (d.fact 57 (f := .exc "BadMoment") rfl)
      ex_BadNode := ExCl.of X G (d.fact 58 (f := .glo "BadNode") rfl) (d.fact 59 (f := .exc "BadNode") rfl)
      ex_BadNumber := ExCl.of X G (d.fact 60 (f := .glo "BadNumber") rfl) (d.fact 61 (f := .exc "BadNumber") rfl)
      ex_BadOp := ExCl.of X G (d.fact 62 (f := .glo "BadOp") rfl) (d.fact 63 (f := .exc "BadOp") rfl)
      ex_BadOther := ExCl.of X G (d.fact 64 (f := .glo "BadOther") rfl) (d.fact 65 (f := .exc "BadOther") rfl)
      ex_BadPlace := ExCl.of X G (d.fact 66 (f := .glo "BadPlace") rfl) (d.fact 67 (f := .exc "BadPlace") rfl)
      ex_BadProgram := ExCl.of X G (d.fact 68 (f := .glo "BadProgram") rfl) (d.fact 69 (f := .exc "BadProgram") rfl)
      ex_BadStep := ExCl.of X G (d.fact 70 (f := .glo "BadStep") rfl) (d.fact 71 (f := .exc "BadStep") rfl)
      ex_BadWords := ExCl.of X G (d.fact 72 (f := .glo "BadWords") rfl) (d.fact 73 (f := .exc "BadWords") rfl)
      ex_CodeError := ExCl.of X G (d.fact 74 (f := .glo "CodeError") rfl) (d.fact 75 (f := .exc "CodeError") rfl)
      ix_BadCount := isxB_ok (l := subl_BadCount) (es := exs) (ex_at m 5 rfl) es (by decide +kernel)
      ix_BadEnd := isxB_ok (l := subl_BadEnd) (es := exs) (ex_at m 6 rfl) es (by decide +kernel)
      ix_BadGraph := isxB_ok (l := subl_BadGraph) (es := exs) (ex_at m 7 rfl) es (by decide +kernel)
      ix_BadInputs := isxB_ok (l := subl_BadInputs) (es := exs) (ex_at m 8 rfl) es (by decide +kernel)
      ix_BadLabel := isxB_ok (l := subl_BadLabel) (es := exs) (ex_at m 9 rfl) es (by decide +kernel)
      ix_BadMoment := isxB_ok (l := subl_BadMoment) (es := exs) (ex_at m 10 rfl) es (by decide +kernel)
      ix_BadNode := isxB_ok (l := subl_BadNode) (es := exs) (ex_at m 11 rfl) es (by decide +kernel)
      ix_BadNumber := isxB_ok (l := subl_BadNumber) (es := exs) (ex_at m 12 rfl) es (by decide +kernel)
      ix_BadOp := isxB_ok (l := subl_BadOp) (es := exs) (ex_at m 13 rfl) es (by decide +kernel)
      ix_BadOther := isxB_ok (l := subl_BadOther) (es := exs) (ex_at m 14 rfl) es (by decide +kernel)
      ix_BadPlace := isxB_ok (l := subl_BadPlace) (es := exs) (ex_at m 15 rfl) es (by decide +kernel)
      ix_BadProgram := isxB_ok (l := subl_BadProgram) (es := exs) (ex_at m 16 rfl) es (by decide +kernel)
      ix_BadStep := isxB_ok (l := subl_BadStep) (es := exs) (ex_at m 17 rfl) es (by decide +kernel)
      ix_BadWords := isxB_ok (l := subl_BadWords) (es := exs) (ex_at m 18 rfl) es (by decide +kernel)
      em_CodeError := exmB_ok (l := subl_CodeError) (ex_at m 19 rfl) }
    TT := ex_at m 1 rfl
    d_is_number := d.def_ 0 (d := dd "is_number" st_is_number) rfl
    g_is_number := He.glo_ok X G (d.fact 0 (f := .glo "is_number") rfl)
    d_is_name := d.def_ 1 (d := dd "is_name" st_is_name) rfl
    g_is_name := He.glo_ok X G (d.fact 1 (f := .glo "is_name") rfl)
    d_is_word := d.def_ 2 (d := dd "is_word" st_is_word) rfl
    g_is_word := He.glo_ok X G (d.fact 2 (f := .glo "is_word") rfl)
    d_is_op := d.def_ 3 (d := dd "is_op" st_is_op) rfl
    g_is_op := He.glo_ok X G (d.fact 3 (f := .glo "is_op") rfl)
    d_wrapped := d.def_ 4 (d := dd "wrapped" st_wrapped) rfl
    g_wrapped := He.glo_ok X G (d.fact 4 (f := .glo "wrapped") rfl)
    d_wrap := d.def_ 5 (d := dd "wrap" st_wrap) rfl
    g_wrap := He.glo_ok X G (d.fact 5 (f := .glo "wrap") rfl)
    d_result := d.def_ 6 (d := dd "result" st_result) rfl
    g_result := He.glo_ok X G (d.fact 6 (f := .glo "result") rfl)
    d_computed := d.def_ 7 (d := dd "computed" st_computed) rfl
    g_computed := He.glo_ok X G (d.fact 7 (f := .glo "computed") rfl)
    d__law_begun := d.def_ 8 (d := dd "_law_begun" st__law_begun) rfl
    g__law_begun := He.glo_ok X G (d.fact 8 (f := .glo "_law_begun") rfl)
    d__law_mixed := d.def_ 9 (d := dd "_law_mixed" st__law_mixed) rfl
    g__law_mixed := He.glo_ok X G (d.fact 9 (f := .glo "_law_mixed") rfl)
    d__law_take := d.def_ 10 (d := dd "_law_take" st__law_take) rfl
    g__law_take := He.glo_ok X G (d.fact 10 (f := .glo "_law_take") rfl)
    d__law_pick := d.def_ 11 (d := dd "_law_pick" st__law_pick) rfl
    g__law_pick := He.glo_ok X G (d.fact 11 (f := .glo "_law_pick") rfl)
    d__law_shuffled := d.def_ 12 (d := dd "_law_shuffled" st__law_shuffled) rfl
    g__law_shuffled := He.glo_ok X G (d.fact 12 (f := .glo "_law_shuffled") rfl)
    d__law_kept := d.def_ 13 (d := dd "_law_kept" st__law_kept) rfl
    g__law_kept := He.glo_ok X G (d.fact 13 (f := .glo "_law_kept") rfl)
    d__law_names := d.def_ 14 (d := dd "_law_names" st__law_names) rfl
    g__law_names := He.glo_ok X G (d.fact 14 (f := .glo "_law_names") rfl)
    d__law_is_name := d.def_ 15 (d := dd "_law_is_name" st__law_is_name) rfl
    g__law_is_name := He.glo_ok X G (d.fact 15 (f := .glo "_law_is_name") rfl)
    d__law_same := d.def_ 16 (d := dd "_law_same" st__law_same) rfl
    g__law_same := He.glo_ok X G (d.fact 16 (f := .glo "_law_same") rfl)
    d__law_folded := d.def_ 17 (d := dd "_law_folded" st__law_folded) rfl
    g__law_folded := He.glo_ok X G (d.fact 17 (f := .glo "_law_folded") rfl)
    d__law_word := d.def_ 18 (d := dd "_law_word" st__law_word) rfl
    g__law_word := He.glo_ok X G (d.fact 18 (f := .glo "_law_word") rfl)
    d__law_worth := d.def_ 19 (d := dd "_law_worth" st__law_worth) rfl
    g__law_worth := He.glo_ok X G (d.fact 19 (f := .glo "_law_worth") rfl)
    d__law_many_args := d.def_ 20 (d := dd "_law_many_args" st__law_many_args) rfl
    g__law_many_args := He.glo_ok X G (d.fact 20 (f := .glo "_law_many_args") rfl)
    d__law_ops := d.def_ 21 (d := dd "_law_ops" st__law_ops) rfl
    g__law_ops := He.glo_ok X G (d.fact 21 (f := .glo "_law_ops") rfl)
    d__law_near_word := d.def_ 22 (d := dd "_law_near_word" st__law_near_word) rfl
    g__law_near_word := He.glo_ok X G (d.fact 22 (f := .glo "_law_near_word") rfl)
    d__law_number := d.def_ 23 (d := dd "_law_number" st__law_number) rfl
    g__law_number := He.glo_ok X G (d.fact 23 (f := .glo "_law_number") rfl)
    d__law_told := d.def_ 24 (d := dd "_law_told" st__law_told) rfl
    g__law_told := He.glo_ok X G (d.fact 24 (f := .glo "_law_told") rfl)
    d__law_all := d.def_ 25 (d := dd "_law_all" st__law_all) rfl
    g__law_all := He.glo_ok X G (d.fact 25 (f := .glo "_law_all") rfl)
    d__law_is_computed := d.def_ 26 (d := dd "_law_is_computed" st__law_is_computed) rfl
    g__law_is_computed := He.glo_ok X G (d.fact 26 (f := .glo "_law_is_computed") rfl)
    d_law := d.def_ 27 (d := dd "law" st_law) rfl
    g_law := He.glo_ok X G (d.fact 27 (f := .glo "law") rfl) }
abbrev rwL : PySem.W.OpenLaw := PySem.Challenge.rw_runskept_k00_names_and_words
/-- what is left: what the law computes -/
def Spec : Prop := ∀ ns : List Int, ns.length ≤ 63 → (∀ z ∈ ns, Builtin.Int.intBits z ≤ 1048576) → ∃ dr, fx_law [.list (ns.map .int)] none = .ok (.bool true) dr
theorem law_at (spec : Spec) {w : World} {mg : Str → Option Value} {fa : Addr} {h : Heap} (Y : hk.says w h) (G : h.Ns mainGlobals mg) (hmg0 : mg (HandSHeadRun.topDef R.prog 52).name = some (.ref fa)) :
    ∃ K : PySem.W.Frag, K.In h ∧ LawAt rwL w K (L2.CX rwL.prog w) 8 63 "script" mg fa h := by
  obtain ⟨K, KX, c⟩ := Y
  have L := lv KX G c
  have hn : (HandSHeadRun.topDef R.prog 52).name = ("law" : PySem.Str) := by kernel_rfl
  rw [hn, L.g_law] at hmg0
  cases hmg0
  obtain ⟨fd, Fd⟩ := L.d_law
  have b := FunD.bindsA (ps := ["script"]) Fd fun _ _ _ _ _ _ us hl => match us, hl with | [_], _ => rfl
  have m : ex K = true := c.more
  letI := phTop
  have mem : ∀ p ∈ tf.map (He.cT K), ∃ q ∈ tf, p = He.cT K q := fun p hp => by
    obtain ⟨q, hq, e⟩ := List.mem_map.mp hp
    exact ⟨q, hq, e.symm⟩
  refine ⟨K, KX, fd, tf.map (He.cT K), spD K 1 fx_law, fun p hp => ?_, fun p hp => ?_, fun p hp => ?_, fun s v => b s [v] rfl, fun H a ns hl hb hT hH hS => ?_, noLists_ok (ex_at m 0 rfl), fun base _ _ TB => F_law L (fun x hx => ?_) Fd⟩
  · obtain ⟨q, hq, rfl⟩ := mem p hp
    exact c.empty q hq
  · obtain ⟨q, hq, rfl⟩ := mem p hp
    exact c.out q hq
  · obtain ⟨q, hq, rfl⟩ := mem p hp
    exact PySem.W.codeHd_of_K KX (c.hd q hq)
  · refine law_sp (fun p hp => ?_) (fun b o e => ?_) hS (spec ns hl hb)
    · obtain ⟨x, hx, rfl⟩ := List.mem_map.mp hp
      exact hT _ (List.mem_map.mpr ⟨(x, none), List.mem_map.mpr ⟨x, hx, rfl⟩, rfl⟩)
    · rcases hH b o e with ⟨_, _, _, z⟩ | z
      · exact .inl ⟨_, z⟩
      · exact .inr z
  · exact TB _ (List.mem_map.mpr ⟨(x, none), List.mem_map.mpr ⟨x, hx, rfl⟩, rfl⟩)
end Lw
end
end
section
set_option Elab.async false
set_option linter.all false
set_option maxRecDepth 100000
theorem Lw.spec_law : Lw.Spec := fun ns hl _ => @Lw.law_ok Dy.phTop ns (by omega)
set_option maxHeartbeats 0 in
theorem PySem.Challenge.cw_runskept_k00_names_and_words_holds : PySem.Challenge.rw_runskept_k00_names_and_words.Holds := by
  w_on; o_law
  refine HandSHeadRun.head_any (r := PySem.W.OpenLaw.row PySem.Challenge.rw_runskept_k00_names_and_words) (q := PySem.W.view (PySem.W.OpenLaw.row PySem.Challenge.rw_runskept_k00_names_and_words).prog [52]) (H := Lw.hk) (ob := Lw.ob) (M := 100000) (loose := Lw.names) (d := HandSHeadRun.topDef (PySem.W.OpenLaw.row PySem.Challenge.rw_runskept_k00_names_and_words).prog 52) (kwd := []) Lw.ob_eq
    (by kernel_rfl) (fun s => by kernel_rfl) Lw.run (by kernel_rfl) (by kernel_rfl) (by kernel_rfl) (by rfl) (by first | assumption | decide +kernel) (by decide +kernel) ⟨rfl, rfl, rfl, rfl, rfl, by decide +kernel⟩ ?hw ?hc
  case hw => w_witness2
  case hc =>
    refine Dy.walk_ofG (l := PySem.Challenge.rw_runskept_k00_names_and_words) (n := 63) (k := 8) (x := "script") (CX := fun w => L2.CX (PySem.Challenge.rw_runskept_k00_names_and_words).prog w) rfl (by decide) (by kernel_rfl) ⟨⟨rfl, by decide, by decide⟩, rfl⟩ ?F (fun w H s e s1 z => by
      obtain ⟨_, _, _, _, _, _, _, _, _, _, _, _, _, _, _, _, z⟩ := z)
    intro w mg fa h Y G hmg0
    exact Lw.law_at Lw.spec_law Y G hmg0
end
