import PyProof.Rows.All
import Wide.All
import OpenK.AllK
import Wide.FinOn
import HandS.ForMost
import HandS.ForExc
import HandS.StrMore
import HandS.Codes
import HandS.Lambda
import HandS.TupAny
import HandS.Flow
import HandS.Deep
import HandS.TupMul
import HandS.WordsExc
import HandS.CallSlots
import HandS.TryOnly
import HandS.Iter
import HandS.Style
import HandS.Comp
import HandS.RaiseMore
import HandS.Dict
import HandS.WordsDict
import HandS.Conv
import HandS.Replace
import HandS.AnyAll
import HandS.GenCall
import HandS.GenList
import PyProof.WalksS
import PyProof.CollectWalk
import PyProof.TupleOfGen
import HandS.DictComp
import PyProof.SumAny
import KE.SortKeyed
import KE.KStateDown
import HandS.Head0
import HandS.Head1
import HandS.Head2
import HandS.HeadEnd
import HandS.HeadHook1
import HandS.HeadHook2
import HandS.HeadHook3
import HandS.HeadHook4
import HandS.HeadWalk
import PyProof.ExcBaseAll.ValueError
import HandS.SetFor
import PyProof.StrLawsIn
import HandS.SetBool
import KE.KDictPairs
import PySem.Challenge.RW_shellstack_k01_paths_made_plain
set_option Elab.async false
set_option linter.all false
set_option maxRecDepth 100000
/-! Ev: a reading by values. A state of a def is told by an environment: what stands at each slot (data, or a root: a list or dict that the
def alone holds and may change), and what stands at the handles (things that were handed in and may be changed). An expression's reading is a
function of the environment; the judgements of the hand layer are kept by it. -/
namespace Ev
open PySem L2
abbrev Dt := PyData
/-- what a root holds -/
inductive Ob where
  | lst (ds : List Dt)
  | dic (kvs : List (Key × Dt))
  | ins (C : Addr) (fs : List (Str × Dt))
/-- a value: data, the root at a slot, a handle, a closure, a list of closures -/
inductive R where
  | d (x : Dt) | loc (i : Nat) | hnd (i : Nat) | clo (i : Nat) | clos (n : Nat) | scr (ds : List Dt)
inductive SV where
  | fro (r : R) | own (o : Ob)
structure Env where
  sl : List (Option SV)
  hs : List Ob
inductive Rs (α : Type) where
  | ok (a : α) (e : Env) | err (c : Nat) (e : Env) | stk
/-- a closed lambda -/
structure ClD where
  params : Arguments
  body : Expr
  scope : Scope
  q : Str
def CloO (d : ClD) (f c' : Addr) : HO := .ext fun h => ∃ pm ctv : Value, h.get? f = some (PySem.W.kla_obj "<lambda>" d.q d.params d.body d.scope [] pm c' ctv)
def CloAt (G : Hp) (d : ClD) (f : Addr) : Prop := ∃ c', G f = some (CloO d f c') ∧ G c' = some (LamX.CodeO c' d.q)
/-- what is fixed through a def's body: the entry's heap, the roots known at the entry, the handles' addresses, the tables of code objects, the classes of errors -/
structure Cf where
  K : PySem.W.Frag
  H0 : Hp
  W0 : List Addr
  as : List Addr
  T : List (Addr × Str)
  cls : Nat → Addr
  clo : Nat → ClD
/-- the heap without the roots -/
def msk (W : List Addr) (H : Hp) : Hp := fun b => if b ∈ W then none else H b
theorem msk_in {W : List Addr} {H : Hp} {b : Addr} (h : b ∈ W) : msk W H b = none := if_pos h
theorem msk_out {W : List Addr} {H : Hp} {b : Addr} (h : b ∉ W) : msk W H b = H b := if_neg h
theorem msk_some {W : List Addr} {H : Hp} {b : Addr} {o : HO} (h : msk W H b = some o) : b ∉ W ∧ H b = some o := by
  by_cases hb : b ∈ W
  · rw [msk_in hb] at h; cases h
  · exact ⟨hb, by rw [msk_out hb] at h; exact h⟩
/-- all but the tables stay -/
def Sub (G G' : Hp) : Prop := ∀ b o, G b = some o → (∀ ps, o ≠ .tbl ps) → G' b = some o
theorem Sub.refl (G : Hp) : Sub G G := fun _ _ h _ => h
theorem Sub.trans {G G1 G2 : Hp} (a : Sub G G1) (b : Sub G1 G2) : Sub G G2 := fun c o h n => b c o (a c o h n) n
theorem Sub.msk (W : List Addr) (H : Hp) : Sub (msk W H) H := fun b o h _ => (msk_some h).2
/-- what a root is no -/
def Rk (o : HO) : Prop := (∀ ps, o ≠ .tbl ps) ∧ ∀ φ, o ≠ .ext φ
theorem rk_lst {xs : List V} : Rk (.lst xs) := ⟨fun _ z => (nomatch z), fun _ z => (nomatch z)⟩
theorem rk_dK {xs : List (Key × V)} : Rk (.dK xs) := ⟨fun _ z => (nomatch z), fun _ z => (nomatch z)⟩
theorem rk_ins {C dx : Addr} {xs : List (Str × V)} : Rk (.ins C dx xs) := ⟨fun _ z => (nomatch z), fun _ z => (nomatch z)⟩
theorem ne_tbl_lst {xs : List V} : ∀ ps, HO.lst xs ≠ .tbl ps := fun _ z => nomatch z
theorem ne_tbl_tup {xs : List V} : ∀ ps, HO.tup xs ≠ .tbl ps := fun _ z => nomatch z
theorem ne_tbl_frz {o : Obj} {u : HO} : ∀ ps, HO.frz o u ≠ .tbl ps := fun _ z => nomatch z
theorem ne_tbl_dK {xs : List (Key × V)} : ∀ ps, HO.dK xs ≠ .tbl ps := fun _ z => nomatch z
theorem ne_tbl_ins {C dx : Addr} {xs : List (Str × V)} : ∀ ps, HO.ins C dx xs ≠ .tbl ps := fun _ z => nomatch z
theorem SqL.sub {K : PySem.W.Frag} {G G' : Hp} {a : Addr} {xs : List V} (h : SqL K G a xs) (s : Sub G G') : SqL K G' a xs := by
  rcases h with (h | ⟨o, h⟩) | h
  · exact .inl (.inl (s _ _ h ne_tbl_lst))
  · exact .inl (.inr ⟨o, s _ _ h ne_tbl_frz⟩)
  · exact .inr h
theorem SqT.sub {K : PySem.W.Frag} {G G' : Hp} {a : Addr} {xs : List V} (h : SqT K G a xs) (s : Sub G G') : SqT K G' a xs := by
  rcases h with (h | ⟨o, h⟩) | h
  · exact .inl (.inl (s _ _ h ne_tbl_tup))
  · exact .inl (.inr ⟨o, s _ _ h ne_tbl_frz⟩)
  · exact .inr h
mutual
/-- a value is data: lists and tuples in G (tuples of the module, too) -/
inductive Fz (K : PySem.W.Frag) (G : Hp) : V → Dt → Prop
  | non : Fz K G .non .none
  | bl (b : Bool) : Fz K G (.bl b) (.bool b)
  | int (i : Int) : Fz K G (.int i) (.int i)
  | str (x : Str) : Fz K G (.str x) (.str x)
  | lst {a : Addr} {xs : List V} {ds : List Dt} : G a = some (.lst xs) → FzAll K G xs ds → Fz K G (.ref a) (.list ds)
  | tup {a : Addr} {xs : List V} {ds : List Dt} : SqT K G a xs → FzAll K G xs ds → Fz K G (.ref a) (.tuple ds)
inductive FzAll (K : PySem.W.Frag) (G : Hp) : List V → List Dt → Prop
  | nil : FzAll K G [] []
  | cons {v : V} {vs : List V} {d : Dt} {ds : List Dt} : Fz K G v d → FzAll K G vs ds → FzAll K G (v :: vs) (d :: ds)
end
mutual
theorem Fz.sub {K : PySem.W.Frag} {G G' : Hp} (s : Sub G G') : ∀ (d : Dt) (v : V), Fz K G v d → Fz K G' v d
  | .none, _, h => by cases h; exact .non
  | .bool b, _, h => by cases h; exact .bl b
  | .int i, _, h => by cases h; exact .int i
  | .str x, _, h => by cases h; exact .str x
  | .list ds, _, h => by
    cases h with
    | lst h1 h2 => exact .lst (s _ _ h1 ne_tbl_lst) (Fz.subAll s ds _ h2)
  | .tuple ds, _, h => by
    cases h with
    | tup h1 h2 => exact .tup (SqT.sub h1 s) (Fz.subAll s ds _ h2)
  | .dict _, _, h => by cases h
theorem Fz.subAll {K : PySem.W.Frag} {G G' : Hp} (s : Sub G G') : ∀ (ds : List Dt) (vs : List V), FzAll K G vs ds → FzAll K G' vs ds
  | [], _, h => by cases h; exact .nil
  | d :: ds, _, h => by
    cases h with
    | cons h1 h2 => exact .cons (Fz.sub s d _ h1) (Fz.subAll s ds _ h2)
end
mutual
theorem Fz.dp {K : PySem.W.Frag} {G : Hp} : ∀ (d : Dt) (v : V), Fz K G v d → Dp K G v d
  | .none, _, h => by cases h; exact .non
  | .bool b, _, h => by cases h; exact .bl b
  | .int i, _, h => by cases h; exact .int i
  | .str x, _, h => by cases h; exact .str x
  | .list ds, _, h => by
    cases h with
    | lst h1 h2 => exact .lst (.of h1) (Fz.dpAll ds _ h2)
  | .tuple ds, _, h => by
    cases h with
    | tup h1 h2 => exact .tup h1 (Fz.dpAll ds _ h2)
  | .dict _, _, h => by cases h
theorem Fz.dpAll {K : PySem.W.Frag} {G : Hp} : ∀ (ds : List Dt) (vs : List V), FzAll K G vs ds → DpAll K G vs ds
  | [], _, h => by cases h; exact .nil
  | d :: ds, _, h => by
    cases h with
    | cons h1 h2 => exact .cons (Fz.dp d _ h1) (Fz.dpAll ds _ h2)
end
theorem FzAll.length {K : PySem.W.Frag} {G : Hp} : ∀ {vs : List V} {ds : List Dt}, FzAll K G vs ds → vs.length = ds.length
  | _, _, .nil => rfl
  | _, _, .cons _ t => by simp [FzAll.length t]
theorem FzAll.get {K : PySem.W.Frag} {G : Hp} : ∀ {vs : List V} {ds : List Dt} {i : Nat} {d : Dt}, FzAll K G vs ds → ds[i]? = some d → ∃ v, vs[i]? = some v ∧ Fz K G v d
  | _, _, _, _, .nil, e => by simp at e
  | _, _, 0, _, .cons r _, e => by simp at e; subst e; exact ⟨_, rfl, r⟩
  | _, _, i + 1, _, .cons _ t, e => by
    obtain ⟨v, h1, h2⟩ := FzAll.get (i := i) t (by simpa using e)
    exact ⟨v, by simpa using h1, h2⟩
theorem FzAll.append {K : PySem.W.Frag} {G : Hp} : ∀ {vs ws : List V} {ds es : List Dt}, FzAll K G vs ds → FzAll K G ws es → FzAll K G (vs ++ ws) (ds ++ es)
  | _, _, _, _, .nil, s => s
  | _, _, _, _, .cons r t, s => .cons r (FzAll.append t s)
theorem FzAll.take {K : PySem.W.Frag} {G : Hp} : ∀ {vs : List V} {ds : List Dt} (n : Nat), FzAll K G vs ds → FzAll K G (vs.take n) (ds.take n)
  | _, _, 0, _ => .nil
  | _, _, _ + 1, .nil => .nil
  | _, _, n + 1, .cons r t => .cons r (FzAll.take n t)
theorem FzAll.drop {K : PySem.W.Frag} {G : Hp} : ∀ {vs : List V} {ds : List Dt} (n : Nat), FzAll K G vs ds → FzAll K G (vs.drop n) (ds.drop n)
  | _, _, 0, r => r
  | _, _, _ + 1, .nil => .nil
  | _, _, n + 1, .cons _ t => FzAll.drop n t
theorem FzAll.set {K : PySem.W.Frag} {G : Hp} {x : V} {d : Dt} (r : Fz K G x d) : ∀ {vs : List V} {ds : List Dt} (i : Nat), FzAll K G vs ds → FzAll K G (vs.set i x) (ds.set i d)
  | _, _, _, .nil => .nil
  | _, _, 0, .cons _ t => .cons r t
  | _, _, i + 1, .cons q t => .cons q (FzAll.set r i t)
theorem FzAll.rev {K : PySem.W.Frag} {G : Hp} : ∀ {vs : List V} {ds : List Dt}, FzAll K G vs ds → FzAll K G vs.reverse ds.reverse
  | _, _, .nil => .nil
  | _, _, .cons r t => by
    rw [List.reverse_cons, List.reverse_cons]
    exact FzAll.append (FzAll.rev t) (.cons r .nil)
/-- a dict's pairs -/
inductive DpK (K : PySem.W.Frag) (G : Hp) : List (Key × V) → List (Key × Dt) → Prop
  | nil : DpK K G [] []
  | cons {k : Key} {v : V} {d : Dt} {l m} : Fz K G v d → DpK K G l m → DpK K G ((k, v) :: l) ((k, d) :: m)
inductive DpF (K : PySem.W.Frag) (G : Hp) : List (Str × V) → List (Str × Dt) → Prop
  | nil : DpF K G [] []
  | cons {k : Str} {v : V} {d : Dt} {l m} : Fz K G v d → DpF K G l m → DpF K G ((k, v) :: l) ((k, d) :: m)
theorem DpK.sub {K : PySem.W.Frag} {G G' : Hp} (s : Sub G G') : ∀ {l m}, DpK K G l m → DpK K G' l m
  | _, _, .nil => .nil
  | _, _, .cons r t => .cons (Fz.sub s _ _ r) (DpK.sub s t)
theorem DpF.sub {K : PySem.W.Frag} {G G' : Hp} (s : Sub G G') : ∀ {l m}, DpF K G l m → DpF K G' l m
  | _, _, .nil => .nil
  | _, _, .cons r t => .cons (Fz.sub s _ _ r) (DpF.sub s t)
/-- what a root at a holds -/
def ObOk (K : PySem.W.Frag) (W : List Addr) (H : Hp) (a : Addr) : Ob → Prop
  | .lst ds => ∃ vs, H a = some (.lst vs) ∧ FzAll K (msk W H) vs ds
  | .dic kvs => ∃ vs, H a = some (.dK vs) ∧ DpK K (msk W H) vs kvs
  | .ins C fs => ∃ dx vs, H a = some (.ins C dx vs) ∧ DpF K (msk W H) vs fs
theorem CloAt.sub {G G' : Hp} {d : ClD} {f : Addr} (h : CloAt G d f) (s : Sub G G') : CloAt G' d f := by
  obtain ⟨c', h1, h2⟩ := h
  exact ⟨c', s _ _ h1 (fun ps z => nomatch z), s _ _ h2 (fun ps z => nomatch z)⟩
/-- a value is told -/
def Vl (C : Cf) (W : List Addr) (σ : L2.St) (H : Hp) (v : V) : R → Prop
  | .d x => Fz C.K (msk W H) v x
  | .loc i => σ[i]? = some (some v)
  | .hnd j => ∃ a, C.as[j]? = some a ∧ v = .ref a
  | .clo i => ∃ f, v = .ref f ∧ CloAt (msk W H) (C.clo i) f
  | .clos n => ∃ (a : Addr) (fs : List Addr), v = .ref a ∧ msk W H a = some (.lst (fs.map V.ref)) ∧ fs.length = n ∧ ∀ i f, fs[i]? = some f → CloAt (msk W H) (C.clo i) f
  | .scr ds => ∃ (a : Addr) (vs : List V), v = .ref a ∧ SqL C.K (msk W H) a vs ∧ FzAll C.K (msk W H) vs ds
def SvOk (C : Cf) (W : List Addr) (H : Hp) (v : V) : SV → Prop
  | .fro r => (∀ i, r ≠ .loc i) ∧ Vl C W [] H v r
  | .own o => ∃ a, v = .ref a ∧ a ∈ W ∧ a ∉ C.W0 ∧ ObOk C.K W H a o
/-- nothing stood there, or a table -/
def Nw (G : Hp) (b : Addr) : Prop := ∀ o, G b = some o → ∃ ps, o = .tbl ps
/-- the state is told by the environment -/
structure Ok (C : Cf) (W : List Addr) (e : Env) (σ : L2.St) (H : Hp) : Prop where
  keep : ∀ b o, C.H0 b = some o → b ∉ C.as → (∀ ps, o ≠ .tbl ps) → H b = some o
  fresh : ∀ b ∈ W, b ∈ C.W0 ∨ Nw C.H0 b
  sub : ∀ b ∈ C.W0, b ∈ W
  live : ∀ b ∈ W, ∃ o, H b = some o ∧ Rk o
  has : ∀ b ∈ C.as, b ∈ C.W0
  nd : C.as.Nodup
  tabs : LamX.Tabs C.T H
  slot : ∀ (i : Nat) (sv : SV), e.sl[i]? = some (some sv) → ∃ v : V, σ[i]? = some (some v) ∧ SvOk C W H v sv
  hlen : C.as.length = e.hs.length
  hnds : ∀ (j : Nat) (a : Addr) (o : Ob), C.as[j]? = some a → e.hs[j]? = some o → ObOk C.K W H a o
  len : σ.length = e.sl.length
  dist : ∀ (i j : Nat) (oi oj : Ob) (v : V), e.sl[i]? = some (some (.own oi)) → e.sl[j]? = some (some (.own oj)) → σ[i]? = some (some v) → σ[j]? = some (some v) → i = j
/-- from one state to a later one: data stay -/
def Ext (W : List Addr) (H : Hp) (W' : List Addr) (H' : Hp) : Prop := Sub (msk W H) (msk W' H')
theorem Ext.refl {W : List Addr} {H : Hp} : Ext W H W H := Sub.refl _
theorem Ext.trans {W W1 W2 : List Addr} {H H1 H2 : Hp} (a : Ext W H W1 H1) (b : Ext W1 H1 W2 H2) : Ext W H W2 H2 := Sub.trans a b
theorem Vl.ext {C : Cf} {W W' : List Addr} {σ : L2.St} {H H' : Hp} {v : V} {r : R} (h : Vl C W σ H v r) (x : Ext W H W' H') : Vl C W' σ H' v r := by
  cases r with
  | d y => exact Fz.sub x _ _ h
  | loc i => exact h
  | hnd i => exact h
  | clo i =>
    obtain ⟨f, h1, h2⟩ := h
    exact ⟨f, h1, h2.sub x⟩
  | clos n =>
    obtain ⟨a, fs, h1, h2, h3, h4⟩ := h
    exact ⟨a, fs, h1, x _ _ h2 ne_tbl_lst, h3, fun i f hf => (h4 i f hf).sub x⟩
  | scr ds =>
    obtain ⟨a, vs, h1, h2, h3⟩ := h
    exact ⟨a, vs, h1, SqL.sub h2 x, Fz.subAll x _ _ h3⟩
theorem Vl.any {C : Cf} {W : List Addr} {σ σ' : L2.St} {H : Hp} {v : V} {r : R} (h : Vl C W σ H v r) (n : ∀ i, r ≠ .loc i) : Vl C W σ' H v r := by
  cases r with
  | loc i => exact absurd rfl (n i)
  | d y => exact h
  | hnd i => exact h
  | clo i => exact h
  | clos n => exact h
  | scr n => exact h
inductive Vls (C : Cf) (W : List Addr) (σ : L2.St) (H : Hp) : List V → List R → Prop
  | nil : Vls C W σ H [] []
  | cons {v : V} {r : R} {vs rs} : Vl C W σ H v r → Vls C W σ H vs rs → Vls C W σ H (v :: vs) (r :: rs)
theorem Vls.ext {C : Cf} {W W' : List Addr} {σ : L2.St} {H H' : Hp} (x : Ext W H W' H') : ∀ {vs rs}, Vls C W σ H vs rs → Vls C W' σ H' vs rs
  | _, _, .nil => .nil
  | _, _, .cons h t => .cons (h.ext x) (Vls.ext x t)
theorem Vls.length {C : Cf} {W : List Addr} {σ : L2.St} {H : Hp} : ∀ {vs rs}, Vls C W σ H vs rs → vs.length = rs.length
  | _, _, .nil => rfl
  | _, _, .cons _ t => by simp [Vls.length t]

/-! ### readings told by functions of the environment -/
/-- an error is wanted so -/
def Wx (C : Cf) (w : WX) (c : Nat) (e : Env) (W : List Addr) (σ : L2.St) (H : Hp) : Prop := ∀ W' H', Ext W H W' H' → Ok C W' e σ H' → w (.ref (C.cls c)) none σ H'
def pO (C : Cf) (w : WX) (σ : L2.St) (W : List Addr) (H : Hp) (Q : VK) : Rs R → Prop
  | .ok r e' => ∀ v W' H', Ext W H W' H' → Ok C W' e' σ H' → Vl C W' σ H' v r → Q v H'
  | .err c e' => Wx C w c e' W σ H
  | .stk => False
def tOf (C : Cf) (w : WX) (f : Env → Rs R) : TE := fun σ H Q => ∃ W e, Ok C W e σ H ∧ pO C w σ W H Q (f e)
def pT (C : Cf) (w : WX) (σ : L2.St) (W : List Addr) (H : Hp) (Q : Bool → Hp → Prop) : Rs Bool → Prop
  | .ok b e' => ∀ W' H', Ext W H W' H' → Ok C W' e' σ H' → Q b H'
  | .err c e' => Wx C w c e' W σ H
  | .stk => False
def ttOf (C : Cf) (w : WX) (f : Env → Rs Bool) : TT := fun σ H Q => ∃ W e, Ok C W e σ H ∧ pT C w σ W H Q (f e)
def pA (C : Cf) (w : WX) (σ : L2.St) (W : List Addr) (H : Hp) (Q : List V → Hp → Prop) : Rs (List R) → Prop
  | .ok rs e' => ∀ vs W' H', Ext W H W' H' → Ok C W' e' σ H' → Vls C W' σ H' vs rs → Q vs H'
  | .err c e' => Wx C w c e' W σ H
  | .stk => False
def taOf (C : Cf) (w : WX) (f : Env → Rs (List R)) : TA := fun σ H Q => ∃ W e, Ok C W e σ H ∧ pA C w σ W H Q (f e)
/-- p is a root that no slot holds -/
def Lone (C : Cf) (W : List Addr) (e : Env) (σ : L2.St) (p : Addr) : Prop := p ∈ W ∧ p ∉ C.W0 ∧ ∀ (i : Nat) (oi : Ob), e.sl[i]? = some (some (SV.own oi)) → σ[i]? ≠ some (some (V.ref p))
/-- a new root that nothing else leads to -/
def pN (C : Cf) (w : WX) (σ : L2.St) (W : List Addr) (H : Hp) (Q : VK) : Rs Ob → Prop
  | .ok o e' => ∀ (p : Addr) W' H', Ext W H W' H' → Ok C W' e' σ H' → Lone C W' e' σ p → ObOk C.K W' H' p o → Q (.ref p) H'
  | .err c e' => Wx C w c e' W σ H
  | .stk => False
def tNew (C : Cf) (w : WX) (f : Env → Rs Ob) : TE := fun σ H Q => ∃ W e, Ok C W e σ H ∧ pN C w σ W H Q (f e)
/-- a statement's end -/
inductive Sr where
  | nx (e : Env) | ret (r : R) (e : Env) | rto (b : Bool) (o : Ob) (e : Env) | bk (e : Env) | ct (e : Env) | err (c : Nat) (e : Env) | stk
/-- v is the new root at p (b = false), or a list of it alone -/
def Rt (b : Bool) (W : List Addr) (H : Hp) (v : V) (p : Addr) : Prop := if b = true then ∃ a, v = .ref a ∧ msk W H a = some (.lst [.ref p]) else v = .ref p
def pS (C : Cf) (w : WX) (σ : L2.St) (W : List Addr) (H : Hp) (D : Ends) : Sr → Prop
  | .nx e' => ∀ σ' W' H', Ext W H W' H' → Ok C W' e' σ' H' → D.nx σ' H'
  | .ret r e' => ∀ v σ' W' H', Ext W H W' H' → Ok C W' e' σ' H' → Vl C W' σ' H' v r → D.rt v H'
  | .rto b o e' => ∀ v p σ' W' H', Ext W H W' H' → Ok C W' e' σ' H' → Rt b W' H' v p → Lone C W' e' σ' p → ObOk C.K W' H' p o → D.rt v H'
  | .bk e' => ∀ σ' W' H', Ext W H W' H' → Ok C W' e' σ' H' → D.bk σ' H'
  | .ct e' => ∀ σ' W' H', Ext W H W' H' → Ok C W' e' σ' H' → D.ct σ' H'
  | .err c e' => ∀ σ' W' H', Ext W H W' H' → Ok C W' e' σ' H' → w (.ref (C.cls c)) none σ' H'
  | .stk => False
def tsOf (C : Cf) (w : WX) (f : Env → Sr) : TS := fun D σ H => ∃ W e, Ok C W e σ H ∧ pS C w σ W H D (f e)
theorem PE.imp {X : Cx} {e : Expr} {t t' : TE} (h : PE X e t) (i : ∀ σ H Q, t' σ H Q → t σ H Q) : PE X e t' := ⟨fun pins s σ H Q I q => h.run pins s σ H Q I (i σ H Q q)⟩
theorem PT.imp {X : Cx} {e : Expr} {t t' : TT} (h : PT X e t) (i : ∀ σ H Q, t' σ H Q → t σ H Q) : PT X e t' := ⟨fun pins s σ H Q I q => h.run pins s σ H Q I (i σ H Q q)⟩
theorem PA.imp {X : Cx} {e : List Expr} {t t' : TA} (h : PA X e t) (i : ∀ σ H Q, t' σ H Q → t σ H Q) : PA X e t' := ⟨fun pos pins s σ H Q I q => h.run pos pins s σ H Q I (i σ H Q q)⟩
theorem PS.imp {X : Cx} {e : Stmt} {t t' : TS} (h : PS X e t) (i : ∀ D σ H, t' D σ H → t D σ H) : PS X e t' := ⟨fun pins s σ H D I q => h.run pins s σ H D I (i D σ H q)⟩
theorem PSs.imp {X : Cx} {e : List Stmt} {t t' : TS} (h : PSs X e t) (i : ∀ D σ H, t' D σ H → t D σ H) : PSs X e t' := ⟨fun pins s σ H D I q => h.run pins s σ H D I (i D σ H q)⟩
theorem Wx.ext {C : Cf} {w : WX} {c : Nat} {e : Env} {W W' : List Addr} {σ : L2.St} {H H' : Hp} (h : Wx C w c e W σ H) (x : Ext W H W' H') : Wx C w c e W' σ H' := fun W2 H2 y o => h W2 H2 (x.trans y) o

/-! ### how states follow each other -/
section
variable {C : Cf} {w : WX} {σ : L2.St} {W W' : List Addr} {H H' : Hp}
theorem pO.ext {Q : VK} {r : Rs R} (h : pO C w σ W H Q r) (x : Ext W H W' H') : pO C w σ W' H' Q r := by
  cases r with
  | ok r e' => exact fun v W2 H2 y => h v W2 H2 (x.trans y)
  | err c e' => exact Wx.ext h x
  | stk => exact h
theorem pT.ext {Q : Bool → Hp → Prop} {r : Rs Bool} (h : pT C w σ W H Q r) (x : Ext W H W' H') : pT C w σ W' H' Q r := by
  cases r with
  | ok r e' => exact fun W2 H2 y => h W2 H2 (x.trans y)
  | err c e' => exact Wx.ext h x
  | stk => exact h
theorem pA.ext {Q : List V → Hp → Prop} {r : Rs (List R)} (h : pA C w σ W H Q r) (x : Ext W H W' H') : pA C w σ W' H' Q r := by
  cases r with
  | ok r e' => exact fun v W2 H2 y => h v W2 H2 (x.trans y)
  | err c e' => exact Wx.ext h x
  | stk => exact h
theorem pN.ext {Q : VK} {r : Rs Ob} (h : pN C w σ W H Q r) (x : Ext W H W' H') : pN C w σ W' H' Q r := by
  cases r with
  | ok r e' => exact fun p W2 H2 y => h p W2 H2 (x.trans y)
  | err c e' => exact Wx.ext h x
  | stk => exact h
theorem pS.ext {D : Ends} {r : Sr} (h : pS C w σ W H D r) (x : Ext W H W' H') : pS C w σ W' H' D r := by
  cases r with
  | nx e' => exact fun σ2 W2 H2 y => h σ2 W2 H2 (x.trans y)
  | ret r e' => exact fun v σ2 W2 H2 y => h v σ2 W2 H2 (x.trans y)
  | rto b o e' => exact fun v p σ2 W2 H2 y => h v p σ2 W2 H2 (x.trans y)
  | bk e' => exact fun σ2 W2 H2 y => h σ2 W2 H2 (x.trans y)
  | ct e' => exact fun σ2 W2 H2 y => h σ2 W2 H2 (x.trans y)
  | err c e' => exact fun σ2 W2 H2 y => h σ2 W2 H2 (x.trans y)
  | stk => exact h
end
theorem ObOk.mono {K : PySem.W.Frag} {W W' : List Addr} {H H' : Hp} {a : Addr} {o : Ob} (h : ObOk K W H a o) (e : ∀ u, H a = some u → (∀ ps, u ≠ .tbl ps) → H' a = some u) (x : Ext W H W' H') : ObOk K W' H' a o := by
  cases o with
  | lst ds => obtain ⟨vs, h1, h2⟩ := h; exact ⟨vs, e _ h1 ne_tbl_lst, Fz.subAll x _ _ h2⟩
  | dic kvs => obtain ⟨vs, h1, h2⟩ := h; exact ⟨vs, e _ h1 ne_tbl_dK, DpK.sub x h2⟩
  | ins D fs => obtain ⟨dx, vs, h1, h2⟩ := h; exact ⟨dx, vs, e _ h1 ne_tbl_ins, DpF.sub x h2⟩
theorem Ok.notnone {C : Cf} {W : List Addr} {e : Env} {σ : L2.St} {H : Hp} (k : Ok C W e σ H) {p : Addr} (hp : H p = none) : p ∉ W := fun h => by
  obtain ⟨o, h1, _⟩ := k.live p h
  rw [hp] at h1; cases h1
theorem tabs_upd {T : List (Addr × Str)} {H : Hp} {p : Addr} {o : HO} (h : LamX.Tabs T H) (hp : ∀ u, H p = some u → (∀ ps, u ≠ .tbl ps) ∧ ∀ q, u ≠ LamX.CodeO p q) : LamX.Tabs T (upd H p o) := fun q hq => by
  obtain ⟨ps, h1, h2, h3⟩ := h q hq
  refine ⟨ps, ?_, h2, fun pos cv hc => ?_⟩
  · rw [upd_ne (fun z => ((hp _ (by rw [← z]; exact h1)).1 ps) rfl)]; exact h1
  · obtain ⟨c, e1, e2⟩ := h3 pos cv hc
    refine ⟨c, e1, ?_⟩
    rw [upd_ne (fun z => by subst z; exact (hp _ e2).2 q.2 rfl)]; exact e2
theorem none_upd {H : Hp} {p b : Addr} {o : HO} (h : upd H p o b = none) : H b = none := by
  by_cases z : b = p
  · rw [z, upd_same] at h; cases h
  · rw [upd_ne z] at h; exact h
/-- new data -/
theorem Ok.new {C : Cf} {W : List Addr} {e : Env} {σ : L2.St} {H : Hp} {p : Addr} (o : HO) (k : Ok C W e σ H) (hp : H p = none) : Ok C W e σ (upd H p o) ∧ Ext W H W (upd H p o) ∧ msk W (upd H p o) p = some o := by
  have pW := k.notnone hp
  have ne : ∀ b u, H b = some u → b ≠ p := fun b u h => ne_of_none h hp
  have x : Ext W H W (upd H p o) := fun b u h _ => by
    obtain ⟨h1, h2⟩ := msk_some h
    rw [msk_out h1, upd_ne (ne b u h2)]; exact h2
  refine ⟨⟨fun b u h1 h2 h3 => ?_, k.fresh, k.sub, fun b hb => ?_, k.has, k.nd, tabs_upd k.tabs fun u h => (by rw [hp] at h; cases h), fun i sv h => ?_, k.hlen, fun j a ob h1 h2 => ?_, k.len, k.dist⟩, x, ?_⟩
  · have := k.keep b u h1 h2 h3
    rw [upd_ne (ne b u this)]; exact this
  · obtain ⟨u, h1, h2⟩ := k.live b hb
    exact ⟨u, by rw [upd_ne (ne b u h1)]; exact h1, h2⟩
  · obtain ⟨v, h1, h2⟩ := k.slot i sv h
    refine ⟨v, h1, ?_⟩
    cases sv with
    | fro r => exact ⟨h2.1, h2.2.ext x⟩
    | own ob =>
      obtain ⟨a, e1, e2, e3, e4⟩ := h2
      exact ⟨a, e1, e2, e3, e4.mono (fun u hu _ => by rw [upd_ne (ne a u hu)]; exact hu) x⟩
  · exact (k.hnds j a ob h1 h2).mono (fun u hu _ => by rw [upd_ne (ne a u hu)]; exact hu) x
  · rw [msk_out pW, upd_same]
/-- a new root -/
theorem Ok.newRoot {C : Cf} {W : List Addr} {e : Env} {σ : L2.St} {H : Hp} {p : Addr} (o : HO) (ht : Rk o) (k : Ok C W e σ H) (hp : H p = none) : Ok C (p :: W) e σ (upd H p o) ∧ Ext W H (p :: W) (upd H p o) := by
  have pW := k.notnone hp
  have ne : ∀ b u, H b = some u → b ≠ p := fun b u h => ne_of_none h hp
  have x : Ext W H (p :: W) (upd H p o) := fun b u h _ => by
    obtain ⟨h1, h2⟩ := msk_some h
    have nb := ne b u h2
    rw [msk_out (by simp [nb, h1]), upd_ne nb]; exact h2
  have kp : ∀ b u, C.H0 b = some u → b ∉ C.as → (∀ ps, u ≠ .tbl ps) → upd H p o b = some u := fun b u h1 h2 h3 => by
    have := k.keep b u h1 h2 h3
    rw [upd_ne (ne b u this)]; exact this
  refine ⟨⟨kp, fun b hb => ?_, fun b hb => List.mem_cons_of_mem _ (k.sub b hb), fun b hb => ?_, k.has, k.nd, tabs_upd k.tabs fun u h => (by rw [hp] at h; cases h), fun i sv h => ?_, k.hlen, fun j a ob h1 h2 => ?_, k.len, k.dist⟩, x⟩
  · rcases List.mem_cons.mp hb with rfl | hb
    · right
      intro o' q
      by_cases hb' : b ∈ C.as
      · exact absurd (k.sub b (k.has b hb')) pW
      · cases o' with
        | tbl ps => exact ⟨ps, rfl⟩
        | _ => exact absurd (k.keep b _ q hb' (fun ps z => by cases z)) (by rw [hp]; intro z; cases z)
    · exact k.fresh b hb
  · rcases List.mem_cons.mp hb with rfl | hb
    · exact ⟨o, upd_same, ht⟩
    · obtain ⟨u, h1, h2⟩ := k.live b hb
      exact ⟨u, by rw [upd_ne (ne b u h1)]; exact h1, h2⟩
  · obtain ⟨v, h1, h2⟩ := k.slot i sv h
    refine ⟨v, h1, ?_⟩
    cases sv with
    | fro r => exact ⟨h2.1, h2.2.ext x⟩
    | own ob =>
      obtain ⟨a, e1, e2, e3, e4⟩ := h2
      exact ⟨a, e1, List.mem_cons_of_mem _ e2, e3, e4.mono (fun u hu _ => by rw [upd_ne (ne a u hu)]; exact hu) x⟩
  · exact (k.hnds j a ob h1 h2).mono (fun u hu _ => by rw [upd_ne (ne a u hu)]; exact hu) x
/-- the root at p is a root no more: data from now on -/
def rmv (p : Addr) (W : List Addr) : List Addr := W.filter fun b => decide (b ≠ p)
theorem mem_rmv {p b : Addr} {W : List Addr} : b ∈ rmv p W ↔ b ∈ W ∧ b ≠ p := by simp [rmv]
theorem Ok.freeze {C : Cf} {W : List Addr} {e : Env} {σ : L2.St} {H : Hp} {p : Addr} (k : Ok C W e σ H) (hp : p ∉ C.W0) (n : ∀ (i : Nat) (oi : Ob), e.sl[i]? = some (some (SV.own oi)) → σ[i]? ≠ some (some (V.ref p))) :
    Ok C (rmv p W) e σ H ∧ Ext W H (rmv p W) H := by
  have x : Ext W H (rmv p W) H := fun b u h _ => by
    obtain ⟨h1, h2⟩ := msk_some h
    rw [msk_out fun z => h1 (mem_rmv.mp z).1]; exact h2
  refine ⟨⟨k.keep, fun b hb => k.fresh b (mem_rmv.mp hb).1, fun b hb => mem_rmv.mpr ⟨k.sub b hb, fun z => hp (by rw [← z]; exact hb)⟩, fun b hb => k.live b (mem_rmv.mp hb).1, k.has, k.nd, k.tabs, fun i sv h => ?_, k.hlen, fun j a ob h1 h2 => ?_, k.len, k.dist⟩, x⟩
  · obtain ⟨v, h1, h2⟩ := k.slot i sv h
    refine ⟨v, h1, ?_⟩
    cases sv with
    | fro r => exact ⟨h2.1, h2.2.ext x⟩
    | own ob =>
      obtain ⟨a, e1, e2, e3, e4⟩ := h2
      refine ⟨a, e1, mem_rmv.mpr ⟨e2, fun z => n i ob h ?_⟩, e3, e4.mono (fun u hu _ => hu) x⟩
      rw [h1, e1, z]
  · exact (k.hnds j a ob h1 h2).mono (fun u hu _ => hu) x
/-- a root's object is written -/
theorem Ok.write {C : Cf} {W : List Addr} {e e' : Env} {σ : L2.St} {H : Hp} {p : Addr} {o : HO} (k : Ok C W e σ H) (hW : p ∈ W) (ht : Rk o) (hb : p ∉ C.W0 ∨ p ∈ C.as) (hc : ∀ q, H p ≠ some (LamX.CodeO p q))
    (hs : ∀ (i : Nat) (sv : SV), e'.sl[i]? = some (some sv) → (e.sl[i]? = some (some sv) ∧ σ[i]? ≠ some (some (.ref p))) ∨ (∃ r, sv = .fro r ∧ e.sl[i]? = some (some sv)) ∨ ∃ ob, sv = .own ob ∧ (∃ ob', e.sl[i]? = some (some (.own ob'))) ∧ σ[i]? = some (some (.ref p)) ∧ ObOk C.K W (upd H p o) p ob)
    (hsl : e'.sl.length = e.sl.length) (hl : e'.hs.length = e.hs.length) (hh : ∀ (j : Nat) (a : Addr) (ob : Ob), C.as[j]? = some a → e'.hs[j]? = some ob → (a ≠ p ∧ e.hs[j]? = some ob) ∨ (a = p ∧ ObOk C.K W (upd H p o) p ob)) :
    Ok C W e' σ (upd H p o) ∧ Ext W H W (upd H p o) := by
  have x : Ext W H W (upd H p o) := fun b u h _ => by
    obtain ⟨h1, h2⟩ := msk_some h
    rw [msk_out h1, upd_ne fun z => h1 (by rw [z]; exact hW)]; exact h2
  have nt : ∀ ps, H p ≠ some (.tbl ps) := fun ps z => by
    obtain ⟨u, h1, h2⟩ := k.live p hW
    rw [h1] at z; cases z; exact h2.1 ps rfl
  refine ⟨⟨fun b u h1 h2 h3 => ?_, k.fresh, k.sub, fun b hb => ?_, k.has, k.nd, tabs_upd k.tabs fun u h => ⟨fun ps z => nt ps (by rw [h, z]), fun q z => hc q (by rw [h, z])⟩, fun i sv h => ?_, by rw [hl]; exact k.hlen, fun j a ob h1 h2 => ?_, by rw [hsl]; exact k.len, fun i j oi oj v h1 h2 h3 h4 => ?_⟩, x⟩
  · by_cases z : b = p
    · subst z
      rcases hb with q | q
      · rcases k.fresh b hW with q' | q'
        · exact absurd q' q
        · obtain ⟨ps, z⟩ := q' _ h1; exact absurd z (h3 ps)
      · exact absurd q h2
    · rw [upd_ne z]; exact k.keep b u h1 h2 h3
  · by_cases z : b = p
    · subst z; exact ⟨o, upd_same, ht⟩
    · obtain ⟨u, h1, h2⟩ := k.live b hb
      exact ⟨u, by rw [upd_ne z]; exact h1, h2⟩
  · rcases hs i sv h with ⟨h1, h2⟩ | ⟨r, rfl, h1⟩ | ⟨ob, rfl, ⟨ob', h1⟩, h2, h3⟩
    · obtain ⟨v, e1, e2⟩ := k.slot i sv h1
      refine ⟨v, e1, ?_⟩
      cases sv with
      | fro r => exact ⟨e2.1, e2.2.ext x⟩
      | own ob =>
        obtain ⟨a, f1, f2, f3, f4⟩ := e2
        exact ⟨a, f1, f2, f3, f4.mono (fun u hu _ => by rw [upd_ne (fun z => h2 (by rw [e1, f1, z]))]; exact hu) x⟩
    · obtain ⟨v, e1, e2⟩ := k.slot i _ h1
      exact ⟨v, e1, e2.1, e2.2.ext x⟩
    · obtain ⟨v, e1, a, f1, f2, f3, f4⟩ := k.slot i _ h1
      have : a = p := by rw [h2, f1] at e1; cases e1; rfl
      subst this
      exact ⟨.ref a, h2, a, rfl, f2, f3, h3⟩
  · rcases hh j a ob h1 h2 with ⟨z, h3⟩ | ⟨rfl, h3⟩
    · exact (k.hnds j a ob h1 h3).mono (fun u hu _ => by rw [upd_ne z]; exact hu) x
    · exact h3
  · have own : ∀ (i : Nat) (oi : Ob), e'.sl[i]? = some (some (SV.own oi)) → ∃ o' : Ob, e.sl[i]? = some (some (SV.own o')) := fun i oi h => by
      rcases hs i _ h with ⟨h1, _⟩ | ⟨r, z, _⟩ | ⟨ob, _, h1, _⟩
      · exact ⟨_, h1⟩
      · cases z
      · exact h1
    obtain ⟨o1, g1⟩ := own i oi h1
    obtain ⟨o2, g2⟩ := own j oj h2
    exact k.dist i j o1 o2 v g1 g2 h3 h4
theorem get_set {α : Type} {l : List α} {i j : Nat} {a b : α} (h : (l.set i a)[j]? = some b) : (j = i ∧ b = a) ∨ (j ≠ i ∧ l[j]? = some b) := by
  by_cases z : i = j
  · subst z
    rw [List.getElem?_set_self'] at h
    cases q : l[i]? with
    | none => rw [q] at h; simp at h
    | some c => rw [q] at h; simp at h; exact .inl ⟨rfl, h.symm⟩
  · rw [List.getElem?_set_ne z] at h
    exact .inr ⟨fun y => z y.symm, h⟩
/-- a slot takes data -/
theorem Ok.set {C : Cf} {W : List Addr} {e : Env} {σ : L2.St} {H : Hp} {i : Nat} {v : V} {r : R} (k : Ok C W e σ H) (hv : Vl C W σ H v r) (hr : ∀ j, r ≠ .loc j) (hi : i < σ.length) : Ok C W ⟨e.sl.set i (some (.fro r)), e.hs⟩ (σ.set i (some v)) H where
  keep := k.keep
  fresh := k.fresh
  sub := k.sub
  live := k.live
  has := k.has
  nd := k.nd
  tabs := k.tabs
  hlen := k.hlen
  hnds := k.hnds
  len := by simp [k.len]
  slot := fun j sv h => by
    rcases get_set h with ⟨rfl, q⟩ | ⟨z, q⟩
    · cases q
      exact ⟨v, List.getElem?_set_self hi, hr, hv.any hr⟩
    · obtain ⟨u, h1, h2⟩ := k.slot j sv q
      exact ⟨u, by rw [List.getElem?_set_ne (Ne.symm z)]; exact h1, h2⟩
  dist := fun a b oa ob u h1 h2 h3 h4 => by
    rcases get_set h1 with ⟨_, q⟩ | ⟨z1, q1⟩
    · cases q
    · rcases get_set h2 with ⟨_, q⟩ | ⟨z2, q2⟩
      · cases q
      · rw [List.getElem?_set_ne (Ne.symm z1)] at h3
        rw [List.getElem?_set_ne (Ne.symm z2)] at h4
        exact k.dist a b oa ob u q1 q2 h3 h4
/-- a slot takes a root -/
theorem Ok.setOwn {C : Cf} {W : List Addr} {e : Env} {σ : L2.St} {H : Hp} {i : Nat} {p : Addr} {o : Ob} (k : Ok C W e σ H) (hW : p ∈ W) (h0 : p ∉ C.W0) (n : ∀ (i : Nat) (oi : Ob), e.sl[i]? = some (some (SV.own oi)) → σ[i]? ≠ some (some (V.ref p))) (ho : ObOk C.K W H p o) (hi : i < σ.length) :
    Ok C W ⟨e.sl.set i (some (.own o)), e.hs⟩ (σ.set i (some (.ref p))) H where
  keep := k.keep
  fresh := k.fresh
  sub := k.sub
  live := k.live
  has := k.has
  nd := k.nd
  tabs := k.tabs
  hlen := k.hlen
  hnds := k.hnds
  len := by simp [k.len]
  slot := fun j sv h => by
    rcases get_set h with ⟨rfl, q⟩ | ⟨z, q⟩
    · cases q
      exact ⟨.ref p, List.getElem?_set_self hi, p, rfl, hW, h0, ho⟩
    · obtain ⟨u, h1, h2⟩ := k.slot j sv q
      exact ⟨u, by rw [List.getElem?_set_ne (Ne.symm z)]; exact h1, h2⟩
  dist := fun a b oa ob u h1 h2 h3 h4 => by
    rcases get_set h1 with ⟨ea, _⟩ | ⟨z1, q1⟩
    · rcases get_set h2 with ⟨eb, _⟩ | ⟨z2, q2⟩
      · rw [ea, eb]
      · subst ea
        rw [List.getElem?_set_self hi] at h3
        rw [List.getElem?_set_ne (Ne.symm z2)] at h4
        cases h3
        exact absurd h4 (n b _ q2)
    · rw [List.getElem?_set_ne (Ne.symm z1)] at h3
      rcases get_set h2 with ⟨eb, _⟩ | ⟨z2, q2⟩
      · subst eb
        rw [List.getElem?_set_self hi] at h4
        cases h4
        exact absurd h3 (n a _ q1)
      · rw [List.getElem?_set_ne (Ne.symm z2)] at h4
        exact k.dist a b oa ob u q1 q2 h3 h4
end Ev

set_option Elab.async false
set_option linter.all false
set_option maxRecDepth 100000
namespace Ev
open PySem L2
/-- signs as a text -/
def sOf (l : List Nat) : Str := ⟨l.toArray⟩
abbrev tl (s : Str) : List Nat := s.cps.toList
@[simp] theorem tl_sOf (l : List Nat) : tl (sOf l) = l := rfl
@[simp] theorem cps_sOf (l : List Nat) : (sOf l).cps.toList = l := rfl
theorem sOf_tl (s : Str) : sOf (tl s) = s := by cases s; rfl
theorem sOf_inj {a b : List Nat} : sOf a = sOf b ↔ a = b := ⟨fun h => by have := congrArg tl h; simpa using this, fun h => by rw [h]⟩
@[simp] theorem len_sOf (l : List Nat) : (sOf l).length = l.length := by simp [Str.length, sOf]
theorem len_tl (s : Str) : (tl s).length = s.length := by simp [Str.length]
theorem sOf_app (a b : List Nat) : sOf a ++ sOf b = sOf (a ++ b) := by
  have h := TL.tl_append (sOf a) (sOf b)
  rw [← sOf_tl (sOf a ++ sOf b)]
  exact congrArg sOf h
abbrev txt (l : List Nat) : R := .d (.str (sOf l))

/-- what a rule may ask of the context -/
structure Ct (X : Cx) (C : Cf) (w : WX) : Prop where
  K : C.K = X.K
  un : X.A.units + 64 < cLine
  un65 : X.A.units + 65 < cLine
  calm : X.calm = true
  nd : X.N.Nodup
  tk : Takes X w

def lof (e : Env) : R → Option (List Dt)
  | .d (.list ds) => some ds
  | .loc i => match e.sl[i]? with
    | some (some (.own (.lst ds))) => some ds
    | _ => none
  | .hnd j => match e.hs[j]? with
    | some (.lst ds) => some ds
    | _ => none
  | _ => none
def tof : R → Option (List Dt)
  | .d (.tuple ds) => some ds
  | _ => none
def dof (e : Env) : R → Option Dt
  | .d x => some x
  | .loc i => (lof e (.loc i)).map .list
  | .hnd i => (lof e (.hnd i)).map .list
  | _ => none
section
variable {C : Cf} {w : WX} {σ : L2.St} {W : List Addr} {H : Hp} {e : Env} {v : V} {r : R}
theorem lof_ok {ds : List Dt} (k : Ok C W e σ H) (h : Vl C W σ H v r) (q : lof e r = some ds) : ∃ a vs, v = .ref a ∧ H a = some (.lst vs) ∧ FzAll C.K (msk W H) vs ds := by
  cases r with
  | d x =>
    cases x <;> simp [lof] at q
    subst q
    have h : Fz C.K (msk W H) v (.list _) := h
    cases h with
    | lst h1 h2 => exact ⟨_, _, rfl, (msk_some h1).2, h2⟩
  | loc i =>
    simp only [lof] at q
    split at q
    · rename_i ds' hs
      cases q
      obtain ⟨u, h1, a, e1, e2, e3, vs, e4, e5⟩ := k.slot i _ hs
      have h : σ[i]? = some (some v) := h
      rw [h] at h1; cases h1
      exact ⟨a, vs, e1, e4, e5⟩
    · cases q
  | hnd j =>
    simp only [lof] at q
    split at q
    · rename_i ds' hs
      cases q
      obtain ⟨a, h1, h2⟩ := h
      obtain ⟨vs, e4, e5⟩ := k.hnds j a _ h1 hs
      exact ⟨a, vs, h2, e4, e5⟩
    · cases q
  | clo i => simp [lof] at q
  | clos n => simp [lof] at q
  | scr n => simp [lof] at q
theorem tof_ok {ds : List Dt} (h : Vl C W σ H v r) (q : tof r = some ds) : ∃ a vs, v = .ref a ∧ SqT C.K (msk W H) a vs ∧ FzAll C.K (msk W H) vs ds := by
  cases r with
  | d x =>
    cases x <;> simp [tof] at q
    subst q
    have h : Fz C.K (msk W H) v (.tuple _) := h
    cases h with
    | tup h1 h2 => exact ⟨_, _, rfl, h1, h2⟩
  | _ => simp [tof] at q
theorem dof_ok {x : Dt} (k : Ok C W e σ H) (h : Vl C W σ H v r) (q : dof e r = some x) : Dp C.K H v x := by
  cases r with
  | d y => simp [dof] at q; subst q; exact Fz.dp _ _ (Fz.sub (Sub.msk W H) _ _ h)
  | loc i =>
    simp only [dof, Option.map_eq_some_iff] at q
    obtain ⟨ds, q1, rfl⟩ := q
    obtain ⟨a, vs, rfl, e1, e2⟩ := lof_ok k h q1
    exact .lst (.of e1) (Fz.dpAll _ _ (Fz.subAll (Sub.msk W H) _ _ e2))
  | hnd i =>
    simp only [dof, Option.map_eq_some_iff] at q
    obtain ⟨ds, q1, rfl⟩ := q
    obtain ⟨a, vs, rfl, e1, e2⟩ := lof_ok k h q1
    exact .lst (.of e1) (Fz.dpAll _ _ (Fz.subAll (Sub.msk W H) _ _ e2))
  | clo i => simp [dof] at q
  | clos n => simp [dof] at q
  | scr n => simp [dof] at q
end

def bnd {α β : Type} (f : Env → Rs α) (g : α → Env → Rs β) : Env → Rs β := fun e => match f e with
  | .ok a e' => g a e'
  | .err c e' => .err c e'
  | .stk => .stk
def cst {α : Type} (a : α) : Env → Rs α := fun e => .ok a e
section
variable {C : Cf} {w : WX} {σ : L2.St} {H : Hp} {Q : VK}
/-- the first part of a reading -/
theorem tOf_bnd {W : List Addr} {e : Env} {f : Env → Rs R} {g : R → Env → Rs R} {P : VK} (k : Ok C W e σ H) (h : pO C w σ W H Q (bnd f g e))
    (n : ∀ v r W' e' H', Ext W H W' H' → Ok C W' e' σ H' → Vl C W' σ H' v r → pO C w σ W' H' Q (g r e') → P v H') : tOf C w f σ H P := by
  refine ⟨W, e, k, ?_⟩
  unfold bnd at h
  cases q : f e with
  | ok r e' =>
    rw [q] at h
    exact fun v W' H' x k' hv => n v r W' e' H' x k' hv (pO.ext h x)
  | err c e' => rw [q] at h; exact h
  | stk => rw [q] at h; exact h
theorem tOf_bndT {W : List Addr} {e : Env} {f : Env → Rs R} {g : R → Env → Rs Bool} {Q : Bool → Hp → Prop} {P : VK} (k : Ok C W e σ H) (h : pT C w σ W H Q (bnd f g e))
    (n : ∀ v r W' e' H', Ext W H W' H' → Ok C W' e' σ H' → Vl C W' σ H' v r → pT C w σ W' H' Q (g r e') → P v H') : tOf C w f σ H P := by
  refine ⟨W, e, k, ?_⟩
  unfold bnd at h
  cases q : f e with
  | ok r e' =>
    rw [q] at h
    exact fun v W' H' x k' hv => n v r W' e' H' x k' hv (pT.ext h x)
  | err c e' => rw [q] at h; exact h
  | stk => rw [q] at h; exact h
theorem tOf_bndA {α : Type} {W : List Addr} {e : Env} {f : Env → Rs R} {g : R → Env → Rs (List R)} {Q : List V → Hp → Prop} {P : VK} (k : Ok C W e σ H) (h : pA C w σ W H Q (bnd f g e))
    (n : ∀ v r W' e' H', Ext W H W' H' → Ok C W' e' σ H' → Vl C W' σ H' v r → pA C w σ W' H' Q (g r e') → P v H') : tOf C w f σ H P := by
  refine ⟨W, e, k, ?_⟩
  unfold bnd at h
  cases q : f e with
  | ok r e' =>
    rw [q] at h
    exact fun v W' H' x k' hv => n v r W' e' H' x k' hv (pA.ext h x)
  | err c e' => rw [q] at h; exact h
  | stk => rw [q] at h; exact h
theorem tOf_bndN {W : List Addr} {e : Env} {f : Env → Rs R} {g : R → Env → Rs Ob} {P : VK} (k : Ok C W e σ H) (h : pN C w σ W H Q (bnd f g e))
    (n : ∀ v r W' e' H', Ext W H W' H' → Ok C W' e' σ H' → Vl C W' σ H' v r → pN C w σ W' H' Q (g r e') → P v H') : tOf C w f σ H P := by
  refine ⟨W, e, k, ?_⟩
  unfold bnd at h
  cases q : f e with
  | ok r e' =>
    rw [q] at h
    exact fun v W' H' x k' hv => n v r W' e' H' x k' hv (pN.ext h x)
  | err c e' => rw [q] at h; exact h
  | stk => rw [q] at h; exact h
theorem ttOf_bnd {W : List Addr} {e : Env} {f : Env → Rs Bool} {g : Bool → Env → Rs R} {P : Bool → Hp → Prop} (k : Ok C W e σ H) (h : pO C w σ W H Q (bnd f g e))
    (n : ∀ b W' e' H', Ext W H W' H' → Ok C W' e' σ H' → pO C w σ W' H' Q (g b e') → P b H') : ttOf C w f σ H P := by
  refine ⟨W, e, k, ?_⟩
  unfold bnd at h
  cases q : f e with
  | ok r e' =>
    rw [q] at h
    exact fun W' H' x k' => n r W' e' H' x k' (pO.ext h x)
  | err c e' => rw [q] at h; exact h
  | stk => rw [q] at h; exact h
theorem ttOf_bndT {W : List Addr} {e : Env} {f : Env → Rs Bool} {g : Bool → Env → Rs Bool} {Q P : Bool → Hp → Prop} (k : Ok C W e σ H) (h : pT C w σ W H Q (bnd f g e))
    (n : ∀ b W' e' H', Ext W H W' H' → Ok C W' e' σ H' → pT C w σ W' H' Q (g b e') → P b H') : ttOf C w f σ H P := by
  refine ⟨W, e, k, ?_⟩
  unfold bnd at h
  cases q : f e with
  | ok r e' =>
    rw [q] at h
    exact fun W' H' x k' => n r W' e' H' x k' (pT.ext h x)
  | err c e' => rw [q] at h; exact h
  | stk => rw [q] at h; exact h
theorem taOf_bnd {W : List Addr} {e : Env} {f : Env → Rs (List R)} {g : List R → Env → Rs R} {P : List V → Hp → Prop} (k : Ok C W e σ H) (h : pO C w σ W H Q (bnd f g e))
    (n : ∀ v r W' e' H', Ext W H W' H' → Ok C W' e' σ H' → Vls C W' σ H' v r → pO C w σ W' H' Q (g r e') → P v H') : taOf C w f σ H P := by
  refine ⟨W, e, k, ?_⟩
  unfold bnd at h
  cases q : f e with
  | ok r e' =>
    rw [q] at h
    exact fun v W' H' x k' hv => n v r W' e' H' x k' hv (pO.ext h x)
  | err c e' => rw [q] at h; exact h
  | stk => rw [q] at h; exact h
theorem taOf_bndA {W : List Addr} {e : Env} {f : Env → Rs (List R)} {g : List R → Env → Rs (List R)} {Q P : List V → Hp → Prop} (k : Ok C W e σ H) (h : pA C w σ W H Q (bnd f g e))
    (n : ∀ v r W' e' H', Ext W H W' H' → Ok C W' e' σ H' → Vls C W' σ H' v r → pA C w σ W' H' Q (g r e') → P v H') : taOf C w f σ H P := by
  refine ⟨W, e, k, ?_⟩
  unfold bnd at h
  cases q : f e with
  | ok r e' =>
    rw [q] at h
    exact fun v W' H' x k' hv => n v r W' e' H' x k' hv (pA.ext h x)
  | err c e' => rw [q] at h; exact h
  | stk => rw [q] at h; exact h
theorem taOf_bndN {W : List Addr} {e : Env} {f : Env → Rs (List R)} {g : List R → Env → Rs Ob} {P : List V → Hp → Prop} (k : Ok C W e σ H) (h : pN C w σ W H Q (bnd f g e))
    (n : ∀ v r W' e' H', Ext W H W' H' → Ok C W' e' σ H' → Vls C W' σ H' v r → pN C w σ W' H' Q (g r e') → P v H') : taOf C w f σ H P := by
  refine ⟨W, e, k, ?_⟩
  unfold bnd at h
  cases q : f e with
  | ok r e' =>
    rw [q] at h
    exact fun v W' H' x k' hv => n v r W' e' H' x k' hv (pN.ext h x)
  | err c e' => rw [q] at h; exact h
  | stk => rw [q] at h; exact h
end
section
variable {X : Cx} {C : Cf} {w : WX} {a b c : Expr} {es : List Expr} {pos : Pos} {fa fb fc : Env → Rs R}

/-! ### constants and names -/
theorem ev_int {i j} : PE X (.Constant (.int i) j pos) (tOf C w (cst (.d (.int i)))) := PE.imp pe_int fun σ H Q ⟨W, e, k, h⟩ => h _ _ _ Ext.refl k (.int i)
theorem ev_bl {i j} : PE X (.Constant (.bool i) j pos) (tOf C w (cst (.d (.bool i)))) := PE.imp pe_bl fun σ H Q ⟨W, e, k, h⟩ => h _ _ _ Ext.refl k (.bl i)
theorem ev_non {j} : PE X (.Constant .none j pos) (tOf C w (cst (.d .none))) := PE.imp pe_non fun σ H Q ⟨W, e, k, h⟩ => h _ _ _ Ext.refl k .non
theorem ev_str {x : Str} {l : List Nat} {j} (hx : x = sOf l) : PE X (.Constant (.str x) j pos) (tOf C w (cst (txt l))) := PE.imp pe_str fun σ H Q ⟨W, e, k, h⟩ => by
  refine h _ _ _ Ext.refl k ?_
  rw [hx]; exact .str _
/-- a name of the def -/
def vr (i : Nat) : Env → Rs R := fun e => match e.sl[i]? with
  | some (some (.fro r)) => .ok r e
  | some (some (.own _)) => .ok (.loc i) e
  | _ => .stk
theorem ev_var {i : Nat} {x : Str} (hN : X.N[i]? = some x := by rfl) (hv : Vis X.env.scope x := by first | exact .inl rfl | exact .inr (.inl rfl) | exact .inr (.inr rfl)) (hd : (x == ("__debug__" : Str)) = false := by decide) (hcd : (x == ("__classdict__" : Str)) = false := by decide) :
    PE X (.Name x pos) (tOf C w (vr i)) := PE.imp (pe_var (i := i) hN hv hd hcd) fun σ H Q ⟨W, e, k, h⟩ => by
  unfold vr at h
  split at h
  · rename_i r hs
    obtain ⟨v, h1, h2, h3⟩ := k.slot i _ hs
    exact ⟨v, h1, h _ _ _ Ext.refl k (h3.any h2)⟩
  · rename_i o hs
    obtain ⟨v, h1, _⟩ := k.slot i _ hs
    exact ⟨v, h1, h v _ _ Ext.refl k h1⟩
  · exact h.elim
/-- a constant of the module: an int, a text -/
theorem ev_gInt {x : Str} {i : Int} (hg : Gl X x) (hm : ∃ t, X.mg x = some (.int i t)) (hd : (x == ("__debug__" : Str)) = false := by decide) : PE X (.Name x pos) (tOf C w (cst (.d (.int i)))) := by
  obtain ⟨t, hm⟩ := hm
  exact PE.imp (pe_glob (v := .int i) hg hm ⟨t, rfl⟩ hd) fun σ H Q ⟨W, e, k, h⟩ => h _ _ _ Ext.refl k (.int i)
theorem ev_gStr {x : Str} {l : List Nat} (hg : Gl X x) (hm : ∃ t, X.mg x = some (.str (sOf l) t)) (hd : (x == ("__debug__" : Str)) = false := by decide) : PE X (.Name x pos) (tOf C w (cst (txt l))) := by
  obtain ⟨t, hm⟩ := hm
  exact PE.imp (pe_glob (v := .str (sOf l)) hg hm ⟨t, rfl⟩ hd) fun σ H Q ⟨W, e, k, h⟩ => h _ _ _ Ext.refl k (.str _)
theorem ev_gDat {x : Str} {a : Addr} {d : Dt} (hg : Gl X x) (hm : X.mg x = some (.ref a)) (hf : ∀ G, Fz C.K G (.ref a) d) (hd : (x == ("__debug__" : Str)) = false := by decide) : PE X (.Name x pos) (tOf C w (cst (.d d))) :=
  PE.imp (pe_glob (v := .ref a) hg hm rfl hd) fun σ H Q ⟨W, e, k, h⟩ => h _ _ _ Ext.refl k (hf _)

/-! ### operations on two values -/
def b2 {α : Type} (fa fb : Env → Rs R) (g : R → R → Env → Rs α) : Env → Rs α := bnd fa fun x => bnd fb fun y => g x y
def OpG (C : Cf) (w : WX) (r : R2) (g : R → R → Env → Rs R) : Prop := ∀ σ W e H v1 v2 r1 r2 Q, Ok C W e σ H → Vl C W σ H v1 r1 → Vl C W σ H v2 r2 → pO C w σ W H Q (g r1 r2 e) → r v1 v2 H Q
theorem tOp_of {r : R2} {g : R → R → Env → Rs R} (hg : OpG C w r g) : ∀ σ H Q, tOf C w (b2 fa fb g) σ H Q → tOp r (tOf C w fa) (tOf C w fb) σ H Q := fun σ H Q ⟨W, e, k, h⟩ => by
  refine tOf_bnd k h fun v1 r1 W1 e1 H1 x1 k1 hv1 h1 => ?_
  refine tOf_bnd k1 h1 fun v2 r2 W2 e2 H2 x2 k2 hv2 h2 => ?_
  exact hg σ W2 e2 H2 v1 v2 r1 r2 Q k2 (hv1.ext x2) hv2 h2
theorem ev_op {op : Operator} {r : R2} {g : R → R → Env → Rs R} (ho : OpR X (binaryOp op) r) (hg : OpG C w r g) (ha : PE X a (tOf C w fa)) (hb : PE X b (tOf C w fb)) : PE X (.BinOp a op b pos) (tOf C w (b2 fa fb g)) :=
  PE.imp (pe_op ho ha hb) (tOp_of hg)
theorem ev_ix {r : R2} {g : R → R → Env → Rs R} (ho : IxR X r) (hg : OpG C w r g) (ha : PE X a (tOf C w fa)) (hb : PE X b (tOf C w fb)) (hs : PlainIx b := by exact fun _ _ => rfl) : PE X (.Subscript a b pos) (tOf C w (b2 fa fb g)) :=
  PE.imp (pe_ix ho ha hb hs) (tOp_of hg)
/-- a comparison: its answer by the two values, nothing is changed -/
def CmG (C : Cf) (r : R2) (g : R → R → Env → Option Bool) : Prop := ∀ σ W e H v1 v2 r1 r2 (Q : VK) b, Ok C W e σ H → Vl C W σ H v1 r1 → Vl C W σ H v2 r2 → g r1 r2 e = some b → Q (.bl b) H → r v1 v2 H Q
def cmV (g : R → R → Env → Option Bool) : R → R → Env → Rs R := fun x y e => match g x y e with
  | some b => .ok (.d (.bool b)) e
  | none => .stk
def cmT (g : R → R → Env → Option Bool) : R → R → Env → Rs Bool := fun x y e => match g x y e with
  | some b => .ok b e
  | none => .stk
theorem CmG.op {r : R2} {g : R → R → Env → Option Bool} (h : CmG C r g) : OpG C w r (cmV g) := fun σ W e H v1 v2 r1 r2 Q k h1 h2 hq => by
  unfold cmV at hq
  split at hq
  · rename_i b hb
    exact h σ W e H v1 v2 r1 r2 Q b k h1 h2 hb (hq _ _ _ Ext.refl k (.bl b))
  · exact hq.elim
theorem ev_cmp {op : CmpOp} {r : R2} {g : R → R → Env → Option Bool} (ho : OpR X (compareOp op) r) (hg : CmG C r g) (ha : PE X a (tOf C w fa)) (hb : PE X b (tOf C w fb)) (hm : behindInMarks op b = false := by first | exact nomark _ | with_unfolding_all rfl) :
    PE X (.Compare a [op] [b] pos) (tOf C w (b2 fa fb (cmV g))) := PE.imp (pe_cmpR ho ha hb hm) (tOp_of hg.op)
theorem et_cmp {op : CmpOp} {r : R2} {g : R → R → Env → Option Bool} (ho : OpR X (compareOp op) r) (hg : CmG C r g) (ha : PE X a (tOf C w fa)) (hb : PE X b (tOf C w fb)) (hm : behindInMarks op b = false := by first | exact nomark _ | with_unfolding_all rfl) :
    PT X (.Compare a [op] [b] pos) (ttOf C w (b2 fa fb (cmT g))) := PT.imp (pt_cmpR ho ha hb hm) fun σ H Q ⟨W, e, k, h⟩ => by
  refine tOf_bndT k h fun v1 r1 W1 e1 H1 x1 k1 hv1 h1 => ?_
  refine tOf_bndT k1 h1 fun v2 r2 W2 e2 H2 x2 k2 hv2 h2 => ?_
  unfold cmT at h2
  split at h2
  · rename_i b hb
    exact hg σ W2 e2 H2 v1 v2 r1 r2 _ b k2 (hv1.ext x2) hv2 hb ⟨b, rfl, h2 _ _ Ext.refl k2⟩
  · exact h2.elim
/-- a op1 b op2 c -/
def ch3 {α : Type} (fa fb fc : Env → Rs R) (g g' : R → R → Env → Option Bool) (o : Bool → Env → Rs α) : Env → Rs α := bnd fa fun x => bnd fb fun y e => match g x y e with
  | some true => bnd fc (fun z e' => match g' y z e' with
    | some b => o b e'
    | none => .stk) e
  | some false => o false e
  | none => .stk
def oV (b : Bool) : Env → Rs R := cst (.d (.bool b))
def oT (b : Bool) : Env → Rs Bool := cst b
theorem et_chain {op op' : CmpOp} {r r' : R2} {g g' : R → R → Env → Option Bool} (ho : OpR X (compareOp op) r) (ho' : OpR X (compareOp op') r') (hg : CmG C r g) (hg' : CmG C r' g') (ha : PE X a (tOf C w fa)) (hb : PE X b (tOf C w fb)) (hc : PE X c (tOf C w fc))
    (hm : lastMarks [op, op'] [b, c] = false := by with_unfolding_all rfl) : PT X (.Compare a [op, op'] [b, c] pos) (ttOf C w (ch3 fa fb fc g g' oT)) := PT.imp (pt_chain ho ho' ha hb hc hm) fun σ H Q ⟨W, e, k, h⟩ => by
  refine tOf_bndT k h fun v1 r1 W1 e1 H1 x1 k1 hv1 h1 => ?_
  refine tOf_bndT k1 h1 fun v2 r2 W2 e2 H2 x2 k2 hv2 h2 => ?_
  split at h2
  · rename_i hb
    refine hg σ W2 e2 H2 v1 v2 r1 r2 _ true k2 (hv1.ext x2) hv2 hb ⟨true, rfl, ?_⟩
    refine iteT (tOf_bndT k2 h2 fun v3 r3 W3 e3 H3 x3 k3 hv3 h3 => ?_)
    split at h3
    · rename_i b' hb'
      exact hg' σ W3 e3 H3 v2 v3 r2 r3 _ b' k3 (hv2.ext x3) hv3 hb' ⟨b', rfl, h3 _ _ Ext.refl k3⟩
    · exact h3.elim
  · rename_i hb
    exact hg σ W2 e2 H2 v1 v2 r1 r2 _ false k2 (hv1.ext x2) hv2 hb ⟨false, rfl, iteF ⟨false, rfl, h2 _ _ Ext.refl k2⟩⟩
  · exact h2.elim
end
end Ev

set_option Elab.async false
set_option linter.all false
set_option maxRecDepth 100000
namespace Ev
open PySem L2
theorem OpR.or {X : Cx} {f : Value → Value → Sem Value} {r r' : R2} (h : OpR X f r) (h' : OpR X f r') : OpR X f (fun x y H Q => r x y H Q ∨ r' x y H Q) := fun pins s σ H x y v u Q I rx ry q => by
  rcases q with q | q
  · exact h pins s σ H x y v u Q I rx ry q
  · exact h' pins s σ H x y v u Q I rx ry q
section
variable {C : Cf} {w : WX} {σ : L2.St} {W : List Addr} {H : Hp} {e : Env} {v : V} {r : R} {Q : VK}
/-- a new list, tuple of data is handed out -/
theorem new_lst {vs : List V} {ds : List Dt} {p : Addr} (k : Ok C W e σ H) (hp : H p = none) (h : FzAll C.K (msk W H) vs ds) (q : pO C w σ W H Q (.ok (.d (.list ds)) e)) : Q (.ref p) (upd H p (.lst vs)) := by
  obtain ⟨k1, x1, e1⟩ := k.new (.lst vs) hp
  exact q _ W _ x1 k1 (Fz.lst e1 (Fz.subAll x1 _ _ h))
theorem new_tup {vs : List V} {ds : List Dt} {p : Addr} (k : Ok C W e σ H) (hp : H p = none) (h : FzAll C.K (msk W H) vs ds) (q : pO C w σ W H Q (.ok (.d (.tuple ds)) e)) : Q (.ref p) (upd H p (.tup vs)) := by
  obtain ⟨k1, x1, e1⟩ := k.new (.tup vs) hp
  exact q _ W _ x1 k1 (Fz.tup (.of e1) (Fz.subAll x1 _ _ h))
theorem vl_int (h : Vl C W σ H v (.d (.int i))) : v = .int i := by have h : Fz C.K (msk W H) v (.int i) := h; cases h; rfl
theorem vl_bl (h : Vl C W σ H v (.d (.bool b))) : v = .bl b := by have h : Fz C.K (msk W H) v (.bool b) := h; cases h; rfl
theorem vl_str (h : Vl C W σ H v (.d (.str b))) : v = .str b := by have h : Fz C.K (msk W H) v (.str b) := h; cases h; rfl
theorem vl_non (h : Vl C W σ H v (.d .none)) : v = .non := by have h : Fz C.K (msk W H) v .none := h; cases h; rfl
end
/-- the empty tuple, and one's own -/
theorem tup_nil {K : PySem.W.Frag} {G : Hp} {vs : List V} (h : FzAll K G vs []) : vs = [] := by cases h; rfl
theorem nil_tup {K : PySem.W.Frag} {G : Hp} {ds : List Dt} (h : FzAll K G [] ds) : ds = [] := by cases h; rfl

/-! ### + -/
def addG : R → R → Env → Rs R := fun x y e => match x, y with
  | .d (.int i), .d (.int j) => .ok (.d (.int (i + j))) e
  | .d (.str s), .d (.str t) => if (tl s).length + (tl t).length ≤ sizeLine then .ok (txt (tl s ++ tl t)) e else .stk
  | .d (.tuple a), .d (.tuple b) => if a.length + b.length ≤ sizeLine then .ok (.d (.tuple (a ++ b))) e else .stk
  | x, y => match lof e x, lof e y with
    | some a, some b => if a.length + b.length ≤ sizeLine then .ok (.d (.list (a ++ b))) e else .stk
    | _, _ => .stk
def rAddA (K : PySem.W.Frag) : R2 := fun x y H Q => (∃ i j, x = .int i ∧ y = .int j ∧ Q (.int (i + j)) H) ∨ (∃ i j, x = .str i ∧ y = .str j ∧ i.length + j.length ≤ sizeLine ∧ Q (.str (i ++ j)) H) ∨ rCatA K x y H Q ∨ rCat x y H Q
theorem op_addA {X : Cx} : OpR X (binaryOp .Add) (rAddA X.K) := OpR.or op_add (OpR.or op_add_str (OpR.or op_catA op_cat))
theorem add_ok {C : Cf} {w : WX} {K : PySem.W.Frag} (hK : C.K = K) : OpG C w (rAddA K) addG := fun σ W e H v1 v2 r1 r2 Q k h1 h2 q => by
  subst hK
  unfold addG at q
  split at q
  · cases vl_int h1; cases vl_int h2
    exact .inl ⟨_, _, rfl, rfl, q _ _ _ Ext.refl k (.int _)⟩
  · rename_i s t
    cases vl_str h1; cases vl_str h2
    split at q
    · rename_i hz
      refine .inr (.inl ⟨_, _, rfl, rfl, by rw [← len_tl, ← len_tl]; exact hz, ?_⟩)
      have e1 : s ++ t = sOf (tl s ++ tl t) := by
        rw [← sOf_app, sOf_tl, sOf_tl]
      rw [e1]
      exact q _ _ _ Ext.refl k (.str _)
    · exact q.elim
  · rename_i a b
    split at q
    · rename_i hz
      obtain ⟨p1, vs1, rfl, s1, f1⟩ := tof_ok (ds := a) h1 rfl
      obtain ⟨p2, vs2, rfl, s2, f2⟩ := tof_ok (ds := b) h2 rfl
      refine .inr (.inr (.inl ⟨p1, p2, vs1, vs2, rfl, rfl, SqT.sub s1 (Sub.msk W H), SqT.sub s2 (Sub.msk W H), by rw [f1.length, f2.length]; exact hz, fun z => ?_, fun _ z => ?_, fun _ _ p hp => ?_⟩))
      · subst z
        cases nil_tup f1
        exact q _ _ _ Ext.refl k (.tup s2 f2)
      · subst z
        cases nil_tup f2
        rw [List.append_nil] at q
        exact q _ _ _ Ext.refl k (.tup s1 f1)
      · exact new_tup k hp (f1.append f2) q
    · exact q.elim
  · split at q
    · rename_i a b ha hb
      split at q
      · rename_i hz
        obtain ⟨p1, vs1, rfl, s1, f1⟩ := lof_ok k h1 ha
        obtain ⟨p2, vs2, rfl, s2, f2⟩ := lof_ok k h2 hb
        refine .inr (.inr (.inr ⟨p1, p2, vs1, vs2, rfl, rfl, s1, s2, by rw [f1.length, f2.length]; exact hz, fun p hp => ?_⟩))
        exact new_lst k hp (f1.append f2) q
      · exact q.elim
    · exact q.elim
/-! ### -, *, //, % -/
def subG : R → R → Env → Rs R := fun x y e => match x, y with
  | .d (.int i), .d (.int j) => .ok (.d (.int (i - j))) e
  | _, _ => .stk
theorem sub_ok {C : Cf} {w : WX} : OpG C w rSub subG := fun σ W e H v1 v2 r1 r2 Q k h1 h2 q => by
  unfold subG at q
  split at q
  · cases vl_int h1; cases vl_int h2
    exact ⟨_, _, rfl, rfl, q _ _ _ Ext.refl k (.int _)⟩
  · exact q.elim
def mulG : R → R → Env → Rs R := fun x y e => match x, y with
  | .d (.int i), .d (.int j) => if (-(2 ^ 64) < i ∧ i < 2 ^ 64) ∨ (-(2 ^ 64) < j ∧ j < 2 ^ 64) then .ok (.d (.int (i * j))) e else .stk
  | .d (.str s), .d (.int j) => if -(2 ^ 63) ≤ j ∧ j < 2 ^ 63 ∧ (tl s).length * j.toNat ≤ sizeLine then .ok (txt (List.replicate j.toNat (tl s)).flatten) e else .stk
  | x, .d (.int j) => match lof e x with
    | some a => if -(2 ^ 63) ≤ j ∧ j < 2 ^ 63 ∧ a.length * j.toNat ≤ sizeLine then .ok (.d (.list (List.replicate j.toNat a).flatten)) e else .stk
    | none => .stk
  | _, _ => .stk
def fdivG : R → R → Env → Rs R := fun x y e => match x, y with
  | .d (.int i), .d (.int j) => if j ≠ 0 ∧ j.natAbs < 1073741824 then .ok (.d (.int (i.fdiv j))) e else .stk
  | _, _ => .stk
def modG : R → R → Env → Rs R := fun x y e => match x, y with
  | .d (.int i), .d (.int j) => if j ≠ 0 then .ok (.d (.int (i.fmod j))) e else .stk
  | _, _ => .stk
/-! ### comparisons -/
def eqG : R → R → Env → Option Bool := fun x y e => match dof e x, dof e y with
  | some a, some b => if SeqAt.shaped a = true ∧ SeqAt.shaped b = true then some (PyData.eqv a b) else none
  | _, _ => none
def neG : R → R → Env → Option Bool := fun x y e => match dof e x, dof e y with
  | some a, some b => if SeqAt.shaped a = true ∧ SeqAt.shaped b = true then some (!PyData.eqv a b) else none
  | _, _ => none
theorem eq_ok {C : Cf} {K : PySem.W.Frag} (hK : C.K = K) : CmG C (rEqD K) eqG := fun σ W e H v1 v2 r1 r2 Q b k h1 h2 q hq => by
  subst hK
  unfold eqG at q
  split at q
  · rename_i a b ha hb
    split at q
    · rename_i hs
      cases q
      exact ⟨a, b, dof_ok k h1 ha, dof_ok k h2 hb, hs.1, hs.2, hq⟩
    · cases q
  · cases q
theorem ne_ok {C : Cf} {K : PySem.W.Frag} (hK : C.K = K) : CmG C (rNeD K) neG := fun σ W e H v1 v2 r1 r2 Q b k h1 h2 q hq => by
  subst hK
  unfold neG at q
  split at q
  · rename_i a b ha hb
    split at q
    · rename_i hs
      cases q
      exact ⟨a, b, dof_ok k h1 ha, dof_ok k h2 hb, hs.1, hs.2, hq⟩
    · cases q
  · cases q
theorem op_eqA {X : Cx} {C : Cf} {w : WX} (c : Ct X C w) : OpR X (compareOp .Eq) (rEqD X.K) := op_eqD c.un
theorem op_neA {X : Cx} {C : Cf} {w : WX} (c : Ct X C w) : OpR X (compareOp .NotEq) (rNeD X.K) := op_neD c.un
/-- ints and texts in order -/
def ltOf (p : Int → Int → Bool) (q : List Nat → List Nat → Bool) : R → R → Env → Option Bool := fun x y _ => match x, y with
  | .d (.int i), .d (.int j) => some (p i j)
  | .d (.str s), .d (.str t) => some (q (tl s) (tl t))
  | _, _ => none
def rOrd (p : Int → Int → Bool) (q : List Nat → List Nat → Bool) : R2 := fun x y H Q => (∃ i j, x = .int i ∧ y = .int j ∧ Q (.bl (p i j)) H) ∨ (∃ i j, x = .str i ∧ y = .str j ∧ Q (.bl (q (tl i) (tl j))) H)
theorem ord_ok {C : Cf} {p : Int → Int → Bool} {q : List Nat → List Nat → Bool} : CmG C (rOrd p q) (ltOf p q) := fun σ W e H v1 v2 r1 r2 Q b k h1 h2 g hq => by
  unfold ltOf at g
  split at g
  · cases g; cases vl_int h1; cases vl_int h2
    exact .inl ⟨_, _, rfl, rfl, hq⟩
  · cases g; cases vl_str h1; cases vl_str h2
    exact .inr ⟨_, _, rfl, rfl, hq⟩
  · cases g
end Ev

set_option Elab.async false
set_option linter.all false
set_option maxRecDepth 100000
namespace Ev
open PySem L2
section
variable {X : Cx} {C : Cf} {w : WX}
theorem op_subA : OpR X (binaryOp .Sub) rSub := op_sub
def rMulS : R2 := fun x y H Q => ∃ (s : Str) (j : Int), x = .str s ∧ y = .int j ∧ -(2 ^ 63) ≤ j ∧ j < 2 ^ 63 ∧ s.length * j.toNat ≤ sizeLine ∧ Q (.str (Txt.mul s j)) H
theorem mulOk_of {x : Str} {n : Int} (h1 : -(2 ^ 63) ≤ n) (h2 : n < 2 ^ 63) (h3 : x.length * n.toNat ≤ sizeLine) : MulOk x n := by
  refine ⟨?_, fun hn _ => ?_, fun hn _ => ?_⟩
  · rw [decide_eq_false (by omega), decide_eq_false (by omega)]; rfl
  · have hp : 0 < n := by omega
    have hz : sizeLine ≤ 16777216 := by rw [PySem.sizeLine_eq]; omega
    have : (x.length : Int) ≤ (2 ^ 63 - 1) / n := by
      rw [Int.le_ediv_iff_mul_le hp]
      have e : ((x.length * n.toNat : Nat) : Int) = (x.length : Int) * n := by rw [Int.natCast_mul, Int.toNat_of_nonneg (by omega)]
      rw [← e]
      have : ((x.length * n.toNat : Nat) : Int) ≤ 16777216 := by omega
      omega
    omega
  · exact decide_eq_false (by omega)
theorem op_mulS : OpR X (binaryOp .Mult) rMulS := by
  intro pins s σ H x y v u Q I rx ry h
  obtain ⟨i, j, rfl, rfl, h1, h2, h3, q⟩ := h
  obtain ⟨t, rfl⟩ := rx
  obtain ⟨t', rfl⟩ := ry
  exact PySem.SB.mul (mulOk_of h1 h2 h3) fun t' tk => ⟨.str (Txt.mul i j), H, I.tok _, ⟨_, rfl⟩, q⟩
theorem fold_arr (a : Array Nat) : ∀ (k : Nat) (b : Array Nat), ((List.replicate k a).foldl (· ++ ·) b).toList = b.toList ++ (List.replicate k a.toList).flatten
  | 0, b => by simp
  | k + 1, b => by
    rw [List.replicate_succ, List.foldl_cons, fold_arr a k, List.replicate_succ, List.flatten_cons, Array.toList_append, List.append_assoc]
theorem tl_mul (s : Str) (j : Int) : tl (Txt.mul s j) = (List.replicate j.toNat (tl s)).flatten := by
  unfold Txt.mul
  split
  · rename_i h
    have : j.toNat = 0 := by omega
    rw [this]; rfl
  · rename_i h
    split
    · rename_i g
      simp only [Bool.or_eq_true, beq_iff_eq] at g
      rcases g with g | g
      · subst g
        simp
      · have e : tl s = [] := List.eq_nil_of_length_eq_zero (by rw [len_tl]; exact g)
        rw [e]
        simp
    · have := fold_arr s.cps j.toNat #[]
      simpa [tl] using this
def rMulA (K : PySem.W.Frag) : R2 := fun x y H Q => rI CMul (fun i j => .int (i * j)) x y H Q ∨ rMulS x y H Q ∨ rRep x y H Q
theorem op_mulA : OpR X (binaryOp .Mult) (rMulA X.K) := OpR.or op_mul (OpR.or op_mulS op_rep)
theorem FzAll.rep {K : PySem.W.Frag} {G : Hp} {vs : List V} {ds : List Dt} (h : FzAll K G vs ds) : ∀ n : Nat, FzAll K G (List.replicate n vs).flatten (List.replicate n ds).flatten
  | 0 => .nil
  | n + 1 => by
    rw [List.replicate_succ, List.replicate_succ, List.flatten_cons, List.flatten_cons]
    exact h.append (FzAll.rep h n)
theorem mul_ok {K : PySem.W.Frag} (hK : C.K = K) : OpG C w (rMulA K) mulG := fun σ W e H v1 v2 r1 r2 Q k h1 h2 q => by
  subst hK
  unfold mulG at q
  split at q
  · cases vl_int h1; cases vl_int h2
    split at q
    · rename_i hc
      exact .inl ⟨_, _, rfl, rfl, hc, q _ _ _ Ext.refl k (.int _)⟩
    · exact q.elim
  · rename_i s j
    cases vl_str h1; cases vl_int h2
    split at q
    · rename_i hc
      refine .inr (.inl ⟨s, j, rfl, rfl, hc.1, hc.2.1, by rw [← len_tl]; exact hc.2.2, ?_⟩)
      have e1 : Txt.mul s j = sOf (List.replicate j.toNat (tl s)).flatten := by rw [← tl_mul, sOf_tl]
      rw [e1]
      exact q _ _ _ Ext.refl k (.str _)
    · exact q.elim
  · rename_i x j hx1 hx2
    cases vl_int h2
    split at q
    · rename_i a ha
      split at q
      · rename_i hc
        obtain ⟨p1, vs1, rfl, s1, f1⟩ := lof_ok k h1 ha
        exact .inr (.inr ⟨p1, j, vs1, rfl, rfl, s1, hc.1, hc.2.1, by rw [f1.length]; exact hc.2.2, fun p hp => new_lst k hp (f1.rep _) q⟩)
      · exact q.elim
    · exact q.elim
  · exact q.elim
theorem fdiv_ok : OpG C w (rI CDivN fun i j => .int (i.fdiv j)) fdivG := fun σ W e H v1 v2 r1 r2 Q k h1 h2 q => by
  unfold fdivG at q
  split at q
  · cases vl_int h1; cases vl_int h2
    split at q
    · rename_i hc
      exact ⟨_, _, rfl, rfl, hc, q _ _ _ Ext.refl k (.int _)⟩
    · exact q.elim
  · exact q.elim
theorem mod_ok : OpG C w (rI (fun _ j => j ≠ 0) fun i j => .int (i.fmod j)) modG := fun σ W e H v1 v2 r1 r2 Q k h1 h2 q => by
  unfold modG at q
  split at q
  · cases vl_int h1; cases vl_int h2
    split at q
    · rename_i hc
      exact ⟨_, _, rfl, rfl, hc, q _ _ _ Ext.refl k (.int _)⟩
    · exact q.elim
  · exact q.elim
/-- - -/
def negG : R → Env → Rs R := fun x e => match x with
  | .d (.int i) => .ok (.d (.int (-i))) e
  | _ => .stk
/-- < and its kin -/
abbrev ltI (i j : Int) : Bool := decide (i < j)
abbrev leI (i j : Int) : Bool := decide (i ≤ j)
abbrev gtI (i j : Int) : Bool := decide (j < i)
abbrev geI (i j : Int) : Bool := decide (j ≤ i)
abbrev ltL (a b : List Nat) : Bool := decide (a < b)
abbrev leL (a b : List Nat) : Bool := !decide (b < a)
abbrev gtL (a b : List Nat) : Bool := decide (b < a)
abbrev geL (a b : List Nat) : Bool := !decide (a < b)
theorem op_ltA : OpR X (compareOp .Lt) (rOrd ltI ltL) := OpR.or op_lt op_lt_str
theorem op_leA : OpR X (compareOp .LtE) (rOrd leI leL) := OpR.or op_le op_le_str
theorem op_gtA : OpR X (compareOp .Gt) (rOrd gtI gtL) := OpR.or op_gt op_gt_str
theorem op_geA : OpR X (compareOp .GtE) (rOrd geI geL) := OpR.or op_ge op_ge_str
/-- in -/
def hasS (x y : Str) : Bool := !(Builtin.Str.occurrences y x 0 y.length 1).isEmpty
def flatD : Dt → Bool
  | .none => true
  | .bool _ => true
  | .int _ => true
  | .str _ => true
  | _ => false
def hasD (x : Dt) (ds : List Dt) : Bool := ds.any fun z => PyData.eqv z x
theorem flat_of {K : PySem.W.Frag} {G : Hp} {v : V} {d : Dt} (h : Fz K G v d) (f : flatD d = true) : flatV v = true := by
  cases h <;> first | rfl | cases f
theorem flats_of {K : PySem.W.Frag} {G : Hp} : ∀ {vs : List V} {ds : List Dt}, FzAll K G vs ds → ds.all flatD = true → vs.all flatV = true
  | _, _, .nil, _ => rfl
  | _, _, .cons h t, f => by
    rw [List.all_cons, Bool.and_eq_true] at f
    rw [List.all_cons, flat_of h f.1, flats_of t f.2]; rfl
theorem eqv_of {K : PySem.W.Frag} {G : Hp} {v u : V} {d c : Dt} (h : Fz K G v d) (g : Fz K G u c) (f : flatD d = true) (f' : flatD c = true) : eqV v u = PyData.eqv d c := by
  cases h <;> cases g <;> first | rfl | (simp [eqV, PyData.eqv]; done) | (simp [flatD] at f; done) | (simp [flatD] at f'; done)
theorem in_of {K : PySem.W.Frag} {G : Hp} {u : V} {c : Dt} (g : Fz K G u c) (f' : flatD c = true) : ∀ {vs : List V} {ds : List Dt}, FzAll K G vs ds → ds.all flatD = true → inV u vs = hasD c ds
  | _, _, .nil, _ => rfl
  | _, _, .cons h t, f => by
    rw [List.all_cons, Bool.and_eq_true] at f
    have ih := in_of g f' t f.2
    unfold inV hasD at ih ⊢
    rw [List.any_cons, List.any_cons, ih, eqv_of h g f.1 f']
def inG (neg : Bool) : R → R → Env → Option Bool := fun x y e => match x, y with
  | .d (.str a), .d (.str b) => some (if neg then !hasS a b else hasS a b)
  | .d c, y => match lof e y with
    | some ds => if flatD c = true ∧ ds.all flatD = true then some (if neg then !hasD c ds else hasD c ds) else if SeqAt.shaped c = true ∧ SeqAt.shaped (.list ds) = true then some (if neg then !hasD c ds else hasD c ds) else none
    | none => match tof y with
      | some ds => if flatD c = true ∧ ds.all flatD = true then some (if neg then !hasD c ds else hasD c ds) else none
      | none => none
  | _, _ => none
def rInB (K : PySem.W.Frag) (neg : Bool) : R2 := fun x y H Q => ∃ d ds, Dp K H x d ∧ Dp K H y (.list ds) ∧ SeqAt.shaped d = true ∧ SeqAt.shaped (.list ds) = true ∧ Q (.bl (if neg then !ds.any fun z => PyData.eqv z d else ds.any fun z => PyData.eqv z d)) H
def rInA (K : PySem.W.Frag) (neg : Bool) : R2 := fun x y H Q => (∃ i j, x = .str i ∧ y = .str j ∧ Q (.bl (if neg then !hasS i j else hasS i j)) H) ∨ rIn K neg x y H Q ∨ rInB K neg x y H Q
theorem op_inA (c : Ct X C w) : OpR X (compareOp .In) (rInA X.K false) := OpR.or op_in_str (OpR.or op_in_seq (op_inD c.un65))
theorem op_notInA (c : Ct X C w) : OpR X (compareOp .NotIn) (rInA X.K true) := OpR.or op_notIn_str (OpR.or op_notIn_seq (op_notInD c.un65))
theorem in_ok {K : PySem.W.Frag} {neg : Bool} (hK : C.K = K) : CmG C (rInA K neg) (inG neg) := fun σ W e H v1 v2 r1 r2 Q b k h1 h2 q hq => by
  subst hK
  unfold inG at q
  split at q
  · cases q; cases vl_str h1; cases vl_str h2
    exact .inl ⟨_, _, rfl, rfl, hq⟩
  · rename_i c _
    split at q
    · rename_i ds hl
      obtain ⟨p, vs, rfl, s1, f1⟩ := lof_ok k h2 hl
      split at q
      · rename_i hf
        cases q
        refine .inr (.inl ⟨p, vs, rfl, .inl (.of s1), flat_of h1 hf.1, flats_of f1 hf.2, ?_⟩)
        rw [in_of h1 hf.1 f1 hf.2]; exact hq
      · split at q
        · rename_i hf
          cases q
          exact .inr (.inr ⟨c, ds, dof_ok (r := .d c) k h1 rfl, .lst (.of s1) (Fz.dpAll _ _ (Fz.subAll (Sub.msk W H) _ _ f1)), hf.1, hf.2, hq⟩)
        · cases q
    · split at q
      · rename_i ds hl
        obtain ⟨p, vs, rfl, s1, f1⟩ := tof_ok h2 hl
        split at q
        · rename_i hf
          cases q
          refine .inr (.inl ⟨p, vs, rfl, .inr (SqT.sub s1 (Sub.msk W H)), flat_of h1 hf.1, flats_of f1 hf.2, ?_⟩)
          rw [in_of h1 hf.1 f1 hf.2]; exact hq
        · cases q
      · cases q
  · cases q
/-- is None -/
def isG (neg : Bool) : R → R → Env → Option Bool := fun x y _ => match x, y with
  | .d .none, .d .none => some (!neg)
  | .d _, .d .none => some neg
  | _, _ => none
def rIsN (neg : Bool) : R2 := fun x y H Q => y = .non ∧ Q (.bl (if neg then !decide (x = .non) else decide (x = .non))) H
theorem op_isA : OpR X (compareOp .Is) (rIsN false) := op_isN
theorem op_isNotA : OpR X (compareOp .IsNot) (rIsN true) := op_notN
theorem is_ok {neg : Bool} : CmG C (rIsN neg) (isG neg) := fun σ W e H v1 v2 r1 r2 Q b k h1 h2 q hq => by
  unfold isG at q
  split at q
  · cases q; cases vl_non h1; cases vl_non h2
    refine ⟨rfl, ?_⟩
    cases neg <;> simpa using hq
  · rename_i x hx
    cases q; cases vl_non h2
    refine ⟨rfl, ?_⟩
    have hn : v1 ≠ .non := by
      intro z
      subst z
      have h1 : Fz C.K (msk W H) .non x := h1
      cases h1
      exact hx rfl
    cases neg <;> simpa [hn] using hq
  · cases q
end

/-! ### truth -/
def truG : R → Env → Option Bool := fun x e => match x with
  | .d .none => some false
  | .d (.bool b) => some b
  | .d (.int i) => some (i != 0)
  | .d (.str s) => if (tl s).length ≤ sizeLine then some (!(tl s).isEmpty) else none
  | x => match lof e x with
    | some ds => some (!ds.isEmpty)
    | none => match tof x with
      | some ds => some (!ds.isEmpty)
      | none => none
theorem FzAll.isEmpty {K : PySem.W.Frag} {G : Hp} {vs : List V} {ds : List Dt} (h : FzAll K G vs ds) : vs.isEmpty = ds.isEmpty := by cases h <;> rfl
section
variable {C : Cf} {w : WX} {σ : L2.St} {W : List Addr} {H : Hp} {e : Env} {v : V} {r : R}
theorem tru_of {b : Bool} (k : Ok C W e σ H) (h : Vl C W σ H v r) (q : truG r e = some b) : TruV C.K v H b := by
  unfold truG at q
  split at q
  · cases q; cases vl_non h; rfl
  · cases q; cases vl_bl h; rfl
  · cases q; cases vl_int h; rfl
  · rename_i s
    cases vl_str h
    split at q
    · rename_i hz
      cases q
      refine ⟨by rw [← len_tl]; exact hz, ?_⟩
      rw [← len_tl]
      cases tl s <;> rfl
    · cases q
  · split at q
    · rename_i ds hl
      cases q
      obtain ⟨p, vs, rfl, s1, f1⟩ := lof_ok k h hl
      exact .inl ⟨vs, .of s1, by rw [f1.isEmpty]⟩
    · split at q
      · rename_i ds hl
        cases q
        obtain ⟨p, vs, rfl, s1, f1⟩ := tof_ok h hl
        exact .inr (.inl ⟨vs, SqT.sub s1 (Sub.msk W H), by rw [f1.isEmpty]⟩)
      · cases q
end
def truT (x : R) : Env → Rs Bool := fun e => match truG x e with
  | some b => .ok b e
  | none => .stk
def andT (f g : Env → Rs Bool) : Env → Rs Bool := bnd f fun b => if b = true then g else cst false
def orT (f g : Env → Rs Bool) : Env → Rs Bool := bnd f fun b => if b = true then cst true else g
def notT (f : Env → Rs Bool) : Env → Rs Bool := bnd f fun b => cst (!b)
def orV (f g : Env → Rs R) : Env → Rs R := bnd f fun x e => match truG x e with
  | some true => .ok x e
  | some false => g e
  | none => .stk
def andV (f g : Env → Rs R) : Env → Rs R := bnd f fun x e => match truG x e with
  | some true => g e
  | some false => .ok x e
  | none => .stk
def notV (f : Env → Rs R) : Env → Rs R := bnd f fun x e => match truG x e with
  | some b => .ok (.d (.bool (!b))) e
  | none => .stk
def ifV {α : Type} (c : Env → Rs Bool) (f g : Env → Rs α) : Env → Rs α := bnd c fun b => if b = true then f else g
section
variable {X : Cx} {C : Cf} {w : WX} {a b c : Expr} {es : List Expr} {pos : Pos} {fa fb fc : Env → Rs R} {ta tb tc : Env → Rs Bool} {rest : List Expr}
theorem et_tru (ct : Ct X C w) (ha : PE X a (tOf C w fa)) (he : ∀ whole, isTrue a X.env whole = (do let v ← whole; standAt a.pos; holding [v] (truthy v)) := by intro _; rfl) : PT X a (ttOf C w (bnd fa truT)) :=
  PT.imp (pt_truth ha he) fun σ H Q ⟨W, e, k, h⟩ => by
    refine tOf_bndT k h fun v r W1 e1 H1 x1 k1 hv h1 => ?_
    unfold truT at h1
    split at h1
    · rename_i b hb
      exact ⟨b, by rw [← ct.K]; exact tru_of k1 hv hb, h1 _ _ Ext.refl k1⟩
    · exact h1.elim
theorem et_and1 (ha : PT X a (ttOf C w ta)) : PW X (.BoolOp .And [a] pos) (ttOf C w ta) := pw_and1 ha
theorem et_or1 (ha : PT X a (ttOf C w ta)) : PW X (.BoolOp .Or [a] pos) (ttOf C w ta) := pw_or1 ha
theorem PW.imp {X : Cx} {e : Expr} {t t' : TT} (h : PW X e t) (i : ∀ σ H Q, t' σ H Q → t σ H Q) : PW X e t' := ⟨fun wh pins s σ H Q I q => h.run wh pins s σ H Q I (i σ H Q q)⟩
theorem et_and (ha : PT X a (ttOf C w ta)) (hb : PW X (.BoolOp .And (b :: rest) pos) (ttOf C w tb)) : PW X (.BoolOp .And (a :: b :: rest) pos) (ttOf C w (andT ta tb)) :=
  PW.imp (pw_and ha hb) fun σ H Q ⟨W, e, k, h⟩ => by
    refine ttOf_bndT k h fun b W1 e1 H1 x1 k1 h1 => ?_
    cases b
    · exact iteF (h1 _ _ Ext.refl k1)
    · exact iteT ⟨_, _, k1, h1⟩
theorem et_or (ha : PT X a (ttOf C w ta)) (hb : PW X (.BoolOp .Or (b :: rest) pos) (ttOf C w tb)) : PW X (.BoolOp .Or (a :: b :: rest) pos) (ttOf C w (orT ta tb)) :=
  PW.imp (pw_or ha hb) fun σ H Q ⟨W, e, k, h⟩ => by
    refine ttOf_bndT k h fun b W1 e1 H1 x1 k1 h1 => ?_
    cases b
    · exact iteF ⟨_, _, k1, h1⟩
    · exact iteT (h1 _ _ Ext.refl k1)
theorem et_not (ha : PT X a (ttOf C w ta)) : PT X (.UnaryOp .Not a pos) (ttOf C w (notT ta)) :=
  PT.imp (pt_not ha) fun σ H Q ⟨W, e, k, h⟩ => by
    refine ttOf_bndT k h fun b W1 e1 H1 x1 k1 h1 => ?_
    exact h1 _ _ Ext.refl k1
theorem ev_and (ct : Ct X C w) (ha : PE X a (tOf C w fa)) (hb : PE X (.BoolOp .And (b :: rest) pos) (tOf C w fb)) : PE X (.BoolOp .And (a :: b :: rest) pos) (tOf C w (andV fa fb)) :=
  PE.imp (pe_andT ha hb) fun σ H Q ⟨W, e, k, h⟩ => by
    refine tOf_bnd k h fun v r W1 e1 H1 x1 k1 hv h1 => ?_
    have tv : ∀ b, truG r e1 = some b → TruV X.K v H1 b := fun b hb => by rw [← ct.K]; exact tru_of k1 hv hb
    split at h1
    · rename_i hb; exact ⟨true, tv _ hb, iteT ⟨_, _, k1, h1⟩⟩
    · rename_i hb; exact ⟨false, tv _ hb, iteF (h1 _ _ _ Ext.refl k1 hv)⟩
    · exact h1.elim
theorem ev_or (ct : Ct X C w) (ha : PE X a (tOf C w fa)) (hb : PE X (.BoolOp .Or (b :: rest) pos) (tOf C w fb)) : PE X (.BoolOp .Or (a :: b :: rest) pos) (tOf C w (orV fa fb)) :=
  PE.imp (pe_orT ha hb) fun σ H Q ⟨W, e, k, h⟩ => by
    refine tOf_bnd k h fun v r W1 e1 H1 x1 k1 hv h1 => ?_
    have tv : ∀ b, truG r e1 = some b → TruV X.K v H1 b := fun b hb => by rw [← ct.K]; exact tru_of k1 hv hb
    split at h1
    · rename_i hb; exact ⟨true, tv _ hb, iteT (h1 _ _ _ Ext.refl k1 hv)⟩
    · rename_i hb; exact ⟨false, tv _ hb, iteF ⟨_, _, k1, h1⟩⟩
    · exact h1.elim
theorem ev_one {op} (ha : PE X a (tOf C w fa)) : PE X (.BoolOp op [a] pos) (tOf C w fa) := pe_one ha
theorem ev_not (ct : Ct X C w) (ha : PE X a (tOf C w fa)) : PE X (.UnaryOp .Not a pos) (tOf C w (notV fa)) :=
  PE.imp (pe_notT ha) fun σ H Q ⟨W, e, k, h⟩ => by
    refine tOf_bnd k h fun v r W1 e1 H1 x1 k1 hv h1 => ?_
    split at h1
    · rename_i b hb
      exact ⟨b, by rw [← ct.K]; exact tru_of k1 hv hb, h1 _ _ _ Ext.refl k1 (.bl _)⟩
    · exact h1.elim
theorem ev_if (hc : PT X c (ttOf C w tc)) (ha : PE X a (tOf C w fa)) (hb : PE X b (tOf C w fb)) : PE X (.IfExp c a b pos) (tOf C w (ifV tc fa fb)) :=
  PE.imp (pe_ifExp hc ha hb) fun σ H Q ⟨W, e, k, h⟩ => by
    refine ttOf_bnd k h fun b W1 e1 H1 x1 k1 h1 => ?_
    cases b
    · exact iteF ⟨_, _, k1, h1⟩
    · exact iteT ⟨_, _, k1, h1⟩
/-- - i -/
theorem ev_neg (ha : PE X a (tOf C w fa)) : PE X (.UnaryOp .USub a pos) (tOf C w (bnd fa negG)) :=
  PE.imp (pe_un un_neg ha) fun σ H Q ⟨W, e, k, h⟩ => by
    refine tOf_bnd k h fun v r W1 e1 H1 x1 k1 hv h1 => ?_
    unfold negG at h1
    split at h1
    · cases vl_int hv
      exact ⟨_, rfl, h1 _ _ _ Ext.refl k1 (.int _)⟩
    · exact h1.elim
end
end Ev

set_option Elab.async false
set_option linter.all false
set_option maxRecDepth 100000
namespace Ev
open PySem L2
/-! ### argument lists -/
def nilA : Env → Rs (List R) := cst []
def conA (f : Env → Rs R) (g : Env → Rs (List R)) : Env → Rs (List R) := bnd f fun r => bnd g fun rs => cst (r :: rs)
section
variable {X : Cx} {C : Cf} {w : WX} {a b c : Expr} {es : List Expr} {pos : Pos} {fa fb fc : Env → Rs R} {fs : Env → Rs (List R)}
theorem ea_nil : PA X [] (taOf C w nilA) := PA.imp pa_nil fun σ H Q ⟨W, e, k, h⟩ => h _ _ _ Ext.refl k .nil
theorem ea_cons (ha : PE X a (tOf C w fa)) (hr : PA X es (taOf C w fs)) (hs : starEach (a :: es) X.env = (false, eval a X.env) :: starEach es X.env := by rfl) : PA X (a :: es) (taOf C w (conA fa fs)) :=
  PA.imp (pa_cons ha hr hs) fun σ H Q ⟨W, e, k, h⟩ => by
    refine tOf_bndA (α := Unit) k h fun v r W1 e1 H1 x1 k1 hv h1 => ?_
    refine taOf_bndA k1 h1 fun vs rs W2 e2 H2 x2 k2 hvs h2 => ?_
    exact h2 _ _ _ Ext.refl k2 (.cons (hv.ext x2) hvs)
end
/-! ### displays -/
def dOf : R → Option Dt
  | .d x => some x
  | _ => none
def allD : List R → Option (List Dt)
  | [] => some []
  | r :: rs => match dOf r, allD rs with
    | some x, some xs => some (x :: xs)
    | _, _ => none
theorem allD_ok {C : Cf} {W : List Addr} {σ : L2.St} {H : Hp} : ∀ {vs : List V} {rs : List R} {ds : List Dt}, Vls C W σ H vs rs → allD rs = some ds → FzAll C.K (msk W H) vs ds
  | _, _, _, .nil, q => by cases q; exact .nil
  | _, _, _, .cons (r := r) h t, q => by
    unfold allD at q
    split at q
    · rename_i x xs h1 h2
      cases q
      cases r <;> simp [dOf] at h1
      subst h1
      exact .cons h (allD_ok t h2)
    · cases q
def tupG : List R → Env → Rs R := fun rs e => match allD rs with
  | some ds => if ds.length ≤ sizeLine then .ok (.d (.tuple ds)) e else .stk
  | none => .stk
def lstG : List R → Env → Rs R := fun rs e => match allD rs with
  | some ds => if ds.length ≤ sizeLine then .ok (.d (.list ds)) e else .stk
  | none => .stk
def lstN : List R → Env → Rs Ob := fun rs e => match allD rs with
  | some ds => if ds.length ≤ sizeLine then .ok (.lst ds) e else .stk
  | none => .stk
section
variable {C : Cf} {w : WX} {σ : L2.St} {W : List Addr} {H : Hp} {e : Env} {v : V} {r : R} {Q : VK}
/-- a new root -/
theorem new_root {o : HO} {ob : Ob} {p : Addr} (k : Ok C W e σ H) (hp : H p = none) (ht : Rk o) (ho : ∀ W' H', Ext W H W' H' → H' p = some o → ObOk C.K W' H' p ob) (q : pN C w σ W H Q (.ok ob e)) : Q (.ref p) (upd H p o) := by
  obtain ⟨k1, x1⟩ := k.newRoot o ht hp
  have pW := k.notnone hp
  refine q p _ _ x1 k1 ⟨List.mem_cons_self, fun z => pW (k.sub p z), fun i oi h1 h2 => ?_⟩ (ho _ _ x1 upd_same)
  obtain ⟨v, e1, a, e2, e3, _⟩ := k.slot i _ h1
  rw [h2] at e1; cases e1; cases e2
  exact pW e3
theorem new_lstN {vs : List V} {ds : List Dt} {p : Addr} (k : Ok C W e σ H) (hp : H p = none) (h : FzAll C.K (msk W H) vs ds) (q : pN C w σ W H Q (.ok (.lst ds) e)) : Q (.ref p) (upd H p (.lst vs)) :=
  new_root (ob := .lst ds) k hp rk_lst (fun W' H' x hh => ⟨vs, hh, Fz.subAll x _ _ h⟩) q
end
section
variable {X : Cx} {C : Cf} {w : WX} {a b c : Expr} {es : List Expr} {pos : Pos} {fa fb fc : Env → Rs R} {fs : Env → Rs (List R)}
theorem ev_tup {x1} (h : PA X es (taOf C w fs)) : PE X (.Tuple es x1 pos) (tOf C w (bnd fs tupG)) := PE.imp (pe_tup h) fun σ H Q ⟨W, e, k, h⟩ => by
  refine taOf_bnd k h fun vs rs W1 e1 H1 x1 k1 hv h1 => ?_
  unfold tupG at h1
  split at h1
  · rename_i ds hd
    have f := allD_ok hv hd
    split at h1
    · rename_i hz
      exact ⟨by rw [f.length]; exact hz, fun p hp => new_tup k1 hp f h1⟩
    · exact h1.elim
  · exact h1.elim
theorem ev_lst (h : PA X es (taOf C w fs)) : PE X (.List es pos) (tOf C w (bnd fs lstG)) := PE.imp (pe_lst h) fun σ H Q ⟨W, e, k, h⟩ => by
  refine taOf_bnd k h fun vs rs W1 e1 H1 x1 k1 hv h1 => ?_
  unfold lstG at h1
  split at h1
  · rename_i ds hd
    have f := allD_ok hv hd
    split at h1
    · rename_i hz
      exact ⟨by rw [f.length]; exact hz, fun p hp => new_lst k1 hp f h1⟩
    · exact h1.elim
  · exact h1.elim
theorem en_lst (h : PA X es (taOf C w fs)) : PE X (.List es pos) (tNew C w (bnd fs lstN)) := PE.imp (pe_lst h) fun σ H Q ⟨W, e, k, h⟩ => by
  refine taOf_bndN k h fun vs rs W1 e1 H1 x1 k1 hv h1 => ?_
  unfold lstN at h1
  split at h1
  · rename_i ds hd
    have f := allD_ok hv hd
    split at h1
    · rename_i hz
      exact ⟨by rw [f.length]; exact hz, fun p hp => new_lstN k1 hp f h1⟩
    · exact h1.elim
  · exact h1.elim
end
/-! ### index, slice -/
def ixG : R → R → Env → Rs R := fun x y e => match y with
  | .d (.int i) => match x with
    | .d (.str s) => if (tl s).length ≤ sizeLine then (match atI (tl s) i with
      | some c => .ok (txt [c]) e
      | none => .stk) else .stk
    | x => match lof e x with
      | some ds => (match atI ds i with
        | some d => .ok (.d d) e
        | none => .stk)
      | none => match tof x with
        | some ds => (match atI ds i with
          | some d => .ok (.d d) e
          | none => .stk)
        | none => .stk
  | _ => .stk
theorem atI_of {K : PySem.W.Frag} {G : Hp} {vs : List V} {ds : List Dt} {i : Int} {d : Dt} (h : FzAll K G vs ds) (q : atI ds i = some d) : ∃ v, atI vs i = some v ∧ Fz K G v d := by
  unfold atI at q ⊢
  rw [h.length]
  cases z : ixN ds.length i with
  | none => rw [z] at q; cases q
  | some j => rw [z] at q; exact h.get q
theorem ix_ok {C : Cf} {w : WX} {K : PySem.W.Frag} (hK : C.K = K) : OpG C w (rIx K) ixG := fun σ W e H v1 v2 r1 r2 Q k h1 h2 q => by
  subst hK
  unfold ixG at q
  split at q
  · cases vl_int h2
    split at q
    · rename_i s
      cases vl_str h1
      split at q
      · rename_i hz
        split at q
        · rename_i c hc
          exact .inr (.inr ⟨s, _, c, rfl, rfl, by rw [← len_tl]; exact hz, hc, q _ _ _ Ext.refl k (.str _)⟩)
        · exact q.elim
      · exact q.elim
    · split at q
      · rename_i ds hl
        obtain ⟨p, vs, rfl, s1, f1⟩ := lof_ok k h1 hl
        split at q
        · rename_i d hd
          obtain ⟨v, e1, e2⟩ := atI_of f1 hd
          exact .inl ⟨p, vs, _, v, rfl, rfl, .of s1, e1, q _ _ _ Ext.refl k e2⟩
        · exact q.elim
      · split at q
        · rename_i ds hl
          obtain ⟨p, vs, rfl, s1, f1⟩ := tof_ok h1 hl
          split at q
          · rename_i d hd
            obtain ⟨v, e1, e2⟩ := atI_of f1 hd
            exact .inr (.inl ⟨p, vs, _, v, rfl, rfl, SqT.sub s1 (Sub.msk W H), e1, q _ _ _ Ext.refl k e2⟩)
          · exact q.elim
        · exact q.elim
  · exact q.elim
def pP (C : Cf) (w : WX) (σ : L2.St) (W : List Addr) (H : Hp) (Q : Option Int → Hp → Prop) : Rs (Option Int) → Prop
  | .ok o e' => ∀ W' H', Ext W H W' H' → Ok C W' e' σ H' → Q o H'
  | .err c e' => Wx C w c e' W σ H
  | .stk => False
theorem pP.ext {C : Cf} {w : WX} {σ : L2.St} {W W' : List Addr} {H H' : Hp} {Q : Option Int → Hp → Prop} {r : Rs (Option Int)} (h : pP C w σ W H Q r) (x : Ext W H W' H') : pP C w σ W' H' Q r := by
  cases r with
  | ok r e' => exact fun W2 H2 y => h W2 H2 (x.trans y)
  | err c e' => exact Wx.ext h x
  | stk => exact h
def tpOf (C : Cf) (w : WX) (f : Env → Rs (Option Int)) : TO := fun σ H Q => ∃ W e, Ok C W e σ H ∧ pP C w σ W H Q (f e)
def noP : Env → Rs (Option Int) := cst none
def inP (x : R) : Env → Rs (Option Int) := fun e => match x with
  | .d (.int i) => .ok (some i) e
  | _ => .stk
def cutA {α : Type} (xs : List α) (lo hi : Option Int) : List α := (xs.drop (HT.sIx xs.length 0 lo)).take (HT.sIx xs.length xs.length hi - HT.sIx xs.length 0 lo)
theorem cutS_tl (s : Str) (lo hi : Option Int) : cutS s lo hi = sOf (cutA (tl s) lo hi) := by
  unfold cutS cutA sOf
  rw [len_tl]
theorem cut_of {K : PySem.W.Frag} {G : Hp} {vs : List V} {ds : List Dt} (h : FzAll K G vs ds) (lo hi : Option Int) : FzAll K G (cutV vs lo hi) (cutA ds lo hi) := by
  unfold cutV cutA
  rw [h.length]
  exact (h.drop _).take _
def slG (x : R) (lo hi : Option Int) : Env → Rs R := fun e => match x with
  | .scr ds => .ok (.d (.list (cutA ds lo hi))) e
  | .d (.str s) => if (tl s).length ≤ sizeLine then .ok (txt (cutA (tl s) lo hi)) e else .stk
  | x => match lof e x with
    | some ds => .ok (.d (.list (cutA ds lo hi))) e
    | none => match tof x with
      | some ds => .ok (.d (.tuple (cutA ds lo hi))) e
      | none => .stk
def rSlAll (K : PySem.W.Frag) : V → Option Int → Option Int → Hp → VK → Prop := fun x lo hi H Q => rSlS x lo hi H Q ∨ rSlL K x lo hi H Q ∨ rSlA K x lo hi H Q
theorem sl_all {X : Cx} : SlR X (rSlAll X.K) := SlR.or sl_str (SlR.or sl_list sl_tupA)
section
variable {C : Cf} {w : WX} {σ : L2.St} {H : Hp} {Q : VK}
theorem tpOf_bnd {W : List Addr} {e : Env} {f : Env → Rs (Option Int)} {g : Option Int → Env → Rs R} {P : Option Int → Hp → Prop} (k : Ok C W e σ H) (h : pO C w σ W H Q (bnd f g e))
    (n : ∀ b W' e' H', Ext W H W' H' → Ok C W' e' σ H' → pO C w σ W' H' Q (g b e') → P b H') : tpOf C w f σ H P := by
  refine ⟨W, e, k, ?_⟩
  unfold bnd at h
  cases q : f e with
  | ok r e' =>
    rw [q] at h
    exact fun W' H' x k' => n r W' e' H' x k' (pO.ext h x)
  | err c e' => rw [q] at h; exact h
  | stk => rw [q] at h; exact h
theorem tOf_bndP {W : List Addr} {e : Env} {f : Env → Rs R} {g : R → Env → Rs (Option Int)} {Q : Option Int → Hp → Prop} {P : VK} (k : Ok C W e σ H) (h : pP C w σ W H Q (bnd f g e))
    (n : ∀ v r W' e' H', Ext W H W' H' → Ok C W' e' σ H' → Vl C W' σ H' v r → pP C w σ W' H' Q (g r e') → P v H') : tOf C w f σ H P := by
  refine ⟨W, e, k, ?_⟩
  unfold bnd at h
  cases q : f e with
  | ok r e' =>
    rw [q] at h
    exact fun v W' H' x k' hv => n v r W' e' H' x k' hv (pP.ext h x)
  | err c e' => rw [q] at h; exact h
  | stk => rw [q] at h; exact h
end
section
variable {X : Cx} {C : Cf} {w : WX} {a b c : Expr} {es : List Expr} {pos p2 : Pos} {fa fb fc : Env → Rs R} {fl fh : Env → Rs (Option Int)} {lo hi : Option Expr}
theorem ep_no : PO X none (tpOf C w noP) := ⟨fun pins s σ H Q I ⟨W, e, k, h⟩ => po_none.run pins s σ H Q I (h _ _ Ext.refl k)⟩
theorem ep_in (ha : PE X a (tOf C w fa)) : PO X (some a) (tpOf C w (bnd fa inP)) := ⟨fun pins s σ H Q I ⟨W, e, k, h⟩ => (po_some ha).run pins s σ H Q I (by
  refine tOf_bndP k h fun v r W1 e1 H1 x1 k1 hv h1 => ?_
  unfold inP at h1
  split at h1
  · cases vl_int hv
    exact ⟨_, rfl, h1 _ _ Ext.refl k1⟩
  · exact h1.elim)⟩
def slV (fa : Env → Rs R) (fl fh : Env → Rs (Option Int)) : Env → Rs R := bnd fa fun x => bnd fl fun l => bnd fh fun h => slG x l h
theorem ev_sl (ct : Ct X C w) (ha : PE X a (tOf C w fa)) (hl : PO X lo (tpOf C w fl)) (hh : PO X hi (tpOf C w fh)) : PE X (.Subscript a (.Slice lo hi none p2) pos) (tOf C w (slV fa fl fh)) :=
  PE.imp (pe_slice sl_all ha hl hh) fun σ H Q ⟨W, e, k, h⟩ => by
    refine tOf_bnd k h fun v r W1 e1 H1 x1 k1 hv h1 => ?_
    refine tpOf_bnd k1 h1 fun l W2 e2 H2 x2 k2 h2 => ?_
    refine tpOf_bnd k2 h2 fun u W3 e3 H3 x3 k3 h3 => ?_
    have hv := (hv.ext x2).ext x3
    rw [← ct.K]
    unfold slG at h3
    split at h3
    · obtain ⟨p, vs, rfl, s1, f1⟩ := hv
      exact .inr (.inl ⟨p, vs, rfl, SqL.sub s1 (Sub.msk _ _), fun q hq => new_lst k3 hq (cut_of f1 l u) h3⟩)
    · cases vl_str hv
      split at h3
      · rename_i hz
        refine .inl ⟨_, rfl, by rw [← len_tl]; exact hz, ?_⟩
        rw [cutS_tl]
        exact h3 _ _ _ Ext.refl k3 (.str _)
      · exact h3.elim
    · split at h3
      · rename_i ds hl
        obtain ⟨p, vs, rfl, s1, f1⟩ := lof_ok k3 hv hl
        exact .inr (.inl ⟨p, vs, rfl, .of s1, fun q hq => new_lst k3 hq (cut_of f1 l u) h3⟩)
      · split at h3
        · rename_i ds hl
          obtain ⟨p, vs, rfl, s1, f1⟩ := tof_ok hv hl
          refine .inr (.inr ⟨p, vs, rfl, SqT.sub s1 (Sub.msk _ _), fun z => ?_, fun _ q hq => new_tup k3 hq (cut_of f1 l u) h3⟩)
          have e1 : cutA ds l u = ds := by
            rw [f1.length] at z
            unfold cutA
            rw [z.1, z.2]
            simp
          rw [e1] at h3
          exact h3 _ _ _ Ext.refl k3 (.tup s1 f1)
        · exact h3.elim
end
/-! ### built-ins -/
def CaG (C : Cf) (w : WX) (r : List V → Hp → VK → Prop) (g : List R → Env → Rs R) : Prop := ∀ σ W e H vs rs Q, Ok C W e σ H → Vls C W σ H vs rs → pO C w σ W H Q (g rs e) → r vs H Q
section
variable {X : Cx} {C : Cf} {w : WX} {a b c e : Expr} {es : List Expr} {pos p : Pos} {fa fb fc : Env → Rs R} {fs : Env → Rs (List R)} {id T : String} {x : Str} {r : List V → Hp → VK → Prop} {g : List R → Env → Rs R}
theorem ev_callB (hc : CallR X (.builtin id) r) (hg : CaG C w r g) (gl : Gl X x) (hm : X.mg x = none) (hv : bootBuiltins x = some (.builtin id)) (ha : PA X (e :: es) (taOf C w fs)) (hn : x ≠ "__name__" := by decide) (hdb : (x == ("__debug__" : Str)) = false := by decide)
    (he : starEach (e :: es) X.env = (false, eval e X.env) :: starEach es X.env := by rfl) (hpl : (backTo pos (starEach es X.env)).any (·.1) = false := by rfl) : PE X (.Call (.Name x p) (e :: es) [] pos) (tOf C w (bnd fs g)) :=
  PE.imp (pe_callB hc gl hm hv ha hn hdb he hpl) fun σ H Q ⟨W, e, k, h⟩ => by
    refine taOf_bnd k h fun vs rs W1 e1 H1 x1 k1 hv h1 => ?_
    exact hg σ W1 e1 H1 vs rs Q k1 hv h1
theorem ev_callTy (hc : CallR X (.type T) r) (hg : CaG C w r g) (gl : Gl X x) (hm : X.mg x = none) (hv : bootBuiltins x = some (.type T)) (ha : PA X (e :: es) (taOf C w fs)) (hn : x ≠ "__name__" := by decide) (hdb : (x == ("__debug__" : Str)) = false := by decide)
    (he : starEach (e :: es) X.env = (false, eval e X.env) :: starEach es X.env := by rfl) (hpl : (backTo pos (starEach es X.env)).any (·.1) = false := by rfl) : PE X (.Call (.Name x p) (e :: es) [] pos) (tOf C w (bnd fs g)) :=
  PE.imp (pe_callTy hc gl hm hv ha hn hdb he hpl) fun σ H Q ⟨W, e, k, h⟩ => by
    refine taOf_bnd k h fun vs rs W1 e1 H1 x1 k1 hv h1 => ?_
    exact hg σ W1 e1 H1 vs rs Q k1 hv h1
/-- T(..) as a new root -/
def CnG (C : Cf) (w : WX) (r : List V → Hp → VK → Prop) (g : List R → Env → Rs Ob) : Prop := ∀ σ W e H vs rs Q, Ok C W e σ H → Vls C W σ H vs rs → pN C w σ W H Q (g rs e) → r vs H Q
theorem en_callTy {g : List R → Env → Rs Ob} (hc : CallR X (.type T) r) (hg : CnG C w r g) (gl : Gl X x) (hm : X.mg x = none) (hv : bootBuiltins x = some (.type T)) (ha : PA X (e :: es) (taOf C w fs)) (hn : x ≠ "__name__" := by decide) (hdb : (x == ("__debug__" : Str)) = false := by decide)
    (he : starEach (e :: es) X.env = (false, eval e X.env) :: starEach es X.env := by rfl) (hpl : (backTo pos (starEach es X.env)).any (·.1) = false := by rfl) : PE X (.Call (.Name x p) (e :: es) [] pos) (tNew C w (bnd fs g)) :=
  PE.imp (pe_callTy hc gl hm hv ha hn hdb he hpl) fun σ H Q ⟨W, e, k, h⟩ => by
    refine taOf_bndN k h fun vs rs W1 e1 H1 x1 k1 hv h1 => ?_
    exact hg σ W1 e1 H1 vs rs Q k1 hv h1
end
theorem Vls.one {C : Cf} {W : List Addr} {σ : L2.St} {H : Hp} {vs : List V} {r : R} (h : Vls C W σ H vs [r]) : ∃ v, vs = [v] ∧ Vl C W σ H v r := by
  cases h with
  | cons h t => cases t; exact ⟨_, rfl, h⟩
theorem Vls.two {C : Cf} {W : List Addr} {σ : L2.St} {H : Hp} {vs : List V} {r r' : R} (h : Vls C W σ H vs [r, r']) : ∃ v v', vs = [v, v'] ∧ Vl C W σ H v r ∧ Vl C W σ H v' r' := by
  cases h with
  | cons h t =>
    obtain ⟨v', rfl, h'⟩ := t.one
    exact ⟨_, _, rfl, h, h'⟩
/-- len -/
def lenG : List R → Env → Rs R := fun rs e => match rs with
  | [.d (.str s)] => if (tl s).length ≤ sizeLine then .ok (.d (.int (tl s).length)) e else .stk
  | [x] => match lof e x with
    | some ds => .ok (.d (.int ds.length)) e
    | none => match tof x with
      | some ds => .ok (.d (.int ds.length)) e
      | none => .stk
  | _ => .stk
def rLenA (K : PySem.W.Frag) : List V → Hp → VK → Prop := fun xs H Q => (∃ p ys, xs = [.ref p] ∧ (SqL K H p ys ∨ SqT K H p ys) ∧ Q (.int ys.length) H) ∨ (∃ z, xs = [.str z] ∧ z.length ≤ sizeLine ∧ Q (.int z.length) H)
theorem call_lenA {X : Cx} : CallR X (.builtin "len") (rLenA X.K) := CallR.or call_len_seq call_len_str
theorem len_ok {C : Cf} {w : WX} {K : PySem.W.Frag} (hK : C.K = K) : CaG C w (rLenA K) lenG := fun σ W e H vs rs Q k hv q => by
  subst hK
  unfold lenG at q
  split at q
  · rename_i s
    obtain ⟨v, rfl, h⟩ := hv.one
    cases vl_str h
    split at q
    · rename_i hz
      refine .inr ⟨s, rfl, by rw [← len_tl]; exact hz, ?_⟩
      rw [← len_tl]
      exact q _ _ _ Ext.refl k (.int _)
    · exact q.elim
  · obtain ⟨v, rfl, h⟩ := hv.one
    split at q
    · rename_i ds hl
      obtain ⟨p, vs, rfl, s1, f1⟩ := lof_ok k h hl
      refine .inl ⟨p, vs, rfl, .inl (.of s1), ?_⟩
      rw [f1.length]
      exact q _ _ _ Ext.refl k (.int _)
    · split at q
      · rename_i ds hl
        obtain ⟨p, vs, rfl, s1, f1⟩ := tof_ok h hl
        refine .inl ⟨p, vs, rfl, .inr (SqT.sub s1 (Sub.msk _ _)), ?_⟩
        rw [f1.length]
        exact q _ _ _ Ext.refl k (.int _)
      · exact q.elim
  · exact q.elim
def absG : List R → Env → Rs R := fun rs e => match rs with
  | [.d (.int i)] => .ok (.d (.int (if i < 0 then -i else i))) e
  | _ => .stk
theorem abs_ok {C : Cf} {w : WX} : CaG C w (fun xs H Q => ∃ i, xs = [.int i] ∧ Q (.int (if i < 0 then -i else i)) H) absG := fun σ W e H vs rs Q k hv q => by
  unfold absG at q
  split at q
  · obtain ⟨v, rfl, h⟩ := hv.one
    cases vl_int h
    exact ⟨_, rfl, q _ _ _ Ext.refl k (.int _)⟩
  · exact q.elim
def intG : List R → Env → Rs R := fun rs e => match rs with
  | [.d (.int i)] => .ok (.d (.int i)) e
  | [.d (.bool b)] => .ok (.d (.int (if b then 1 else 0))) e
  | [.d (.str s)] => match PySem.intText? s with
    | some n => if (tl s).length ≤ 640 then .ok (.d (.int n)) e else .stk
    | none => .stk
  | _ => .stk
def rIntA : List V → Hp → VK → Prop := fun xs H Q => ((∃ i, xs = [.int i] ∧ Q (.int i) H) ∨ ∃ k, xs = [.bl k] ∧ Q (.int (if k then 1 else 0)) H) ∨ ∃ a n, xs = [.str a] ∧ PySem.intText? a = some n ∧ a.length ≤ 640 ∧ Q (.int n) H
theorem call_intA {X : Cx} : CallR X (.type "int") rIntA := CallR.or call_int1 call_int_str
theorem int_ok {C : Cf} {w : WX} : CaG C w rIntA intG := fun σ W e H vs rs Q k hv q => by
  unfold intG at q
  split at q
  · obtain ⟨v, rfl, h⟩ := hv.one
    cases vl_int h
    exact .inl (.inl ⟨_, rfl, q _ _ _ Ext.refl k (.int _)⟩)
  · obtain ⟨v, rfl, h⟩ := hv.one
    cases vl_bl h
    exact .inl (.inr ⟨_, rfl, q _ _ _ Ext.refl k (.int _)⟩)
  · obtain ⟨v, rfl, h⟩ := hv.one
    cases vl_str h
    split at q
    · rename_i n hn
      split at q
      · rename_i hz
        exact .inr ⟨_, n, rfl, hn, by rw [← len_tl]; exact hz, q _ _ _ Ext.refl k (.int _)⟩
      · exact q.elim
    · exact q.elim
  · exact q.elim
def strG : List R → Env → Rs R := fun rs e => match rs with
  | [.d (.int i)] => if i.natAbs.log2 < 1920 then .ok (.d (.str (Str.ofString (toString i)))) e else .stk
  | [.d (.str s)] => .ok (.d (.str s)) e
  | _ => .stk
def minG : List R → Env → Rs R := fun rs e => match rs with
  | [.d (.int i), .d (.int j)] => .ok (.d (.int (if j < i then j else i))) e
  | _ => .stk
def maxG : List R → Env → Rs R := fun rs e => match rs with
  | [.d (.int i), .d (.int j)] => .ok (.d (.int (if j > i then j else i))) e
  | _ => .stk
theorem min_ok {C : Cf} {w : WX} : CaG C w (fun xs H Q => ∃ i j, xs = [.int i, .int j] ∧ Q (.int (if j < i then j else i)) H) minG := fun σ W e H vs rs Q k hv q => by
  unfold minG at q
  split at q
  · obtain ⟨v, v', rfl, h, h'⟩ := hv.two
    cases vl_int h; cases vl_int h'
    exact ⟨_, _, rfl, q _ _ _ Ext.refl k (.int _)⟩
  · exact q.elim
theorem max_ok {C : Cf} {w : WX} : CaG C w (fun xs H Q => ∃ i j, xs = [.int i, .int j] ∧ Q (.int (if j > i then j else i)) H) maxG := fun σ W e H vs rs Q k hv q => by
  unfold maxG at q
  split at q
  · obtain ⟨v, v', rfl, h, h'⟩ := hv.two
    cases vl_int h; cases vl_int h'
    exact ⟨_, _, rfl, q _ _ _ Ext.refl k (.int _)⟩
  · exact q.elim
/-- list(..), tuple(..) of a list, a tuple -/
def seqOf (e : Env) (x : R) : Option (List Dt) := match lof e x with
  | some ds => some ds
  | none => tof x
theorem seqOf_ok {C : Cf} {W : List Addr} {σ : L2.St} {H : Hp} {e : Env} {v : V} {r : R} {ds : List Dt} (k : Ok C W e σ H) (h : Vl C W σ H v r) (q : seqOf e r = some ds) : ∃ a vs, v = .ref a ∧ (SqL C.K H a vs ∨ SqT C.K H a vs) ∧ FzAll C.K (msk W H) vs ds := by
  unfold seqOf at q
  split at q
  · rename_i ds' hl
    cases q
    obtain ⟨p, vs, rfl, s1, f1⟩ := lof_ok k h hl
    exact ⟨p, vs, rfl, .inl (.of s1), f1⟩
  · obtain ⟨p, vs, rfl, s1, f1⟩ := tof_ok h q
    exact ⟨p, vs, rfl, .inr (SqT.sub s1 (Sub.msk _ _)), f1⟩
def listG : List R → Env → Rs R := fun rs e => match rs with
  | [x] => match seqOf e x with
    | some ds => .ok (.d (.list ds)) e
    | none => .stk
  | _ => .stk
def listN : List R → Env → Rs Ob := fun rs e => match rs with
  | [x] => match seqOf e x with
    | some ds => .ok (.lst ds) e
    | none => .stk
  | _ => .stk
def rListA (K : PySem.W.Frag) : List V → Hp → VK → Prop := fun xs H Q => ∃ p ys, xs = [.ref p] ∧ (SqL K H p ys ∨ SqT K H p ys) ∧ ∀ l, H l = none → Q (.ref l) (upd H l (.lst ys))
theorem call_listA {X : Cx} : CallR X (.type "list") (rListA X.K) := call_list_of
theorem list_ok {C : Cf} {w : WX} {K : PySem.W.Frag} (hK : C.K = K) : CaG C w (rListA K) listG := fun σ W e H vs rs Q k hv q => by
  subst hK
  unfold listG at q
  split at q
  · obtain ⟨v, rfl, h⟩ := hv.one
    split at q
    · rename_i ds hl
      obtain ⟨p, ys, rfl, s1, f1⟩ := seqOf_ok k h hl
      exact ⟨p, ys, rfl, s1, fun l hl => new_lst k hl f1 q⟩
    · exact q.elim
  · exact q.elim
theorem listN_ok {C : Cf} {w : WX} {K : PySem.W.Frag} (hK : C.K = K) : CnG C w (rListA K) listN := fun σ W e H vs rs Q k hv q => by
  subst hK
  unfold listN at q
  split at q
  · obtain ⟨v, rfl, h⟩ := hv.one
    split at q
    · rename_i ds hl
      obtain ⟨p, ys, rfl, s1, f1⟩ := seqOf_ok k h hl
      exact ⟨p, ys, rfl, s1, fun l hl => new_lstN k hl f1 q⟩
    · exact q.elim
  · exact q.elim
def tupleG : List R → Env → Rs R := fun rs e => match rs with
  | [x] => match seqOf e x with
    | some ds => .ok (.d (.tuple ds)) e
    | none => .stk
  | _ => .stk
def rTupleA (K : PySem.W.Frag) : List V → Hp → VK → Prop := fun xs H Q => ∃ p ys, xs = [.ref p] ∧ ((SqL K H p ys ∧ ∀ l, H l = none → Q (.ref l) (upd H l (.tup ys))) ∨ (SqT K H p ys ∧ Q (.ref p) H))
theorem call_tupleA {X : Cx} : CallR X (.type "tuple") (rTupleA X.K) := call_tuple_of
theorem tuple_ok {C : Cf} {w : WX} {K : PySem.W.Frag} (hK : C.K = K) : CaG C w (rTupleA K) tupleG := fun σ W e H vs rs Q k hv q => by
  subst hK
  unfold tupleG at q
  split at q
  · obtain ⟨v, rfl, h⟩ := hv.one
    split at q
    · rename_i ds hl
      unfold seqOf at hl
      split at hl
      · rename_i ds' hl'
        cases hl
        obtain ⟨p, ys, rfl, s1, f1⟩ := lof_ok k h hl'
        exact ⟨p, ys, rfl, .inl ⟨.of s1, fun l hl => new_tup k hl f1 q⟩⟩
      · obtain ⟨p, ys, rfl, s1, f1⟩ := tof_ok h hl
        exact ⟨p, ys, rfl, .inr ⟨SqT.sub s1 (Sub.msk _ _), q _ _ _ Ext.refl k (.tup s1 f1)⟩⟩
    · exact q.elim
  · exact q.elim
/-! ### methods of texts -/
def m0 (fo : Env → Rs R) (g : Str → Env → Rs R) : Env → Rs R := bnd fo fun x e => match x with
  | .d (.str s) => g s e
  | _ => .stk
def m1 (fo fa : Env → Rs R) (g : Str → R → Env → Rs R) : Env → Rs R := bnd fo fun x e => match x with
  | .d (.str s) => bnd fa (fun y => g s y) e
  | _ => .stk
def M0G (C : Cf) (w : WX) (r : V → List V → Hp → VK → Prop) (g : Str → Env → Rs R) : Prop := ∀ σ W e H s Q, Ok C W e σ H → pO C w σ W H Q (g s e) → r (.str s) [] H Q
def M1G (C : Cf) (w : WX) (r : V → List V → Hp → VK → Prop) (g : Str → R → Env → Rs R) : Prop := ∀ σ W e H s v y Q, Ok C W e σ H → Vl C W σ H v y → pO C w σ W H Q (g s y e) → r (.str s) [v] H Q
section
variable {X : Cx} {C : Cf} {w : WX} {o e : Expr} {apos pos : Pos} {fo fa : Env → Rs R} {id : String} {name : Str} {r : V → List V → Hp → VK → Prop}
theorem ev_m0 {g : Str → Env → Rs R} (slot : Slot "str" name id) (ty : typeOf (.builtin id) = pure (.type "method_descriptor")) (rule : MtR X id r) (hg : M0G C w r g) (ho : PE X o (tOf C w fo))
    (hbase : attributeBase o name X.env (eval o X.env) = eval o X.env := by rfl) (hline : (apos.endLine == pos.line) = true := by rfl) : PE X (.Call (.Attribute o name apos) [] [] pos) (tOf C w (m0 fo g)) :=
  PE.imp (pe_m0 slot ty rule ho hbase hline) fun σ H Q ⟨W, e, k, h⟩ => by
    refine tOf_bnd k h fun v r W1 e1 H1 x1 k1 hv h1 => ?_
    split at h1
    · cases vl_str hv
      exact ⟨⟨_, rfl⟩, hg σ W1 e1 H1 _ Q k1 h1⟩
    · exact h1.elim
theorem ev_m1 {g : Str → R → Env → Rs R} (slot : Slot "str" name id) (ty : typeOf (.builtin id) = pure (.type "method_descriptor")) (rule : MtR X id r) (hg : M1G C w r g) (ho : PE X o (tOf C w fo)) (ha : PE X e (tOf C w fa))
    (hs : starEach [e] X.env = [(false, eval e X.env)] := by rfl) (hbase : attributeBase o name X.env (eval o X.env) = eval o X.env := by rfl) (hline : (apos.endLine == pos.line) = true := by rfl) : PE X (.Call (.Attribute o name apos) [e] [] pos) (tOf C w (m1 fo fa g)) :=
  PE.imp (pe_m1 slot ty rule ho ha hs hbase hline) fun σ H Q ⟨W, e, k, h⟩ => by
    refine tOf_bnd k h fun v r W1 e1 H1 x1 k1 hv h1 => ?_
    split at h1
    · cases vl_str hv
      refine ⟨⟨_, rfl⟩, ?_⟩
      refine tOf_bnd k1 h1 fun v2 r2 W2 e2 H2 x2 k2 hv2 h2 => ?_
      exact hg σ W2 e2 H2 _ v2 r2 Q k2 hv2 h2
    · exact h1.elim
end
def strsD (l : List Str) : List Dt := l.map PyData.str
theorem strs_fz {K : PySem.W.Frag} {G : Hp} : ∀ l : List Str, FzAll K G (l.map V.str) (strsD l)
  | [] => .nil
  | x :: l => .cons (.str x) (strs_fz l)
def splitG : Str → R → Env → Rs R := fun s y e => match y with
  | .d (.str b) => if (tl b).length ≠ 0 ∧ (tl s).length + 2 ≤ sizeLine then .ok (.d (.list (strsD (Txt.split s b)))) e else .stk
  | _ => .stk
def rSplit : V → List V → Hp → VK → Prop := fun x xs H Q => ∃ a b, x = .str a ∧ xs = [.str b] ∧ (b.length == 0) = false ∧ a.length + 2 ≤ sizeLine ∧ rNewStrs (Txt.split a b) H Q
theorem split_ok {C : Cf} {w : WX} : M1G C w rSplit splitG := fun σ W e H s v y Q k hv q => by
  unfold splitG at q
  split at q
  · cases vl_str hv
    split at q
    · rename_i b hz
      refine ⟨s, b, rfl, rfl, ?_, by rw [← len_tl]; exact hz.2, fun p hp => new_lst k hp (strs_fz _) q⟩
      rw [← len_tl]
      simpa using hz.1
    · exact q.elim
  · exact q.elim
def strsOf : List Dt → Option (List Str)
  | [] => some []
  | .str x :: l => match strsOf l with
    | some m => some (x :: m)
    | none => none
  | _ => none
theorem strsOf_ok {K : PySem.W.Frag} {G : Hp} : ∀ {vs : List V} {ds : List Dt} {l : List Str}, FzAll K G vs ds → strsOf ds = some l → vs = l.map V.str
  | _, _, _, .nil, q => by cases q; rfl
  | _, _, _, .cons (d := d) h t, q => by
    cases d <;> simp only [strsOf] at q
    · cases q
    · cases q
    · cases q
    · split at q
      · rename_i m hm
        cases q
        cases h
        rw [strsOf_ok t hm]; rfl
      · cases q
    · cases q
    · cases q
    · cases q
def joinG : Str → R → Env → Rs R := fun s y e => match seqOf e y with
  | some ds => match strsOf ds with
    | some l => if (l.map (·.length)).sum + l.length * s.length ≤ 16777216 then .ok (.d (.str (Txt.join s l))) e else .stk
    | none => .stk
  | none => .stk
def rJoin (K : PySem.W.Frag) : V → List V → Hp → VK → Prop := fun x xs H Q => ∃ a p, ∃ ys : List Str, x = .str a ∧ xs = [.ref p] ∧ (SqL K H p (ys.map V.str) ∨ SqT K H p (ys.map V.str)) ∧
      (ys.map (·.length)).sum + ys.length * a.length ≤ 16777216 ∧ Q (.str (Txt.join a ys)) H
theorem join_ok {C : Cf} {w : WX} {K : PySem.W.Frag} (hK : C.K = K) : M1G C w (rJoin K) joinG := fun σ W e H s v y Q k hv q => by
  subst hK
  unfold joinG at q
  split at q
  · rename_i ds hd
    split at q
    · rename_i l hl
      split at q
      · rename_i hz
        obtain ⟨p, ys, rfl, s1, f1⟩ := seqOf_ok k hv hd
        cases strsOf_ok f1 hl
        exact ⟨s, p, l, rfl, rfl, s1, hz, q _ _ _ Ext.refl k (.str _)⟩
      · exact q.elim
    · exact q.elim
  · exact q.elim
/-- a method of a text and a text that answers by a plain value -/
def tt1 (f : Str → Str → Dt) (lim : Nat) : Str → R → Env → Rs R := fun s y e => match y with
  | .d (.str b) => if s.length ≤ lim then .ok (.d (f s b)) e else .stk
  | _ => .stk
def t0 (f : Str → Dt) (lim : Nat) : Str → Env → Rs R := fun s e => if s.length ≤ lim then .ok (.d (f s)) e else .stk
section
variable {C : Cf} {w : WX}
theorem tt1_str {f : Str → Str → Str} {lim : Nat} : M1G C w (fun x xs H Q => ∃ a b, x = .str a ∧ xs = [.str b] ∧ a.length ≤ lim ∧ Q (.str (f a b)) H) (tt1 (fun a b => .str (f a b)) lim) := fun σ W e H s v y Q k hv q => by
  unfold tt1 at q
  split at q
  · cases vl_str hv
    split at q
    · rename_i hz; exact ⟨_, _, rfl, rfl, hz, q _ _ _ Ext.refl k (.str _)⟩
    · exact q.elim
  · exact q.elim
theorem tt1_int {f : Str → Str → Int} {lim : Nat} : M1G C w (fun x xs H Q => ∃ a b, x = .str a ∧ xs = [.str b] ∧ Q (.int (f a b)) H) (tt1 (fun a b => .int (f a b)) lim) := fun σ W e H s v y Q k hv q => by
  unfold tt1 at q
  split at q
  · cases vl_str hv
    split at q
    · exact ⟨_, _, rfl, rfl, q _ _ _ Ext.refl k (.int _)⟩
    · exact q.elim
  · exact q.elim
theorem tt1_bl {f : Str → Str → Bool} {lim : Nat} : M1G C w (fun x xs H Q => ∃ a b, x = .str a ∧ xs = [.str b] ∧ Q (.bl (f a b)) H) (tt1 (fun a b => .bool (f a b)) lim) := fun σ W e H s v y Q k hv q => by
  unfold tt1 at q
  split at q
  · cases vl_str hv
    split at q
    · exact ⟨_, _, rfl, rfl, q _ _ _ Ext.refl k (.bl _)⟩
    · exact q.elim
  · exact q.elim
theorem t0_str {f : Str → Str} {lim : Nat} : M0G C w (fun x xs H Q => ∃ a, x = .str a ∧ xs = [] ∧ a.length ≤ lim ∧ Q (.str (f a)) H) (t0 (fun a => .str (f a)) lim) := fun σ W e H s Q k q => by
  unfold t0 at q
  split at q
  · rename_i hz; exact ⟨_, rfl, rfl, hz, q _ _ _ Ext.refl k (.str _)⟩
  · exact q.elim
theorem t0_bl {f : Str → Bool} {lim : Nat} : M0G C w (fun x xs H Q => ∃ a, x = .str a ∧ xs = [] ∧ True ∧ Q (.bl (f a)) H) (t0 (fun a => .bool (f a)) lim) := fun σ W e H s Q k q => by
  unfold t0 at q
  split at q
  · exact ⟨_, rfl, rfl, trivial, q _ _ _ Ext.refl k (.bl _)⟩
  · exact q.elim
end
end Ev

set_option Elab.async false
set_option linter.all false
set_option maxRecDepth 100000
namespace Ev
open PySem L2
/-! ### roots -/
def rootOf (e : Env) : R → Option Ob
  | .loc i => match e.sl[i]? with
    | some (some (.own o)) => some o
    | _ => none
  | .hnd j => e.hs[j]?
  | _ => none
def putR (e : Env) : R → Ob → Env
  | .loc i, o => ⟨e.sl.set i (some (.own o)), e.hs⟩
  | .hnd j, o => ⟨e.sl, e.hs.set j o⟩
  | _, _ => e
theorem ob_some {K : PySem.W.Frag} {W : List Addr} {H : Hp} {a : Addr} {o : Ob} (h : ObOk K W H a o) : ∃ u, H a = some u ∧ ∀ q, u ≠ LamX.CodeO a q := by
  cases o with
  | lst ds => obtain ⟨vs, h1, _⟩ := h; exact ⟨_, h1, fun q z => by cases z⟩
  | dic kvs => obtain ⟨vs, h1, _⟩ := h; exact ⟨_, h1, fun q z => by cases z⟩
  | ins D fs => obtain ⟨dx, vs, h1, _⟩ := h; exact ⟨_, h1, fun q z => by cases z⟩
section
variable {C : Cf} {w : WX} {σ : L2.St} {W : List Addr} {H : Hp} {e : Env} {v : V} {r : R}
theorem nodup_get {α : Type} {l : List α} (h : l.Nodup) {i j : Nat} {a : α} (hi : l[i]? = some a) (hj : l[j]? = some a) : i = j := by
  obtain ⟨h1, e1⟩ := List.getElem?_eq_some_iff.mp hi
  exact (List.getElem?_inj h1 h).mp (hi.trans hj.symm)
theorem root_ok {o : Ob} (k : Ok C W e σ H) (h : Vl C W σ H v r) (q : rootOf e r = some o) : ∃ p, v = .ref p ∧ p ∈ W ∧ ObOk C.K W H p o ∧
    ∀ (ho : HO) (ob : Ob), Rk ho → (∀ W' H', Ext W H W' H' → H' p = some ho → ObOk C.K W' H' p ob) → Ok C W (putR e r ob) σ (upd H p ho) ∧ Ext W H W (upd H p ho) := by
  have ext : ∀ {p : Addr} {ho : HO}, p ∈ W → Ext W H W (upd H p ho) := fun {p ho} hp b u h _ => by
    obtain ⟨h1, h2⟩ := msk_some h
    rw [msk_out h1, upd_ne fun z => h1 (by rw [z]; exact hp)]; exact h2
  cases r with
  | loc i =>
    simp only [rootOf] at q
    split at q
    · rename_i o' hs
      cases q
      obtain ⟨u, h1, a, e1, e2, e3, e4⟩ := k.slot i _ hs
      have h : σ[i]? = some (some v) := h
      rw [h] at h1; cases h1
      subst e1
      refine ⟨a, rfl, e2, e4, fun ho ob ht hob => ?_⟩
      obtain ⟨u, hu1, hu2⟩ := ob_some e4
      refine k.write (e' := ⟨e.sl.set i (some (.own ob)), e.hs⟩) e2 ht (.inl e3) (fun q z => ?_) (fun j sv hj => ?_) (by simp) rfl (fun j b ob' h1 h2 => .inl ⟨fun z => ?_, h2⟩)
      · rw [hu1] at z; cases z; exact hu2 q rfl
      · rcases get_set hj with ⟨rfl, z⟩ | ⟨z, hj⟩
        · cases z
          exact .inr (.inr ⟨ob, rfl, ⟨_, hs⟩, h, hob _ _ (ext e2) upd_same⟩)
        · cases sv with
          | fro r => exact .inr (.inl ⟨r, rfl, hj⟩)
          | own ob' => exact .inl ⟨hj, fun y => z (k.dist j i _ _ _ hj hs y h)⟩
      · subst z
        exact e3 (k.has b (List.mem_of_getElem? h1))
    · cases q
  | hnd j =>
    simp only [rootOf] at q
    obtain ⟨a, h1, h2⟩ := h
    subst h2
    have a0 := k.has a (List.mem_of_getElem? h1)
    have aW := k.sub a a0
    have e4 := k.hnds j a _ h1 q
    refine ⟨a, rfl, aW, e4, fun ho ob ht hob => ?_⟩
    obtain ⟨u, hu1, hu2⟩ := ob_some e4
    refine k.write (e' := ⟨e.sl, e.hs.set j ob⟩) aW ht (.inr (List.mem_of_getElem? h1)) (fun q z => ?_) (fun i sv hi => ?_) rfl (by simp) (fun j' b ob' g1 g2 => ?_)
    · rw [hu1] at z; cases z; exact hu2 q rfl
    · cases sv with
      | fro r => exact .inr (.inl ⟨r, rfl, hi⟩)
      | own ob' =>
        refine .inl ⟨hi, fun y => ?_⟩
        obtain ⟨u, f1, b, f2, f3, f4, f5⟩ := k.slot i _ hi
        rw [y] at f1; cases f1; cases f2
        exact f4 a0
    · rcases get_set g2 with ⟨rfl, z⟩ | ⟨z, g2⟩
      · cases z
        rw [h1] at g1; cases g1
        exact .inr ⟨rfl, hob _ _ (ext aW) upd_same⟩
      · refine .inl ⟨fun y => z ?_, g2⟩
        subst y
        exact nodup_get k.nd g1 h1
  | d x => simp [rootOf] at q
  | clo i => simp [rootOf] at q
  | clos n => simp [rootOf] at q
  | scr n => simp [rootOf] at q
/-- a root's list is written -/
theorem root_lst {ds : List Dt} {w : WX} {Q : VK} {rr : R} {v' : V} {ds' : List Dt} (k : Ok C W e σ H) (h : Vl C W σ H v r) (q : rootOf e r = some (.lst ds)) : ∃ p vs, v = .ref p ∧ H p = some (.lst vs) ∧ FzAll C.K (msk W H) vs ds ∧
    ∀ vs' ds', FzAll C.K (msk W H) vs' ds' → Ok C W (putR e r (.lst ds')) σ (upd H p (.lst vs')) ∧ Ext W H W (upd H p (.lst vs')) := by
  obtain ⟨p, rfl, h1, ⟨vs, h2, h3⟩, h4⟩ := root_ok k h q
  exact ⟨p, vs, rfl, h2, h3, fun vs' ds' f => h4 _ _ rk_lst fun W' H' x hh => ⟨vs', hh, Fz.subAll x _ _ f⟩⟩
end
/-! ### methods of lists -/
def lmA (fo : Env → Rs R) (fs : Env → Rs (List R)) (g : R → List R → Env → Rs R) : Env → Rs R := bnd fo fun x e => match lof e x with
  | some _ => bnd fs (fun rs => g x rs) e
  | none => .stk
def LmG (C : Cf) (w : WX) (r : V → List V → Hp → VK → Prop) (g : R → List R → Env → Rs R) : Prop := ∀ σ W e H v x vs rs Q, Ok C W e σ H → Vl C W σ H v x → Vls C W σ H vs rs → pO C w σ W H Q (g x rs e) → r v vs H Q
section
variable {X : Cx} {C : Cf} {w : WX} {o e : Expr} {es : List Expr} {apos cpos : Pos} {fo fa : Env → Rs R} {fs : Env → Rs (List R)} {id : String} {name : Str} {r : V → List V → Hp → VK → Prop} {g : R → List R → Env → Rs R}
theorem ty_list {W : List Addr} {σ : L2.St} {H : Hp} {en : Env} {v : V} {x : R} {ds : List Dt} (k : Ok C W en σ H) (h : Vl C W σ H v x) (q : lof en x = some ds) : tyV C.K "list" v H := by
  obtain ⟨p, vs, rfl, s1, f1⟩ := lof_ok k h q
  exact .inl ⟨rfl, vs, .of s1⟩
theorem ev_lm0 (ct : Ct X C w) (slot : Slot "list" name id) (hty : typeOf (.builtin id) = pure (.type "method_descriptor")) (hm : MtR X id r) (hg : LmG C w r g) (ho : PE X o (tOf C w fo))
    (hbase : attributeBase o name X.env (eval o X.env) = eval o X.env := by rfl) (hline : (apos.endLine == cpos.line) = true := by rfl) : PE X (.Call (.Attribute o name apos) [] [] cpos) (tOf C w (lmA fo nilA g)) :=
  PE.imp (pe_bm0 PySem.F.plainAttrs_list slot hty hm ho hbase hline) fun σ H Q ⟨W, e, k, h⟩ => by
    refine tOf_bnd k h fun v x W1 e1 H1 x1 k1 hv h1 => ?_
    split at h1
    · rename_i ds hl
      exact ⟨by rw [← ct.K]; exact ty_list k1 hv hl, hg σ W1 e1 H1 v x [] [] Q k1 hv .nil h1⟩
    · exact h1.elim
theorem ev_lm (ct : Ct X C w) (slot : Slot "list" name id) (hty : typeOf (.builtin id) = pure (.type "method_descriptor")) (hm : MtR X id r) (hg : LmG C w r g) (ho : PE X o (tOf C w fo)) (ha : PA X (e :: es) (taOf C w fs))
    (hs : starEach (e :: es) X.env = (false, eval e X.env) :: starEach es X.env := by rfl) (hplain : (backTo cpos (starEach es X.env)).any (·.1) = false := by rfl)
    (hbase : attributeBase o name X.env (eval o X.env) = eval o X.env := by rfl) (hline : (apos.endLine == cpos.line) = true := by rfl)
    (hfew : ((((backTo cpos (starEach (e :: es) X.env)).all fun x => !x.fst) && (backToKw cpos (keywordEach [] X.env)).all fun x => x.fst.isSome) && decide (((e :: es).length + ([] : List Keyword).length + if ([] : List Keyword).isEmpty = true then 0 else 1) < 30)) = true := by rfl) :
    PE X (.Call (.Attribute o name apos) (e :: es) [] cpos) (tOf C w (lmA fo fs g)) :=
  PE.imp (pe_bm PySem.F.plainAttrs_list slot hty hm ho ha (hs := hs) (hplain := hplain) (hbase := hbase) (hline := hline) (hfew := hfew)) fun σ H Q ⟨W, e, k, h⟩ => by
    refine tOf_bnd k h fun v x W1 e1 H1 x1 k1 hv h1 => ?_
    split at h1
    · rename_i ds hl
      refine ⟨by rw [← ct.K]; exact ty_list k1 hv hl, taOf_bnd k1 h1 fun vs rs W2 e2 H2 x2 k2 hvs h2 => ?_⟩
      exact hg σ W2 e2 H2 v x vs rs Q k2 (hv.ext x2) hvs h2
    · exact h1.elim
end
def appG (x : R) (rs : List R) : Env → Rs R := fun e => match rootOf e x, allD rs with
  | some (.lst ds), some [d] => if ds.length < sizeLine then .ok (.d .none) (putR e x (.lst (ds ++ [d]))) else .stk
  | _, _ => .stk
theorem app_ok {C : Cf} {w : WX} : LmG C w rAppend appG := fun σ W e H v x vs rs Q k hx hvs q => by
  unfold appG at q
  split at q
  · rename_i ds d hr ha
    split at q
    · rename_i hz
      obtain ⟨p, ys, rfl, h2, h3, h4⟩ := root_lst (w := w) (Q := Q) (rr := x) (v' := v) (ds' := ds) k hx hr
      have f := allD_ok hvs ha
      cases f with
      | cons f1 f2 =>
        cases f2
        obtain ⟨k1, x1⟩ := h4 _ _ (h3.append (.cons f1 .nil))
        exact ⟨p, ys, _, rfl, rfl, h2, by rw [h3.length]; exact hz, q _ _ _ x1 k1 .non⟩
    · exact q.elim
  · exact q.elim
def popG (x : R) (rs : List R) : Env → Rs R := fun e => match rootOf e x, rs with
  | some (.lst ds), [] => match ds[ds.length - 1]? with
    | some d => .ok (.d d) (putR e x (.lst ds.dropLast))
    | none => .stk
  | _, _ => .stk
theorem FzAll.dropLast {K : PySem.W.Frag} {G : Hp} {vs : List V} {ds : List Dt} (h : FzAll K G vs ds) : FzAll K G vs.dropLast ds.dropLast := by
  rw [List.dropLast_eq_take, List.dropLast_eq_take, h.length]
  exact h.take _
theorem pop_ok {C : Cf} {w : WX} : LmG C w rPop popG := fun σ W e H v x vs rs Q k hx hvs q => by
  unfold popG at q
  split at q
  · rename_i ds hr
    cases hvs
    split at q
    · rename_i d hd
      obtain ⟨p, ys, rfl, h2, h3, h4⟩ := root_lst (w := w) (Q := Q) (rr := x) (v' := v) (ds' := ds) k hx hr
      obtain ⟨k1, x1⟩ := h4 _ _ h3.dropLast
      obtain ⟨y, g1, g2⟩ := h3.get hd
      exact ⟨p, ys, y, rfl, rfl, h2, by rw [h3.length]; exact g1, q _ _ _ x1 k1 (Fz.sub x1 _ _ g2)⟩
    · exact q.elim
  · exact q.elim
/-- l.pop(i) -/
def popAtG (x : R) (rs : List R) : Env → Rs R := fun e => match rootOf e x, rs with
  | some (.lst ds), [.d (.int i)] => if -(2 ^ 63) ≤ i ∧ i < 2 ^ 63 then match seqIndex? i ds.length with
    | some j => match ds[j]? with
      | some d => .ok (.d d) (putR e x (.lst (ds.eraseIdx j)))
      | none => .stk
    | none => .stk else .stk
  | _, _ => .stk
theorem FzAll.eraseIdx {K : PySem.W.Frag} {G : Hp} : ∀ {vs : List V} {ds : List Dt} (i : Nat), FzAll K G vs ds → FzAll K G (vs.eraseIdx i) (ds.eraseIdx i)
  | _, _, _, .nil => .nil
  | _, _, 0, .cons _ t => t
  | _, _, i + 1, .cons h t => .cons h (FzAll.eraseIdx i t)
theorem popAt_ok {C : Cf} {w : WX} : LmG C w rPopAt popAtG := fun σ W e H v x vs rs Q k hx hvs q => by
  unfold popAtG at q
  split at q
  · rename_i ds i hr
    obtain ⟨u, rfl, hu⟩ := hvs.one
    cases vl_int hu
    split at q
    · rename_i hb
      split at q
      · rename_i j hj
        split at q
        · rename_i d hd
          obtain ⟨p, ys, rfl, h2, h3, h4⟩ := root_lst (w := w) (Q := Q) (rr := x) (v' := v) (ds' := ds) k hx hr
          obtain ⟨k1, x1⟩ := h4 _ _ (h3.eraseIdx j)
          obtain ⟨y, g1, g2⟩ := h3.get hd
          exact ⟨p, ys, i, j, y, rfl, rfl, h2, hb.1, hb.2, by rw [h3.length]; exact hj, g1, q _ _ _ x1 k1 (Fz.sub x1 _ _ g2)⟩
        · exact q.elim
      · exact q.elim
    · exact q.elim
  · exact q.elim
/-- l.extend(m) -/
def extG (x : R) (rs : List R) : Env → Rs R := fun e => match rootOf e x, rs with
  | some (.lst ds), [y] => match lof e y with
    | some es => if ds.length + es.length ≤ sizeLine then .ok (.d .none) (putR e x (.lst (ds ++ es))) else .stk
    | none => .stk
  | _, _ => .stk
theorem ext_ok {C : Cf} {w : WX} : LmG C w rExtend extG := fun σ W e H v x vs rs Q k hx hvs q => by
  unfold extG at q
  split at q
  · rename_i ds y hr
    obtain ⟨u, rfl, hu⟩ := hvs.one
    split at q
    · rename_i es hl
      split at q
      · rename_i hz
        obtain ⟨p, ys, rfl, h2, h3, h4⟩ := root_lst (w := w) (Q := Q) (rr := x) (v' := v) (ds' := ds) k hx hr
        obtain ⟨p2, zs, rfl, g1, g2⟩ := lof_ok k hu hl
        obtain ⟨k1, x1⟩ := h4 _ _ (h3.append g2)
        exact ⟨p, p2, ys, zs, rfl, rfl, h2, g1, by rw [h3.length, g2.length]; exact hz, q _ _ _ x1 k1 .non⟩
      · exact q.elim
    · exact q.elim
  · exact q.elim
/-! ### a name whose root is data from now on -/
def vrF (i : Nat) : Env → Rs R := fun e => match e.sl[i]? with
  | some (some (.fro r)) => .ok r e
  | some (some (.own (.lst ds))) => .ok (.d (.list ds)) ⟨e.sl.set i (some (.fro (.d (.list ds)))), e.hs⟩
  | _ => .stk
/-- a slot's root is let go -/
theorem Ok.drop {C : Cf} {W : List Addr} {e : Env} {σ : L2.St} {H : Hp} (k : Ok C W e σ H) (sv : Option SV) {i : Nat} (hsv : ∀ z, sv = some z → ∃ v, σ[i]? = some (some v) ∧ SvOk C W H v z ∧ ∀ o, z ≠ .own o) : Ok C W ⟨e.sl.set i sv, e.hs⟩ σ H where
  keep := k.keep
  fresh := k.fresh
  sub := k.sub
  live := k.live
  has := k.has
  nd := k.nd
  tabs := k.tabs
  hlen := k.hlen
  hnds := k.hnds
  len := by simp [k.len]
  slot := fun j s h => by
    rcases get_set h with ⟨rfl, q⟩ | ⟨z, q⟩
    · obtain ⟨v, h1, h2, _⟩ := hsv s q.symm
      exact ⟨v, h1, h2⟩
    · exact k.slot j s q
  dist := fun a b oa ob u h1 h2 h3 h4 => by
    rcases get_set h1 with ⟨_, q⟩ | ⟨z1, q1⟩
    · obtain ⟨v, _, _, n⟩ := hsv _ q.symm
      exact absurd rfl (n oa)
    · rcases get_set h2 with ⟨_, q⟩ | ⟨z2, q2⟩
      · obtain ⟨v, _, _, n⟩ := hsv _ q.symm
        exact absurd rfl (n ob)
      · exact k.dist a b oa ob u q1 q2 h3 h4
theorem ev_varF {X : Cx} {C : Cf} {w : WX} {pos : Pos} {i : Nat} {x : Str} (hN : X.N[i]? = some x := by rfl) (hv : Vis X.env.scope x := by first | exact .inl rfl | exact .inr (.inl rfl) | exact .inr (.inr rfl)) (hd : (x == ("__debug__" : Str)) = false := by decide) (hcd : (x == ("__classdict__" : Str)) = false := by decide) :
    PE X (.Name x pos) (tOf C w (vrF i)) := PE.imp (pe_var (i := i) hN hv hd hcd) fun σ H Q ⟨W, e, k, h⟩ => by
  unfold vrF at h
  split at h
  · rename_i r hs
    obtain ⟨v, h1, h2, h3⟩ := k.slot i _ hs
    exact ⟨v, h1, h _ _ _ Ext.refl k (h3.any h2)⟩
  · rename_i ds hs
    obtain ⟨v, h1, p, rfl, h2, h3, vs, h4, h5⟩ := k.slot i _ hs
    have k1 := k.drop none (i := i) (fun z y => nomatch y)
    have lone : ∀ (j : Nat) (oj : Ob), (e.sl.set i none)[j]? = some (some (SV.own oj)) → σ[j]? ≠ some (some (V.ref p)) := fun j oj hj y => by
      rcases get_set hj with ⟨_, q⟩ | ⟨z, q⟩
      · cases q
      · exact z (k.dist j i _ _ _ q hs y h1)
    obtain ⟨k2, x2⟩ := k1.freeze h3 lone
    have hp : msk (rmv p W) H p = some (.lst vs) := by rw [msk_out (fun z => (mem_rmv.mp z).2 rfl)]; exact h4
    have fz : Fz C.K (msk (rmv p W) H) (.ref p) (.list ds) := .lst hp (Fz.subAll x2 _ _ h5)
    have k3 := k2.drop (some (.fro (.d (.list ds)))) (i := i) (fun z y => by cases y; exact ⟨_, h1, ⟨fun j z => (nomatch z), fz⟩, fun o z => (nomatch z)⟩)
    have e3 : (e.sl.set i none).set i (some (SV.fro (.d (.list ds)))) = e.sl.set i (some (.fro (.d (.list ds)))) := List.set_set ..
    refine ⟨_, h1, h _ _ _ x2 ?_ fz⟩
    rw [← e3]; exact k3
  · exact h.elim
end Ev

set_option Elab.async false
set_option linter.all false
set_option maxRecDepth 100000
namespace Ev
open PySem L2
theorem Vls.three {C : Cf} {W : List Addr} {σ : L2.St} {H : Hp} {vs : List V} {r r' r3 : R} (h : Vls C W σ H vs [r, r', r3]) : ∃ v v' v3, vs = [v, v', v3] ∧ Vl C W σ H v r ∧ Vl C W σ H v' r' ∧ Vl C W σ H v3 r3 := by
  cases h with
  | cons h t =>
    obtain ⟨v', v3, rfl, h', h3⟩ := t.two
    exact ⟨_, _, _, rfl, h, h', h3⟩
/-! ### statements -/
def bS {α : Type} (f : Env → Rs α) (g : α → Env → Sr) : Env → Sr := fun e => match f e with
  | .ok a e' => g a e'
  | .err c e' => .err c e'
  | .stk => .stk
section
variable {C : Cf} {w : WX} {σ : L2.St} {H : Hp} {D : Ends} {W : List Addr} {e : Env}
theorem tOf_bS {f : Env → Rs R} {g : R → Env → Sr} {P : VK} (k : Ok C W e σ H) (h : pS C w σ W H D (bS f g e))
    (n : ∀ v r W' e' H', Ext W H W' H' → Ok C W' e' σ H' → Vl C W' σ H' v r → pS C w σ W' H' D (g r e') → P v H') : tOf C w f σ H P := by
  refine ⟨W, e, k, ?_⟩
  unfold bS at h
  cases q : f e with
  | ok r e' =>
    rw [q] at h
    exact fun v W' H' x k' hv => n v r W' e' H' x k' hv (pS.ext h x)
  | err c e' => rw [q] at h; exact fun W' H' => h σ W' H'
  | stk => rw [q] at h; exact h
theorem tNew_bS {f : Env → Rs Ob} {g : Ob → Env → Sr} {P : VK} (k : Ok C W e σ H) (h : pS C w σ W H D (bS f g e))
    (n : ∀ p o W' e' H', Ext W H W' H' → Ok C W' e' σ H' → Lone C W' e' σ p → ObOk C.K W' H' p o → pS C w σ W' H' D (g o e') → P (.ref p) H') : tNew C w f σ H P := by
  refine ⟨W, e, k, ?_⟩
  unfold bS at h
  cases q : f e with
  | ok r e' =>
    rw [q] at h
    exact fun p W' H' x k' hl ho => n p r W' e' H' x k' hl ho (pS.ext h x)
  | err c e' => rw [q] at h; exact fun W' H' => h σ W' H'
  | stk => rw [q] at h; exact h
theorem ttOf_bS {f : Env → Rs Bool} {g : Bool → Env → Sr} {P : Bool → Hp → Prop} (k : Ok C W e σ H) (h : pS C w σ W H D (bS f g e))
    (n : ∀ b W' e' H', Ext W H W' H' → Ok C W' e' σ H' → pS C w σ W' H' D (g b e') → P b H') : ttOf C w f σ H P := by
  refine ⟨W, e, k, ?_⟩
  unfold bS at h
  cases q : f e with
  | ok r e' =>
    rw [q] at h
    exact fun W' H' x k' => n r W' e' H' x k' (pS.ext h x)
  | err c e' => rw [q] at h; exact fun W' H' => h σ W' H'
  | stk => rw [q] at h; exact h
theorem taOf_bS {f : Env → Rs (List R)} {g : List R → Env → Sr} {P : List V → Hp → Prop} (k : Ok C W e σ H) (h : pS C w σ W H D (bS f g e))
    (n : ∀ v r W' e' H', Ext W H W' H' → Ok C W' e' σ H' → Vls C W' σ H' v r → pS C w σ W' H' D (g r e') → P v H') : taOf C w f σ H P := by
  refine ⟨W, e, k, ?_⟩
  unfold bS at h
  cases q : f e with
  | ok r e' =>
    rw [q] at h
    exact fun v W' H' x k' hv => n v r W' e' H' x k' hv (pS.ext h x)
  | err c e' => rw [q] at h; exact fun W' H' => h σ W' H'
  | stk => rw [q] at h; exact h
theorem pS.sig {σ' : L2.St} {r : Sr} (h : pS C w σ W H D r) : pS C w σ' W H D r := by
  cases r <;> exact h
/-- another end -/
theorem pS.imp {D' : Ends} {r : Sr} (h : pS C w σ W H D r) (hn : ∀ e' σ' W' H', r = .nx e' → Ext W H W' H' → Ok C W' e' σ' H' → D.nx σ' H' → D'.nx σ' H') (hr : ∀ v H', D.rt v H' → D'.rt v H') (hb : ∀ σ' H', D.bk σ' H' → D'.bk σ' H') (hc : ∀ σ' H', D.ct σ' H' → D'.ct σ' H') : pS C w σ W H D' r := by
  cases r with
  | nx e' => exact fun σ' W' H' x k => hn e' σ' W' H' rfl x k (h σ' W' H' x k)
  | ret r e' => exact fun v σ' W' H' x k hv => hr _ _ (h v σ' W' H' x k hv)
  | rto b o e' => exact fun v p σ' W' H' x k h1 h2 h3 => hr _ _ (h v p σ' W' H' x k h1 h2 h3)
  | bk e' => exact fun σ' W' H' x k => hb _ _ (h σ' W' H' x k)
  | ct e' => exact fun σ' W' H' x k => hc _ _ (h σ' W' H' x k)
  | err c e' => exact h
  | stk => exact h
end
def skS : Env → Sr := .nx
def sqS (f g : Env → Sr) : Env → Sr := fun e => match f e with
  | .nx e' => g e'
  | r => r
def xS (f : Env → Rs R) : Env → Sr := bS f fun _ => .nx
def rtS (f : Env → Rs R) : Env → Sr := bS f fun r e => match r with
  | .loc _ => .stk
  | r => .ret r e
def rnS : Env → Sr := fun e => .ret (.d .none) e
def ifS (c : Env → Rs Bool) (f g : Env → Sr) : Env → Sr := bS c fun b => if b = true then f else g
def bkS : Env → Sr := .bk
def ctS : Env → Sr := .ct
section
variable {X : Cx} {C : Cf} {w : WX} {pos : Pos} {st : Stmt} {rest p q : List Stmt} {a b c e : Expr} {f g : Env → Sr} {fa fb : Env → Rs R} {tc : Env → Rs Bool}
theorem es_nil : PSs X [] (tsOf C w skS) := PSs.imp pss_nil fun D σ H ⟨W, e, k, h⟩ => h _ _ _ Ext.refl k
theorem es_cons (h1 : PS X st (tsOf C w f)) (h2 : PSs X rest (tsOf C w g)) : PSs X (st :: rest) (tsOf C w (sqS f g)) := PSs.imp (pss_cons h1 h2) fun D σ H ⟨W, e, k, h⟩ => by
  refine ⟨W, e, k, ?_⟩
  unfold sqS at h
  cases q : f e with
  | nx e' => rw [q] at h; exact fun σ' W' H' x k' => ⟨W', e', k', (pS.ext (r := g e') h x).sig⟩
  | ret r e' => rw [q] at h; exact h
  | rto b o e' => rw [q] at h; exact h
  | bk e' => rw [q] at h; exact h
  | ct e' => rw [q] at h; exact h
  | err c e' => rw [q] at h; exact h
  | stk => rw [q] at h; exact h
theorem es_one (h1 : PS X st (tsOf C w f)) : PSs X [st] (tsOf C w f) := pss_one h1
theorem et_pass : PS X (.Pass pos) (tsOf C w skS) := PS.imp ps_pass fun D σ H ⟨W, e, k, h⟩ => h _ _ _ Ext.refl k
theorem es_break : PS X (.Break pos) (tsOf C w bkS) := PS.imp ps_break fun D σ H ⟨W, e, k, h⟩ => h _ _ _ Ext.refl k
theorem es_cont : PS X (.Continue pos) (tsOf C w ctS) := PS.imp ps_continue fun D σ H ⟨W, e, k, h⟩ => h _ _ _ Ext.refl k
theorem es_expr (he : PE X e (tOf C w fa)) (hs : swapsWith e none pos.line X.env = pure false := by rfl) : PS X (.Expr e pos) (tsOf C w (xS fa)) := PS.imp (ps_expr he hs) fun D σ H ⟨W, e, k, h⟩ =>
  tOf_bS k h fun v r W1 e1 H1 x1 k1 hv h1 => h1 _ _ _ Ext.refl k1
theorem es_ret (he : PE X e (tOf C w fa)) : PS X (.Return (some e) pos) (tsOf C w (rtS fa)) := PS.imp (ps_ret he) fun D σ H ⟨W, e, k, h⟩ =>
  tOf_bS k h fun v r W1 e1 H1 x1 k1 hv h1 => by
    split at h1
    · exact h1.elim
    · exact h1 _ _ _ _ Ext.refl k1 hv
theorem es_retN : PS X (.Return none pos) (tsOf C w rnS) := PS.imp ps_retN fun D σ H ⟨W, e, k, h⟩ => h _ _ _ _ Ext.refl k .non
theorem es_if (hc : PT X c (ttOf C w tc)) (ha : PSs X p (tsOf C w f)) (hb : PSs X q (tsOf C w g)) : PS X (.If c p q pos) (tsOf C w (ifS tc f g)) := PS.imp (ps_if hc ha hb) fun D σ H ⟨W, e, k, h⟩ =>
  ttOf_bS k h fun b W1 e1 H1 x1 k1 h1 => by
    cases b
    · exact iteF ⟨_, _, k1, h1⟩
    · exact iteT ⟨_, _, k1, h1⟩
end
/-! ### stores -/
def setR (i : Nat) : R → Env → Option Env := fun r e => if i < e.sl.length then match r with
  | .loc _ => none
  | r => some ⟨e.sl.set i (some (.fro r)), e.hs⟩ else none
/-- but for these slots -/
def But (is : List Nat) (σ σ' : L2.St) : Prop := σ'.length = σ.length ∧ ∀ j, j ∉ is → σ'[j]? = σ[j]?
theorem But.refl {is : List Nat} {σ : L2.St} : But is σ σ := ⟨rfl, fun _ _ => rfl⟩
def tgOf (C : Cf) (is : List Nat) (f : R → Env → Option Env) : TG := fun v σ H Q => ∃ W e r e', Ok C W e σ H ∧ Vl C W σ H v r ∧ f r e = some e' ∧ ∀ σ' W' H', Ext W H W' H' → Ok C W' e' σ' H' → But is σ σ' → Q σ' H'
def tgsOf (C : Cf) (is : List Nat) (f : List Dt → Env → Option Env) : TGs := fun vs σ H Q => ∃ W e ds e', Ok C W e σ H ∧ FzAll C.K (msk W H) vs ds ∧ f ds e = some e' ∧ ∀ σ' W' H', Ext W H W' H' → Ok C W' e' σ' H' → But is σ σ' → Q σ' H'
theorem PG.imp {X : Cx} {e : Expr} {t t' : TG} (h : PG X e t) (i : ∀ v σ H Q, t' v σ H Q → t v σ H Q) : PG X e t' := ⟨fun pins s σ H v u Q I r q => h.run pins s σ H v u Q I r (i v σ H Q q)⟩
theorem PGs.imp {X : Cx} {e : List Expr} {t t' : TGs} (h : PGs X e t) (i : ∀ v σ H Q, t' v σ H Q → t v σ H Q) : PGs X e t' := ⟨fun pins s σ H v u Q I r q => h.run pins s σ H v u Q I r (i v σ H Q q)⟩
def nilG : List Dt → Env → Option Env := fun ds e => match ds with
  | [] => some e
  | _ => none
def conG (f : R → Env → Option Env) (g : List Dt → Env → Option Env) : List Dt → Env → Option Env := fun ds e => match ds with
  | d :: ds => match f (.d d) e with
    | some e' => g ds e'
    | none => none
  | [] => none
def tpG (n : Nat) (g : List Dt → Env → Option Env) : R → Env → Option Env := fun r e => match tof r with
  | some ds => if ds.length = n then g ds e else none
  | none => none
def lsG (n : Nat) (g : List Dt → Env → Option Env) : R → Env → Option Env := fun r e => match lof e r with
  | some ds => if ds.length = n then g ds e else none
  | none => none
section
variable {X : Cx} {C : Cf} {w : WX} {pos : Pos} {a : Expr} {es : List Expr} {f : R → Env → Option Env} {g : List Dt → Env → Option Env}
theorem setR_ok {W : List Addr} {e e' : Env} {σ : L2.St} {H : Hp} {v : V} {r : R} {i : Nat} (k : Ok C W e σ H) (h : Vl C W σ H v r) (q : setR i r e = some e') : Ok C W e' (σ.set i (some v)) H := by
  unfold setR at q
  split at q
  · rename_i hi
    split at q
    · cases q
    · rename_i hr
      cases q
      exact k.set h (fun j z => hr j z) (by rw [k.len]; exact hi)
  · cases q
theorem eg_name (ct : Ct X C w) {i : Nat} {x : Str} (hi : X.N[i]? = some x := by rfl) (hx : Loc X.env.scope x := by first | exact .inl rfl | exact .inr rfl) (hf : X.fn x = true ∨ X.env.scope.names.lookup x = some .local := by first | exact .inl rfl | exact .inr rfl) : PG X (.Name x pos) (tgOf C [i] (setR i)) :=
  PG.imp (pg_name ct.nd hi hx hf) fun v σ H Q ⟨W, e, r, e', k, hv, q, h⟩ => h _ _ _ Ext.refl (setR_ok k hv q) ⟨List.length_set .., fun j hj => List.getElem?_set_ne (fun z => hj (by rw [← z]; simp))⟩
theorem eg_nil : PGs X [] (tgsOf C [] nilG) := PGs.imp pgs_nil fun vs σ H Q ⟨W, e, ds, e', k, hv, q, h⟩ => by
  unfold nilG at q
  split at q
  · cases q
    exact ⟨tup_nil hv, h _ _ _ Ext.refl k But.refl⟩
  · cases q
theorem eg_cons {is is' : List Nat} (h1 : PG X a (tgOf C is f)) (h2 : PGs X es (tgsOf C is' g)) (hs : (assignEach (a :: es) X.env).map (·.2) = assign a X.env :: (assignEach es X.env).map (·.2) := by rfl) : PGs X (a :: es) (tgsOf C (is ++ is') (conG f g)) :=
  PGs.imp (pgs_cons h1 h2 hs) fun vs σ H Q ⟨W, e, ds, e', k, hv, q, h⟩ => by
    unfold conG at q
    split at q
    · rename_i d ds
      split at q
      · rename_i e1 q1
        cases hv with
        | cons v1 vt => exact ⟨_, _, rfl, W, e, .d d, e1, k, v1, q1, fun σ1 W1 H1 x1 k1 b1 => ⟨W1, e1, ds, e', k1, Fz.subAll x1 _ _ vt, q, fun σ2 W2 H2 x2 k2 b2 => h _ _ _ (x1.trans x2) k2 ⟨b2.1.trans b1.1, fun j hj => by
            rw [List.mem_append, not_or] at hj
            exact (b2.2 j hj.2).trans (b1.2 j hj.1)⟩⟩⟩
      · cases q
    · cases q
theorem eg_tup (ct : Ct X C w) {kk n : Nat} {is : List Nat} (h1 : PGs X es (tgsOf C is g)) (hn : (assignEach es X.env).length = n := by rfl) (hst : (assignEach es X.env).findIdx? (·.1) = none := by rfl) : PG X (.Tuple es kk pos) (tgOf C is (tpG n g)) :=
  PG.imp (pg_tup ct.calm h1 hn hst) fun v σ H Q ⟨W, e, r, e', k, hv, q, h⟩ => by
    unfold tpG at q
    split at q
    · rename_i ds hd
      split at q
      · rename_i hz
        obtain ⟨p, vs, rfl, s1, f1⟩ := tof_ok hv hd
        exact ⟨p, vs, rfl, by rw [← ct.K]; exact SqT.sub s1 (Sub.msk _ _), by rw [f1.length]; exact hz, W, e, ds, e', k, f1, q, h⟩
      · cases q
    · cases q
theorem eg_lst (ct : Ct X C w) {kk n : Nat} {is : List Nat} (h1 : PGs X es (tgsOf C is g)) (hn : (assignEach es X.env).length = n := by rfl) (hst : (assignEach es X.env).findIdx? (·.1) = none := by rfl) : PG X (.Tuple es kk pos) (tgOf C is (lsG n g)) :=
  PG.imp (pg_lst ct.calm h1 hn hst) fun v σ H Q ⟨W, e, r, e', k, hv, q, h⟩ => by
    unfold lsG at q
    split at q
    · rename_i ds hd
      split at q
      · rename_i hz
        obtain ⟨p, vs, rfl, s1, f1⟩ := lof_ok k hv hd
        exact ⟨p, vs, rfl, .of s1, by rw [f1.length]; exact hz, W, e, ds, e', k, f1, q, h⟩
      · cases q
    · cases q
end
def asS (f : Env → Rs R) (t : R → Env → Option Env) : Env → Sr := bS f fun r e => match t r e with
  | some e' => .nx e'
  | none => .stk
def anS (i : Nat) (f : Env → Rs Ob) : Env → Sr := bS f fun o e => if i < e.sl.length then .nx ⟨e.sl.set i (some (.own o)), e.hs⟩ else .stk
/-- a, b = (x, y) -/
def prS (i j : Nat) (f : Env → Rs (List R)) : Env → Sr := bS f fun rs e => match rs with
  | [x, y] => match setR i x e with
    | some e1 => match setR j y e1 with
      | some e2 => .nx e2
      | none => .stk
    | none => .stk
  | _ => .stk
def pr3S (i j l : Nat) (f : Env → Rs (List R)) : Env → Sr := bS f fun rs e => match rs with
  | [x, y, z] => match setR i x e with
    | some e1 => match setR j y e1 with
      | some e2 => match setR l z e2 with
        | some e3 => .nx e3
        | none => .stk
      | none => .stk
    | none => .stk
  | _ => .stk
def agS (i : Nat) (f : Env → Rs R) (g : R → R → Env → Rs R) : Env → Sr := fun e => bS (bnd (vr i) fun x => bnd f fun y => g x y) (fun r e => match setR i r e with
  | some e' => .nx e'
  | none => .stk) e
theorem Vl.setN {C : Cf} {W : List Addr} {σ σ' : L2.St} {H : Hp} {v : V} {r : R} {i : Nat} {e e' : Env} {s : R} (q : setR i s e = some e') (h : Vl C W σ H v r) (n : ∀ j, r ≠ .loc j) : Vl C W σ' H v r := h.any n
section
variable {X : Cx} {C : Cf} {w : WX} {pos : Pos} {a b c tg e : Expr} {fa : Env → Rs R} {fs : Env → Rs (List R)} {t : R → Env → Option Env}
theorem es_asg {is : List Nat} (he : PE X e (tOf C w fa)) (hg : PG X tg (tgOf C is t)) (hs : swapsWithSole [tg] e pos.line X.env = pure false := by rfl) (hw : swappedStores [tg] e X.env = pure none := by rfl)
    (h1 : (assignEach [tg] X.env).map (·.2) = [assign tg X.env] := by rfl) : PS X (.Assign [tg] e pos) (tsOf C w (asS fa t)) := PS.imp (ps_asg he hg hs hw h1) fun D σ H ⟨W, e, k, h⟩ =>
  tOf_bS k h fun v r W1 e1 H1 x1 k1 hv h1 => by
    split at h1
    · rename_i e' q
      exact ⟨W1, e1, r, e', k1, hv, q, fun σ' W' H' x k' _ => h1 σ' W' H' x k'⟩
    · exact h1.elim
theorem es_new (ct : Ct X C w) {i : Nat} {x : Str} {pos' : Pos} {fo : Env → Rs Ob} (he : PE X e (tNew C w fo)) (hi : X.N[i]? = some x := by rfl) (hx : Loc X.env.scope x := by first | exact .inl rfl | exact .inr rfl) (hs : swapsWith e (some (.Name x pos')) pos.line X.env = pure false := by rfl)
    (hf : X.fn x = true ∨ X.env.scope.names.lookup x = some .local := by first | exact .inl rfl | exact .inr rfl) : PS X (.Assign [.Name x pos'] e pos) (tsOf C w (anS i fo)) := PS.imp (ps_set ct.nd hi hx he hs hf) fun D σ H ⟨W, e, k, h⟩ =>
  tNew_bS k h fun p o W1 e1 H1 x1 k1 hl ho h1 => by
    split at h1
    · rename_i hi
      exact h1 _ _ _ Ext.refl (k1.setOwn hl.1 hl.2.1 hl.2.2 ho (by rw [k1.len]; exact hi))
    · exact h1.elim
theorem vl_par {W : List Addr} {e e' : Env} {σ : L2.St} {H : Hp} {v : V} {r : R} {i j : Nat} (q : setR j r e' = some e) (σ' : L2.St) (h : Vl C W σ H v r) : Vl C W σ' H v r := by
  refine h.any fun l z => ?_
  subst z
  unfold setR at q
  split at q <;> cases q
theorem es_par3 (ct : Ct X C w) {i j l : Nat} {x y z : Str} {px py pz pt : Pos} {kt k2 pt2} (ha : PA X [a, b, c] (taOf C w fs)) (hij : i ≠ j := by decide) (hil : i ≠ l := by decide) (hjl : j ≠ l := by decide) (hi : X.N[i]? = some x := by rfl) (hj : X.N[j]? = some y := by rfl) (hl : X.N[l]? = some z := by rfl)
    (hx : X.env.scope.names.lookup x = some .local := by rfl) (hy : X.env.scope.names.lookup y = some .local := by rfl) (hz : X.env.scope.names.lookup z = some .local := by rfl)
    (hw : swappedStores [.Tuple [.Name x px, .Name y py, .Name z pz] kt pt] (.Tuple [a, b, c] k2 pt2) X.env = pure (some [x, y, z]) := by rfl)
    (hs : swapsWithSole [.Tuple [.Name x px, .Name y py, .Name z pz] kt pt] (.Tuple [a, b, c] k2 pt2) pos.line X.env = pure false := by rfl) :
    PS X (.Assign [.Tuple [.Name x px, .Name y py, .Name z pz] kt pt] (.Tuple [a, b, c] k2 pt2) pos) (tsOf C w (pr3S i j l fs)) := PS.imp (ps_par3 ct.calm ct.nd hi hj hl hij hil hjl hx hy hz ha hw hs) fun D σ H ⟨W, e, k, h⟩ =>
  taOf_bS k h fun vs rs W1 e1 H1 x1 k1 hv h1 => by
    split at h1
    · obtain ⟨v, v', v3, rfl, h2, h3, h4⟩ := hv.three
      split at h1
      · rename_i e2 q2
        split at h1
        · rename_i e3 q3
          split at h1
          · rename_i e4 q4
            exact ⟨v, v', v3, rfl, h1 _ _ _ Ext.refl (setR_ok (setR_ok (setR_ok k1 h2 q2) (vl_par (i := 0) q3 _ h3) q3) (vl_par (i := 0) q4 _ h4) q4)⟩
          · exact h1.elim
        · exact h1.elim
      · exact h1.elim
    · exact h1.elim
/-- i op= .. -/
theorem es_aug (ct : Ct X C w) {i : Nat} {x : Str} {op : Operator} {r : R2} {g : R → R → Env → Rs R} {pos' : Pos} (ho : OpR X (inplaceOp op) r) (hg : OpG C w r g) (he : PE X e (tOf C w fa)) (hi : X.N[i]? = some x := by rfl) (hx : Loc X.env.scope x := by first | exact .inl rfl | exact .inr rfl)
    (hf : X.fn x = true ∨ X.env.scope.names.lookup x = some .local := by first | exact .inl rfl | exact .inr rfl) : PS X (.AugAssign (.Name x pos') op e pos) (tsOf C w (agS i fa g)) := PS.imp (ps_aug (ti := r) ct.nd hi hx he (fun pins s σ H x y v u Q I rx ry h => augR ho I rx ry h) hf) fun D σ H ⟨W, e, k, h⟩ => by
  have hs : ∃ v x, σ[i]? = some (some v) ∧ Vl C W σ H v x ∧ pS C w σ W H D (bS (bnd fa fun y => g x y) (fun r e => match setR i r e with
      | some e' => .nx e'
      | none => .stk) e) := by
    unfold agS bS bnd vr at h
    cases q : e.sl[i]? with
    | none => rw [q] at h; exact h.elim
    | some o =>
      cases o with
      | none => rw [q] at h; exact h.elim
      | some sv =>
        obtain ⟨v, h1, h2⟩ := k.slot i _ q
        cases sv with
        | fro r => rw [q] at h; exact ⟨v, r, h1, h2.2.any h2.1, h⟩
        | own o => rw [q] at h; exact ⟨v, .loc i, h1, h1, h⟩
  obtain ⟨v, x, h1, h2, h3⟩ := hs
  refine ⟨v, h1, W, e, k, ?_⟩
  unfold bS bnd at h3
  cases q : fa e with
  | stk => rw [q] at h3; exact h3
  | err c e' => rw [q] at h3; exact fun W' H' => h3 σ W' H'
  | ok y e1 =>
    rw [q] at h3
    refine fun u W1 H1 x1 k1 hu => hg σ W1 e1 H1 v u x y _ k1 (h2.ext x1) hu ?_
    replace h3 := pS.ext h3 x1
    dsimp only at h3
    revert h3
    cases g x y e1 with
    | stk => exact fun z => z
    | err c e' => exact fun z W' H' => z σ W' H'
    | ok r e2 =>
      intro h3 u2 W2 H2 x2 k2 hu2
      replace h3 := pS.ext h3 x2
      dsimp only at h3
      split at h3
      · rename_i e3 q3
        exact h3 _ _ _ Ext.refl (setR_ok k2 hu2 q3)
      · exact h3.elim
theorem es_par (ct : Ct X C w) {i j : Nat} {x y : Str} {px py pt : Pos} {kt k2 pt2} (ha : PA X [a, b] (taOf C w fs)) (hij : i ≠ j := by decide) (hi : X.N[i]? = some x := by rfl) (hj : X.N[j]? = some y := by rfl) (hx : X.env.scope.names.lookup x = some .local := by rfl) (hy : X.env.scope.names.lookup y = some .local := by rfl)
    (hw : swappedStores [.Tuple [.Name x px, .Name y py] kt pt] (.Tuple [a, b] k2 pt2) X.env = pure (some [x, y]) := by rfl)
    (hs : swapsWithSole [.Tuple [.Name x px, .Name y py] kt pt] (.Tuple [a, b] k2 pt2) pos.line X.env = pure false := by rfl) :
    PS X (.Assign [.Tuple [.Name x px, .Name y py] kt pt] (.Tuple [a, b] k2 pt2) pos) (tsOf C w (prS i j fs)) := PS.imp (ps_par ct.calm ct.nd hi hj hij hx hy ha hw hs) fun D σ H ⟨W, e, k, h⟩ =>
  taOf_bS k h fun vs rs W1 e1 H1 x1 k1 hv h1 => by
    split at h1
    · obtain ⟨v, v', rfl, h2, h3⟩ := hv.two
      split at h1
      · rename_i e2 q2
        split at h1
        · rename_i e3 q3
          exact ⟨v, v', rfl, h1 _ _ _ Ext.refl (setR_ok (setR_ok k1 h2 q2) (vl_par (i := 0) q3 _ h3) q3)⟩
        · exact h1.elim
      · exact h1.elim
    · exact h1.elim
end
end Ev

set_option Elab.async false
set_option linter.all false
set_option maxRecDepth 100000
namespace Ev
open PySem L2
/-! ### while -/
def lpS (f g : Env → Sr) : Env → Sr := fun e => match f e with
  | .nx e' => g e'
  | .ct e' => g e'
  | .bk e' => .nx e'
  | r => r
def whS (c : Env → Rs Bool) (f : Env → Sr) : Nat → Env → Sr
  | 0 => fun _ => .stk
  | n + 1 => bS c fun b => if b = true then lpS f (whS c f n) else .nx
open Classical in
noncomputable def whX (c : Env → Rs Bool) (f : Env → Sr) : Env → Sr := fun e => if h : ∃ n, whS c f n e ≠ .stk then whS c f (Classical.choose h) e else .stk
theorem whS_mono {c : Env → Rs Bool} {f : Env → Sr} : ∀ {n m : Nat} {e : Env}, n ≤ m → whS c f n e ≠ .stk → whS c f m e = whS c f n e
  | 0, _, _, _, h => absurd rfl h
  | n + 1, 0, _, hl, _ => absurd hl (by omega)
  | n + 1, m + 1, e, hl, h => by
    simp only [whS, bS] at h ⊢
    cases q : c e with
    | stk => rfl
    | err c' e' => rfl
    | ok b e' =>
      rw [q] at h
      cases b with
      | false => rfl
      | true =>
        simp only [if_true, lpS] at h ⊢
        cases z : f e' with
        | nx e2 => rw [z] at h; exact whS_mono (by omega) h
        | ct e2 => rw [z] at h; exact whS_mono (by omega) h
        | bk e2 => rfl
        | ret r e2 => rfl
        | rto b2 o2 e2 => rfl
        | err c2 e2 => rfl
        | stk => rfl
theorem whX_of {c : Env → Rs Bool} {f : Env → Sr} {n : Nat} {e : Env} (h : whS c f n e ≠ .stk) : whX c f e = whS c f n e := by
  have hx : ∃ n, whS c f n e ≠ .stk := ⟨n, h⟩
  unfold whX
  rw [dif_pos hx]
  have h2 := Classical.choose_spec hx
  rcases Nat.le_total n (Classical.choose hx) with l | l
  · exact whS_mono l h
  · exact (whS_mono l h2).symm
theorem whX_ne {c : Env → Rs Bool} {f : Env → Sr} {e : Env} (h : whX c f e ≠ .stk) : ∃ n, whS c f n e = whX c f e ∧ whS c f n e ≠ .stk := by
  by_cases hx : ∃ n, whS c f n e ≠ .stk
  · obtain ⟨n, hn⟩ := hx
    exact ⟨n, (whX_of hn).symm, hn⟩
  · exfalso
    apply h
    unfold whX
    rw [dif_neg hx]
/-- the loop's own word -/
theorem whX_eq (c : Env → Rs Bool) (f : Env → Sr) (e : Env) : whX c f e = bS c (fun b => if b = true then lpS f (whX c f) else .nx) e := by
  by_cases h : whX c f e = .stk
  · rw [h]
    by_cases h2 : bS c (fun b => if b = true then lpS f (whX c f) else .nx) e = .stk
    · exact h2.symm
    · exfalso
      simp only [bS] at h2
      have key : ∃ n, whS c f n e ≠ .stk := by
        cases q : c e with
        | stk => rw [q] at h2; exact absurd rfl h2
        | err c' e' => exact ⟨1, by simp only [whS, bS, q]; exact fun z => nomatch z⟩
        | ok b e' =>
          rw [q] at h2
          cases b with
          | false => exact ⟨1, by simp only [whS, bS, q]; exact fun z => nomatch z⟩
          | true =>
            simp only [if_true, lpS] at h2
            cases z : f e' with
            | nx e2 => rw [z] at h2; obtain ⟨n, _, hn⟩ := whX_ne h2; exact ⟨n + 1, by simp only [whS, bS, q, if_true, lpS, z]; exact hn⟩
            | ct e2 => rw [z] at h2; obtain ⟨n, _, hn⟩ := whX_ne h2; exact ⟨n + 1, by simp only [whS, bS, q, if_true, lpS, z]; exact hn⟩
            | bk e2 => exact ⟨1, by simp only [whS, bS, q, if_true, lpS, z]; exact fun z => nomatch z⟩
            | ret r e2 => exact ⟨1, by simp only [whS, bS, q, if_true, lpS, z]; exact fun z => nomatch z⟩
            | rto b2 o2 e2 => exact ⟨1, by simp only [whS, bS, q, if_true, lpS, z]; exact fun z => nomatch z⟩
            | err c2 e2 => exact ⟨1, by simp only [whS, bS, q, if_true, lpS, z]; exact fun z => nomatch z⟩
            | stk => rw [z] at h2; exact absurd rfl h2
      obtain ⟨n, hn⟩ := key
      exact hn ((whX_of hn).symm.trans h)
  · obtain ⟨n, h1, h2⟩ := whX_ne h
    rw [← h1]
    cases n with
    | zero => exact absurd rfl h2
    | succ n =>
      simp only [whS, bS] at h2 ⊢
      cases q : c e with
      | stk => rfl
      | err c' e' => rfl
      | ok b e' =>
        rw [q] at h2
        cases b with
        | false => rfl
        | true =>
          simp only [if_true, lpS] at h2 ⊢
          cases z : f e' with
          | nx e2 => rw [z] at h2; exact (whX_of h2).symm
          | ct e2 => rw [z] at h2; exact (whX_of h2).symm
          | bk e2 => rfl
          | ret r e2 => rfl
          | rto b2 o2 e2 => rfl
          | err c2 e2 => rfl
          | stk => rfl
section
variable {C : Cf} {w : WX} {σ : L2.St} {H : Hp} {D : Ends} {W : List Addr} {e : Env}
theorem lp_of {f g : Env → Sr} (h : pS C w σ W H D (lpS f g e)) {N : L2.St → Hp → Prop} (hN : ∀ e' σ' W' H', Ext W H W' H' → Ok C W' e' σ' H' → pS C w σ' W' H' D (g e') → N σ' H') : pS C w σ W H { D with nx := N, ct := N, bk := D.nx } (f e) := by
  unfold lpS at h
  cases q : f e with
  | nx e' => rw [q] at h; exact fun σ' W' H' x k => hN e' σ' W' H' x k ((pS.ext (r := g e') h x).sig)
  | ct e' => rw [q] at h; exact fun σ' W' H' x k => hN e' σ' W' H' x k ((pS.ext (r := g e') h x).sig)
  | bk e' => rw [q] at h; exact h
  | ret r e' => rw [q] at h; exact h
  | rto b o e' => rw [q] at h; exact h
  | err c e' => rw [q] at h; exact h
  | stk => rw [q] at h; exact h
end
/-- what a statement rule asks of the context -/
structure Cs (X : Cx) (C : Cf) (w : WX) : Prop extends Ct X C w where
  hp : PassesOwn (model X.prog X.w) X.A X.env X.xe
section
variable {X : Cx} {C : Cf} {w : WX} {pos : Pos} {body : List Stmt} {c : Expr} {f : Env → Sr} {tc : Env → Rs Bool}
theorem es_while (cs : Cs X C w) (hc : PT X c (ttOf C w tc)) (hb : PSs X body (tsOf C w f)) : PS X (.While c body [] pos) (tsOf C w (whX tc f)) := PS.imp (ps_while cs.hp hc hb) fun D σ H ⟨W, e, k, h⟩ => by
  have hne : whX tc f e ≠ .stk := fun z => by rw [z] at h; exact h
  obtain ⟨n, h1, h2⟩ := whX_ne hne
  rw [← h1] at h
  refine ⟨fun m σ' H' => ∃ W' e', Ok C W' e' σ' H' ∧ pS C w σ' W' H' D (whS tc f m e'), ⟨n, W, e, k, h⟩, ?_⟩
  rintro m σ1 H1 ⟨W1, e1, k1, h1⟩
  cases m with
  | zero => exact h1.elim
  | succ m =>
    refine ttOf_bS k1 h1 fun b W2 e2 H2 x2 k2 h2 => ?_
    cases b with
    | false => exact iteF (h2 _ _ _ Ext.refl k2)
    | true =>
      refine iteT ⟨fun σ' H' => ∃ W' e', Ok C W' e' σ' H' ∧ pS C w σ' W' H' D (whS tc f m e'), fun σ' H' z => ⟨m, Nat.lt_succ_self _, z⟩, W2, e2, k2, ?_⟩
      exact lp_of h2 fun e' σ' W' H' x k p => ⟨W', e', k, p⟩
end
/-! ### for -/
structure ItOk (C : Cf) (J : It) (W : List Addr) (H : Hp) (rs : List R) : Prop where
  nl : ∀ r ∈ rs, ∀ i, r ≠ .loc i
  go : ∀ i W' H', Ext W H W' H' → i < rs.length → J.go i H'
  yld : ∀ (C' : Cf), C'.K = C.K → C'.clo = C.clo → ∀ i r W' e σ H' x H'', Ext W H W' H' → Ok C' W' e σ H' → rs[i]? = some r → J.yld i H' x H'' → ∃ W'', Ext W' H' W'' H'' ∧ Ok C' W'' e σ H'' ∧ Vl C' W'' σ H'' x r
  stop : ∀ W' H', Ext W H W' H' → J.stop rs.length H'
def pI (C : Cf) (w : WX) (σ : L2.St) (W : List Addr) (H : Hp) (Q : It → Hp → Prop) : Rs (List R) → Prop
  | .ok rs e' => ∀ J W' H', Ext W H W' H' → Ok C W' e' σ H' → ItOk C J W' H' rs → Q J H'
  | .err c e' => Wx C w c e' W σ H
  | .stk => False
def iOf (C : Cf) (w : WX) (f : Env → Rs (List R)) : TI := fun σ H Q => ∃ W e, Ok C W e σ H ∧ pI C w σ W H Q (f e)
def forL (t : R → Env → Option Env) (f : Env → Sr) : List R → Env → Sr
  | [] => .nx
  | r :: rs => fun e => match t r e with
    | some e1 => lpS f (forL t f rs) e1
    | none => .stk
def frS (fi : Env → Rs (List R)) (t : R → Env → Option Env) (f : Env → Sr) : Env → Sr := bS fi fun rs => forL t f rs
theorem PI.imp {X : Cx} {tg e : Expr} {t t' : TI} (h : PI X tg e t) (i : ∀ σ H Q, t' σ H Q → t σ H Q) : PI X tg e t' := ⟨fun pins s σ H R I q => h.run pins s σ H R I (i σ H R q)⟩
section
variable {X : Cx} {C : Cf} {w : WX} {pos : Pos} {body : List Stmt} {tg iter l : Expr} {f : Env → Sr} {fi : Env → Rs (List R)} {fa : Env → Rs R} {t : R → Env → Option Env}
theorem es_for {is : List Nat} (cs : Cs X C w) (hi : PI X tg iter (iOf C w fi)) (hg : PG X tg (tgOf C is t)) (hb : PSs X body (tsOf C w f)) (hs : ∀ x, foldedSetIterable iter X.env x = pure x := by intro _; rfl) :
    PS X (.For tg iter body [] pos) (tsOf C w (frS fi t f)) := PS.imp (ps_for cs.hp cs.calm hi hg hb hs) fun D σ H ⟨W, e, k, h⟩ => by
  refine ⟨W, e, k, ?_⟩
  unfold frS bS at h
  cases q : fi e with
  | err c e' => rw [q] at h; exact fun W' H' => h σ W' H'
  | stk => rw [q] at h; exact h
  | ok rs e' =>
    rw [q] at h
    intro J W1 H1 x1 k1 it
    replace h := pS.ext h x1
    refine ⟨fun i m σ' H' => m = rs.length - i ∧ i ≤ rs.length ∧ ∃ W' e2, Ext W1 H1 W' H' ∧ Ok C W' e2 σ' H' ∧ pS C w σ' W' H' D (forL t f (rs.drop i) e2), ⟨rs.length, rfl, Nat.zero_le _, W1, e', Ext.refl, k1, h.sig⟩, ?_⟩
    rintro i m σ2 H2 ⟨rfl, hi, W2, e2, x2, k2, h2⟩
    by_cases hlt : i < rs.length
    · refine .inr ⟨it.go i W2 H2 x2 hlt, fun σ' H' => ∃ W' e2, Ext W1 H1 W' H' ∧ Ok C W' e2 σ' H' ∧ pS C w σ' W' H' D (forL t f (rs.drop (i + 1)) e2), fun σ' H' z => ⟨rs.length - (i + 1), by omega, rfl, hlt, z⟩, fun x H3 y => ?_⟩
      obtain ⟨W3, x3, k3, hv⟩ := it.yld C rfl rfl i rs[i] W2 e2 σ2 H2 x H3 x2 k2 (List.getElem?_eq_getElem hlt) y
      rw [List.drop_eq_getElem_cons hlt] at h2
      replace h2 := pS.ext h2 x3
      simp only [forL] at h2
      split at h2
      · rename_i e4 q4
        refine ⟨W3, e2, rs[i], e4, k3, hv, q4, fun σ5 W5 H5 x5 k5 _ => ⟨W5, e4, k5, ?_⟩⟩
        exact lp_of (pS.ext h2 x5).sig fun e' σ' W' H' x k p => ⟨W', e', ((x2.trans x3).trans x5).trans x, k, p⟩
      · exact h2.elim
    · have e0 : i = rs.length := by omega
      subst e0
      rw [List.drop_length] at h2
      exact .inl ⟨it.stop W2 H2 x2, h2 _ _ _ Ext.refl k2⟩
/-- the items of a list, a tuple, a text -/
def itG (r : R) : Env → Rs (List R) := fun e => match r with
  | .d (.list ds) => .ok (ds.map .d) e
  | .d (.tuple ds) => .ok (ds.map .d) e
  | .d (.str s) => .ok ((tl s).map fun c => txt [c]) e
  | _ => .stk
theorem nl_map {α : Type} (l : List α) (g : α → Dt) : ∀ r ∈ l.map (fun a => R.d (g a)), ∀ i, r ≠ .loc i := fun r hr i z => by
  obtain ⟨a, _, rfl⟩ := List.mem_map.mp hr
  cases z
theorem it_list {W : List Addr} {H : Hp} {a : Addr} {vs : List V} {ds : List Dt} (h : msk W H a = some (.lst vs)) (f : FzAll C.K (msk W H) vs ds) : ItOk C (Itl C.K a) W H (ds.map .d) where
  nl := nl_map ds id
  go := fun i W' H' x hi => by
    have hi' : i < vs.length := by rw [f.length]; simpa using hi
    exact ⟨vs, vs[i], .of ((msk_some (x _ _ h ne_tbl_lst)).2), List.getElem?_eq_getElem hi'⟩
  yld := fun C' hC hcl i r W' e σ H' y H'' x k hr hy => by
    obtain ⟨rfl, hy⟩ := hy
    rw [List.getElem?_map] at hr
    cases q : ds[i]? with
    | none => rw [q] at hr; cases hr
    | some d =>
      rw [q] at hr; cases hr
      obtain ⟨v, h1, h2⟩ := (Fz.subAll x _ _ f).get q
      have e1 := hy vs (.of ((msk_some (x _ _ h ne_tbl_lst)).2))
      rw [h1] at e1; cases e1
      exact ⟨W', Ext.refl, k, by show Fz C'.K _ _ _; rw [hC]; exact h2⟩
  stop := fun W' H' x => ⟨vs, .of ((msk_some (x _ _ h ne_tbl_lst)).2), by rw [f.length, List.length_map]; exact Nat.le_refl _⟩
theorem it_tup {W : List Addr} {H : Hp} {a : Addr} {vs : List V} {ds : List Dt} (h : SqT C.K (msk W H) a vs) (f : FzAll C.K (msk W H) vs ds) : ItOk C (Itt C.K a) W H (ds.map .d) where
  nl := nl_map ds id
  go := fun i W' H' x hi => by
    have hi' : i < vs.length := by rw [f.length]; simpa using hi
    exact ⟨vs, vs[i], SqT.sub (SqT.sub h x) (Sub.msk _ _), List.getElem?_eq_getElem hi'⟩
  yld := fun C' hC hcl i r W' e σ H' y H'' x k hr hy => by
    obtain ⟨rfl, hy⟩ := hy
    rw [List.getElem?_map] at hr
    cases q : ds[i]? with
    | none => rw [q] at hr; cases hr
    | some d =>
      rw [q] at hr; cases hr
      obtain ⟨v, h1, h2⟩ := (Fz.subAll x _ _ f).get q
      have e1 := hy vs (SqT.sub (SqT.sub h x) (Sub.msk _ _))
      rw [h1] at e1; cases e1
      exact ⟨W', Ext.refl, k, by show Fz C'.K _ _ _; rw [hC]; exact h2⟩
  stop := fun W' H' x => ⟨vs, SqT.sub (SqT.sub h x) (Sub.msk _ _), by rw [f.length, List.length_map]; exact Nat.le_refl _⟩
theorem it_str {W : List Addr} {H : Hp} {s : Str} : ItOk C (Its s) W H ((tl s).map fun c => txt [c]) where
  nl := nl_map (tl s) fun c => .str (sOf [c])
  go := fun i W' H' x hi => by
    show i < s.cps.size
    simpa using hi
  yld := fun C' hC hcl i r W' e σ H' y H'' x k hr hy => by
    obtain ⟨rfl, c, h1, h2⟩ := hy
    rw [List.getElem?_map] at hr
    have h1 : (tl s)[i]? = some c := by rw [← h1]; simp
    rw [h1] at hr; cases hr
    refine ⟨W', Ext.refl, k, ?_⟩
    rw [h2]
    exact .str _
  stop := fun W' H' x => by
    show s.cps.size ≤ _
    simp
theorem ei_seq (ct : Ct X C w) (hl : PE X l (tOf C w fa)) : PI X tg l (iOf C w (bnd fa itG)) := ⟨fun pins s σ H Rr I ⟨W, e, k, h⟩ => by
  unfold bnd at h
  have hK := ct.K
  cases q : fa e with
  | stk => rw [q] at h; exact h.elim
  | err c e' => rw [q] at h; exact (pi_list hl).run pins s σ H Rr I ⟨W, e, k, by rw [q]; exact h⟩
  | ok r e' =>
    rw [q] at h
    dsimp only at h
    unfold itG at h
    split at h
    · refine (pi_list hl).run pins s σ H Rr I ⟨W, e, k, ?_⟩
      rw [q]
      intro v W' H' x k' hv
      have hv : Fz C.K (msk W' H') v (.list _) := hv
      cases hv with
      | lst h1 h2 => rw [← hK]; exact ⟨_, rfl, ⟨_, .of (msk_some h1).2⟩, h _ _ _ x k' (it_list h1 h2)⟩
    · refine (pi_tup hl).run pins s σ H Rr I ⟨W, e, k, ?_⟩
      rw [q]
      intro v W' H' x k' hv
      have hv : Fz C.K (msk W' H') v (.tuple _) := hv
      cases hv with
      | tup h1 h2 => rw [← hK]; exact ⟨_, rfl, ⟨_, SqT.sub h1 (Sub.msk _ _)⟩, h _ _ _ x k' (it_tup h1 h2)⟩
    · refine (pi_str hl).run pins s σ H Rr I ⟨W, e, k, ?_⟩
      rw [q]
      intro v W' H' x k' hv
      cases vl_str hv
      exact ⟨_, rfl, h _ _ _ x k' it_str⟩
    · exact h.elim⟩
/-- range -/
def rngL (lo : Int) (n : Nat) : List R := (List.range n).map fun (k : Nat) => R.d (.int (lo + (k : Int)))
theorem it_rng {W : List Addr} {H : Hp} {lo : Int} {n : Nat} : ItOk C (Itr lo n) W H (rngL lo n) where
  nl := nl_map (List.range n) fun (k : Nat) => .int (lo + (k : Int))
  go := fun i W' H' x hi => by
    show i < n
    simpa [rngL] using hi
  yld := fun C' hC hcl i r W' e σ H' y H'' x k hr hy => by
    obtain ⟨rfl, rfl⟩ := hy
    unfold rngL at hr
    rw [List.getElem?_map] at hr
    by_cases hi : i < n
    · rw [List.getElem?_range hi] at hr
      cases hr
      exact ⟨W', Ext.refl, k, .int _⟩
    · rw [List.getElem?_eq_none (by simpa using hi)] at hr; cases hr
  stop := fun W' H' x => by simp [rngL, Itr]
def rgG : List R → Env → Rs (List R) := fun rs e => match rs with
  | [.d (.int j)] => if -(2 ^ 62) ≤ j ∧ j < 2 ^ 62 then .ok (rngL 0 j.toNat) e else .stk
  | _ => .stk
def rgG2 : List R → Env → Rs (List R) := fun rs e => match rs with
  | [.d (.int i), .d (.int j)] => if -(2 ^ 62) ≤ i ∧ i < 2 ^ 62 ∧ -(2 ^ 62) ≤ j ∧ j < 2 ^ 62 then .ok (rngL i (j - i).toNat) e else .stk
  | _ => .stk
theorem taOf_bI {σ : L2.St} {H : Hp} {W : List Addr} {e : Env} {f : Env → Rs (List R)} {g : List R → Env → Rs (List R)} {Q : It → Hp → Prop} {P : List V → Hp → Prop} (k : Ok C W e σ H) (h : pI C w σ W H Q (bnd f g e))
    (n : ∀ v r W' e' H', Ext W H W' H' → Ok C W' e' σ H' → Vls C W' σ H' v r → pI C w σ W' H' Q (g r e') → P v H') : taOf C w f σ H P := by
  refine ⟨W, e, k, ?_⟩
  unfold bnd at h
  cases q : f e with
  | ok r e' =>
    rw [q] at h
    refine fun v W' H' x k' hv => n v r W' e' H' x k' hv ?_
    dsimp only at h
    revert h
    cases g r e' with
    | ok rs e2 => exact fun h J W2 H2 y => h J W2 H2 (x.trans y)
    | err c e2 => exact fun h => Wx.ext h x
    | stk => exact id
  | err c e' => rw [q] at h; exact h
  | stk => rw [q] at h; exact h
theorem ei_range1 {a : Expr} {fs : Env → Rs (List R)} {p : Pos} (hg : Gl X "range") (hm : X.mg "range" = none) (ha : PA X [a] (taOf C w fs)) (hs : starEach [a] X.env = [(false, eval a X.env)] := by rfl) : PI X tg (.Call (.Name "range" p) [a] [] pos) (iOf C w (bnd fs rgG)) :=
  PI.imp (pi_range1 hg hm ha hs) fun σ H Q ⟨W, e, k, h⟩ => taOf_bI k h fun vs rs W1 e1 H1 x1 k1 hv h1 => by
    unfold rgG at h1
    split at h1
    · obtain ⟨v, rfl, h2⟩ := hv.one
      cases vl_int h2
      split at h1
      · rename_i hb
        exact ⟨_, rfl, hb.1, hb.2, h1 _ _ _ Ext.refl k1 it_rng⟩
      · exact h1.elim
    · exact h1.elim
theorem ei_range2 {a b : Expr} {fs : Env → Rs (List R)} {p : Pos} (hg : Gl X "range") (hm : X.mg "range" = none) (ha : PA X [a, b] (taOf C w fs)) (hs : starEach [a, b] X.env = [(false, eval a X.env), (false, eval b X.env)] := by rfl) (hs2 : starEach [b] X.env = [(false, eval b X.env)] := by rfl) : PI X tg (.Call (.Name "range" p) [a, b] [] pos) (iOf C w (bnd fs rgG2)) :=
  PI.imp (pi_range2 hg hm ha hs hs2) fun σ H Q ⟨W, e, k, h⟩ => taOf_bI k h fun vs rs W1 e1 H1 x1 k1 hv h1 => by
    unfold rgG2 at h1
    split at h1
    · obtain ⟨v, v', rfl, h2, h3⟩ := hv.two
      cases vl_int h2; cases vl_int h3
      split at h1
      · rename_i hb
        exact ⟨_, _, rfl, hb, h1 _ _ _ Ext.refl k1 it_rng⟩
      · exact h1.elim
    · exact h1.elim
end
end Ev

set_option Elab.async false
set_option linter.all false
set_option maxRecDepth 100000
namespace Ev
open PySem L2
/-! ### a state behind other work -/
theorem Ok.over {C : Cf} {W W' : List Addr} {e e' : Env} {σ : L2.St} {H H' : Hp} (k : Ok C W e σ H) (Pp : Addr → Prop) (hPp : ∀ b, Pp b → b ∈ W ∧ (b ∉ C.W0 ∨ b ∈ C.as)) (x : Ext W H W' H')
    (st : ∀ b u, H b = some u → ¬ Pp b → (∀ ps, u ≠ .tbl ps) → H' b = some u) (fr : ∀ b ∈ W', b ∈ W ∨ Nw H b) (sb : ∀ b ∈ W, b ∈ W') (lv : ∀ b ∈ W', ∃ o, H' b = some o ∧ Rk o) (tb : LamX.Tabs C.T H')
    (hs : ∀ (i : Nat) (sv : SV), e'.sl[i]? = some (some sv) → (e.sl[i]? = some (some sv) ∧ ∀ p, Pp p → σ[i]? ≠ some (some (.ref p))) ∨ (∃ r, sv = .fro r ∧ e.sl[i]? = some (some sv)) ∨ ∃ ob p, sv = .own ob ∧ Pp p ∧ (∃ ob', e.sl[i]? = some (some (.own ob'))) ∧ σ[i]? = some (some (.ref p)) ∧ ObOk C.K W' H' p ob)
    (hsl : e'.sl.length = e.sl.length) (hl : e'.hs.length = e.hs.length) (hh : ∀ (j : Nat) (a : Addr) (ob : Ob), C.as[j]? = some a → e'.hs[j]? = some ob → (¬ Pp a ∧ e.hs[j]? = some ob) ∨ (Pp a ∧ ObOk C.K W' H' a ob)) : Ok C W' e' σ H' where
  keep := fun b u h1 h2 h3 => by
    have h4 := k.keep b u h1 h2 h3
    refine st b u h4 (fun z => ?_) h3
    obtain ⟨q1, q2⟩ := hPp b z
    rcases q2 with q | q
    · rcases k.fresh b q1 with q' | q'
      · exact q q'
      · obtain ⟨ps, z⟩ := q' _ h1; exact h3 ps z
    · exact h2 q
  fresh := fun b hb => by
    rcases fr b hb with q | q
    · exact k.fresh b q
    · refine .inr fun u h1 => ?_
      have h2 : b ∉ C.as := fun z => by
        obtain ⟨o, e, n⟩ := k.live b (k.sub b (k.has b z))
        obtain ⟨ps, y⟩ := q o e
        exact n.1 ps y
      cases u with
      | tbl ps => exact ⟨ps, rfl⟩
      | _ =>
        obtain ⟨ps, z⟩ := q _ (k.keep b _ h1 h2 (fun ps z => by cases z))
        cases z
  sub := fun b hb => sb b (k.sub b hb)
  live := lv
  has := k.has
  nd := k.nd
  tabs := tb
  slot := fun i sv h => by
    rcases hs i sv h with ⟨h1, h2⟩ | ⟨r, rfl, h1⟩ | ⟨ob, p, rfl, h0, ⟨ob', h1⟩, h2, h3⟩
    · obtain ⟨v, e1, e2⟩ := k.slot i sv h1
      refine ⟨v, e1, ?_⟩
      cases sv with
      | fro r => exact ⟨e2.1, e2.2.ext x⟩
      | own ob =>
        obtain ⟨a, f1, f2, f3, f4⟩ := e2
        exact ⟨a, f1, sb a f2, f3, f4.mono (fun u hu hn => st a u hu (fun z => h2 a z (by rw [e1, f1])) hn) x⟩
    · obtain ⟨v, e1, e2⟩ := k.slot i _ h1
      exact ⟨v, e1, e2.1, e2.2.ext x⟩
    · obtain ⟨v, e1, a, f1, f2, f3, f4⟩ := k.slot i _ h1
      have : a = p := by rw [h2, f1] at e1; cases e1; rfl
      subst this
      exact ⟨.ref a, h2, a, rfl, sb a f2, f3, h3⟩
  hlen := by rw [hl]; exact k.hlen
  hnds := fun j a ob h1 h2 => by
    rcases hh j a ob h1 h2 with ⟨z, h3⟩ | ⟨z, h3⟩
    · exact (k.hnds j a ob h1 h3).mono (fun u hu hn => st a u hu z hn) x
    · exact h3
  len := by rw [hsl]; exact k.len
  dist := fun i j oi oj v h1 h2 h3 h4 => by
    have own : ∀ (i : Nat) (oi : Ob), e'.sl[i]? = some (some (SV.own oi)) → ∃ o' : Ob, e.sl[i]? = some (some (SV.own o')) := fun i oi h => by
      rcases hs i _ h with ⟨h1, _⟩ | ⟨r, z, _⟩ | ⟨ob, _, _, _, h1, _⟩
      · exact ⟨_, h1⟩
      · cases z
      · exact h1
    obtain ⟨o1, g1⟩ := own i oi h1
    obtain ⟨o2, g2⟩ := own j oj h2
    exact k.dist i j o1 o2 v g1 g2 h3 h4
/-! ### a def's promise -/
abbrev Mf := List R → List Ob → Rs R
def inCf (K : PySem.W.Frag) (T : List (Addr × Str)) (cls : Nat → Addr) (clo : Nat → ClD) (H : Hp) (W as : List Addr) : Cf := ⟨K, H, W, as, T, cls, clo⟩
def pM (C : Cf) (W : List Addr) (H : Hp) (Q : VK) (E : XK) : Rs R → Prop
  | .ok r e' => ∀ v W' H', Ext W H W' H' → Ok C W' ⟨[], e'.hs⟩ [] H' → Vl C W' [] H' v r → Q v H'
  | .err c e' => ∀ W' H', Ext W H W' H' → Ok C W' ⟨[], e'.hs⟩ [] H' → E (.ref (C.cls c)) none H'
  | .stk => False
def spM (K : PySem.W.Frag) (T : List (Addr × Str)) (cls : Nat → Addr) (clo : Nat → ClD) (n : Nat) (m : Mf) : Sp := fun vs H Q E => vs.length = n ∧ ∃ W as hs rs, Ok (inCf K T cls clo H W as) W ⟨[], hs⟩ [] H ∧ Vls (inCf K T cls clo H W as) W [] H vs rs ∧ pM (inCf K T cls clo H W as) W H Q E (m rs hs)
/-- a def's mirror: N slots -/
def inE (n : Nat) (rs : List R) (hs : List Ob) : Env := ⟨rs.map (fun r => some (.fro r)) ++ List.replicate (n - rs.length) none, hs⟩
def mOf (n : Nat) (f : Env → Sr) : Mf := fun rs hs => match f (inE n rs hs) with
  | .nx e => .ok (.d .none) ⟨[], e.hs⟩
  | .ret (.loc _) _ => .stk
  | .ret r e => .ok r ⟨[], e.hs⟩
  | .err c e => .err c ⟨[], e.hs⟩
  | _ => .stk
theorem Ok.bare {C : Cf} {W : List Addr} {e : Env} {σ : L2.St} {H : Hp} (k : Ok C W e σ H) : Ok C W ⟨[], e.hs⟩ [] H where
  keep := k.keep
  fresh := k.fresh
  sub := k.sub
  live := k.live
  has := k.has
  nd := k.nd
  tabs := k.tabs
  slot := fun i sv h => by simp at h
  hlen := k.hlen
  hnds := k.hnds
  len := rfl
  dist := fun i j oi oj v h => by simp at h
theorem Vls.get {C : Cf} {W : List Addr} {σ : L2.St} {H : Hp} : ∀ {vs : List V} {rs : List R} {i : Nat} {r : R}, Vls C W σ H vs rs → rs[i]? = some r → ∃ v, vs[i]? = some v ∧ Vl C W σ H v r
  | _, _, _, _, .nil, h => by simp at h
  | _, _, 0, _, .cons h _, q => by simp at q; subst q; exact ⟨_, rfl, h⟩
  | _, _, i + 1, _, .cons _ t, q => by
    obtain ⟨v, h1, h2⟩ := Vls.get (i := i) t (by simpa using q)
    exact ⟨v, by simpa using h1, h2⟩
theorem Vl.nonloc {C : Cf} {W : List Addr} {H : Hp} {v : V} {r : R} (h : Vl C W [] H v r) : ∀ i, r ≠ .loc i := fun i z => by
  subst z
  have h : ([] : L2.St)[i]? = some (some v) := h
  simp at h
theorem Ok.enter {C : Cf} {W : List Addr} {hs : List Ob} {H : Hp} {vs : List V} {rs : List R} {N : List Str} (k : Ok C W ⟨[], hs⟩ [] H) (h : Vls C W [] H vs rs) : Ok C W (inE N.length rs hs) (L2.start N vs) H where
  keep := k.keep
  fresh := k.fresh
  sub := k.sub
  live := k.live
  has := k.has
  nd := k.nd
  tabs := k.tabs
  hlen := k.hlen
  hnds := k.hnds
  len := by simp [inE, L2.start, h.length]
  slot := fun i sv hi => by
    have hi : (rs.map (fun r => some (SV.fro r)) ++ List.replicate (N.length - rs.length) none)[i]? = some (some sv) := hi
    by_cases z : i < rs.length
    · rw [List.getElem?_append_left (by simpa using z), List.getElem?_map] at hi
      cases q : rs[i]? with
      | none => rw [q] at hi; cases hi
      | some r =>
        rw [q] at hi; cases hi
        obtain ⟨v, h1, h2⟩ := h.get q
        refine ⟨v, ?_, h2.nonloc, h2⟩
        unfold L2.start
        rw [List.getElem?_append_left (by rw [List.length_map, h.length]; exact z), List.getElem?_map, h1]; rfl
    · rw [List.getElem?_append_right (by simpa using z), List.getElem?_replicate] at hi
      split at hi <;> cases hi
  dist := fun i j oi oj v h1 => by
    have h1 : (rs.map (fun r => some (SV.fro r)) ++ List.replicate (N.length - rs.length) none)[i]? = some (some (.own oi)) := h1
    by_cases z : i < rs.length
    · rw [List.getElem?_append_left (by simpa using z), List.getElem?_map] at h1
      cases q : rs[i]? with
      | none => rw [q] at h1; cases h1
      | some r => rw [q] at h1; cases h1
    · rw [List.getElem?_append_right (by simpa using z), List.getElem?_replicate] at h1
      split at h1 <;> cases h1
/-- a def of the module that may be called -/
structure Dfn (P : Program) (w : World) (K : PySem.W.Frag) (mg : Str → Option Value) (base : Heap) (k : Nat) (x : Str) (sp : Sp) : Prop where
  ex : ∃ (f : Addr) (fd : FuncData) (ps : List Str), FnOk P w K mg base (L2.CX P w) k f fd ps sp ∧ mg x = some (.ref f) ∧ PySem.W.keepIn K (.ref f) = true ∧ Binds K fd ps []
theorem Dfn.mono {P : Program} {w : World} {K : PySem.W.Frag} {mg : Str → Option Value} {base : Heap} {j k : Nat} {x : Str} {sp : Sp} (D : Dfn P w K mg base j x sp) (h : j ≤ k) : Dfn P w K mg base k x sp := by
  obtain ⟨f, fd, ps, F, a, b, c⟩ := D.ex
  exact ⟨f, fd, ps, F.mono h, a, b, c⟩
abbrev wOf (E : XK) : WX := fun cls d _ H => E cls d H
section
variable {P : Program} {w : World} {K : PySem.W.Frag} {mg : Str → Option Value} {base : Heap}
/-- the rule for a def -/
theorem fn_mk {x qual : Str} {st : Stmt} {f : Addr} {fd : FuncData} {N ps : List Str} {k : Nat} {T : List (Addr × Str)} {cls : Nat → Addr} {clo : Nat → ClD} {g : Env → Sr} (F : Fun K x qual st f fd) (S : FnScope N ps (defScope st))
    (hbody : ∀ (W as : List Addr) (cdv : Value) (A : Around) (outer : List PySem.Env) (s : Shared) (H : Hp) (E : XK), Room k (A.deeper (PyProof.Rows.envOfC qual (defScope st) s.heap.objs.size f cdv)) → Cs (cxOf (L2.CX P w) P w K mg base N qual (defScope st) f cdv A outer s H E) (inCf K T cls clo H W as) (wOf E) →
      PSs (cxOf (L2.CX P w) P w K mg base N qual (defScope st) f cdv A outer s H E) (defBody st) (tsOf (inCf K T cls clo H W as) (wOf E) g)) :
    FnOk P w K mg base (L2.CX P w) (k + 1) f fd ps (spM K T cls clo ps.length (mOf N.length g)) :=
  Fun.okX (sp := spM K T cls clo ps.length (mOf N.length g)) F S (fun vs H Q E h => h.1) fun cdv A outer s H vs Q E hr h => by
    obtain ⟨hl, W, as, hs, rs, ok, hv, hp⟩ := h
    have ct : Cs (cxOf (L2.CX P w) P w K mg base N qual (defScope st) f cdv A outer s H E) (inCf K T cls clo H W as) (wOf E) :=
      { K := rfl, un := by have := hr.un; show (A.deeper _).units + 64 < cLine; omega, un65 := by have := hr.un; show (A.deeper _).units + 65 < cLine; omega, calm := rfl, nd := S.nd, tk := takes_of rfl rfl rfl rfl, hp := passes_of rfl }
    refine ⟨_, hbody W as cdv A outer s H E hr ct, W, inE N.length rs hs, ok.enter hv, ?_⟩
    unfold mOf at hp
    cases q : g (inE N.length rs hs) with
    | nx e => rw [q] at hp; exact fun σ' W' H' x k' => hp _ _ _ x k'.bare .non
    | ret r e =>
      rw [q] at hp
      intro v σ' W' H' x k' hv
      cases r with
      | loc i => exact hp.elim
      | d y => exact hp _ _ _ x k'.bare (hv.any fun i y => nomatch y)
      | hnd y => exact hp _ _ _ x k'.bare (hv.any fun i y => nomatch y)
      | clo y => exact hp _ _ _ x k'.bare (hv.any fun i y => nomatch y)
      | clos y => exact hp _ _ _ x k'.bare (hv.any fun i y => nomatch y)
      | scr y => exact hp _ _ _ x k'.bare (hv.any fun i y => nomatch y)
    | rto b o e => rw [q] at hp; exact hp.elim
    | err c e => rw [q] at hp; exact fun σ' W' H' x k' => hp _ _ x k'.bare
    | bk e => rw [q] at hp; exact hp.elim
    | ct e => rw [q] at hp; exact hp.elim
    | stk => rw [q] at hp; exact hp.elim
end
end Ev

set_option Elab.async false
set_option linter.all false
set_option maxRecDepth 100000
namespace Ev
open PySem L2
def splitA (e : Env) : List R → Option (List R × List (R × Ob))
  | [] => some ([], [])
  | r :: rs => match splitA e rs with
    | none => none
    | some (rs', hl) => match r with
      | .loc i => match rootOf e (.loc i), hl with
        | some o, [] => some (.hnd 0 :: rs', [(.loc i, o)])
        | _, _ => none
      | .hnd i => match rootOf e (.hnd i), hl with
        | some o, [] => some (.hnd 0 :: rs', [(.hnd i, o)])
        | _, _ => none
      | r => some (r :: rs', hl)
def okR (r : R) (e : Env) : Rs R := match r with
  | .d x => .ok (.d x) e
  | _ => .stk
def caM (m : Mf) (rs : List R) : Env → Rs R := fun e => match splitA e rs with
  | some (rs', []) => match m rs' [] with
    | .ok r _ => okR r e
    | .err c _ => .err c e
    | .stk => .stk
  | some (rs', [(r0, o)]) => match m rs' [o] with
    | .ok r e' => match e'.hs with
      | [o'] => okR r (putR e r0 o')
      | _ => .stk
    | .err c e' => match e'.hs with
      | [o'] => .err c (putR e r0 o')
      | _ => .stk
    | .stk => .stk
  | _ => .stk
section
variable {C : Cf} {w : WX} {σ : L2.St} {W : List Addr} {H : Hp} {e : Env}
abbrev Cf.at (C : Cf) (H : Hp) (W as : List Addr) : Cf := inCf C.K C.T C.cls C.clo H W as
theorem Vl.into {v : V} {x : Dt} {as : List Addr} (h : Vl C W σ H v (.d x)) : Vl (C.at H W as) W [] H v (.d x) := h
theorem Vls.noas {vs : List V} {rs : List R} {as : List Addr} (h : Vls (C.at H W []) W [] H vs rs) : Vls (C.at H W as) W [] H vs rs := by
  induction h with
  | nil => exact .nil
  | @cons v r vs rs h t ih =>
    refine .cons ?_ ih
    cases r with
    | loc i => exact h
    | hnd j => obtain ⟨a, h1, _⟩ := h; simp [Cf.at, inCf] at h1
    | d x => exact h
    | clo i => exact h
    | clos n => exact h
    | scr n => exact h
theorem splitA_ok (k : Ok C W e σ H) : ∀ {vs : List V} {rs rs' : List R} {hl : List (R × Ob)}, Vls C W σ H vs rs → splitA e rs = some (rs', hl) →
    (hl = [] ∧ Vls (C.at H W []) W [] H vs rs') ∨ ∃ r0 o p, hl = [(r0, o)] ∧ rootOf e r0 = some o ∧ Vl C W σ H (.ref p) r0 ∧ Vls (C.at H W [p]) W [] H vs rs'
  | _, _, _, _, .nil, q => by cases q; exact .inl ⟨rfl, .nil⟩
  | _, _, rs', hl, .cons (v := v) (vs := vs) (r := r) (rs := rs) h t, q => by
    unfold splitA at q
    split at q
    · cases q
    · rename_i rs1 hl1 q1
      have ih := splitA_ok k (hl := hl1) t q1
      have root : ∀ {r0 : R} {o : Ob}, Vl C W σ H v r0 → rootOf e r0 = some o → rs' = .hnd 0 :: rs1 → hl = [(r0, o)] → hl1 = [] → (hl = [] ∧ Vls (C.at H W []) W [] H (v :: vs) rs') ∨ ∃ r0 o p, hl = [(r0, o)] ∧ rootOf e r0 = some o ∧ Vl C W σ H (.ref p) r0 ∧ Vls (C.at H W [p]) W [] H (v :: vs) rs' := fun {r0 o} h0 ho e1 e2 e3 => by
        obtain ⟨p, ev, _⟩ := root_ok k h0 ho
        subst e1 e2 e3
        rcases ih with ⟨_, ih⟩ | ⟨_, _, _, z, _⟩
        · exact .inr ⟨r0, o, p, rfl, ho, by rw [← ev]; exact h0, .cons ⟨p, rfl, ev⟩ ih.noas⟩
        · cases z
      have plain : (∀ as, Vl (C.at H W as) W [] H v r) → rs' = r :: rs1 → hl = hl1 → (hl = [] ∧ Vls (C.at H W []) W [] H (v :: vs) rs') ∨ ∃ r0 o p, hl = [(r0, o)] ∧ rootOf e r0 = some o ∧ Vl C W σ H (.ref p) r0 ∧ Vls (C.at H W [p]) W [] H (v :: vs) rs' := fun h0 e1 e2 => by
        subst e1 e2
        rcases ih with ⟨z, ih⟩ | ⟨r0, o, p, z, h1, h2, ih⟩
        · exact .inl ⟨z, .cons (h0 _) ih⟩
        · exact .inr ⟨r0, o, p, z, h1, h2, .cons (h0 _) ih⟩
      cases r with
      | loc i =>
        dsimp only at q
        split at q
        · rename_i o q2
          cases q
          exact root h q2 rfl rfl rfl
        · cases q
      | hnd i =>
        dsimp only at q
        split at q
        · rename_i o q2
          cases q
          exact root h q2 rfl rfl rfl
        · cases q
      | d x => cases q; exact plain (fun as => h) rfl rfl
      | clo i => cases q; exact plain (fun as => h) rfl rfl
      | clos n => cases q; exact plain (fun as => h) rfl rfl
      | scr n => cases q; exact plain (fun as => h) rfl rfl
/-- the state as the callee meets it -/
theorem Ok.call {as : List Addr} {hs : List Ob} (k : Ok C W e σ H) (h1 : ∀ b ∈ as, b ∈ W) (h2 : as.Nodup) (h3 : as.length = hs.length) (h4 : ∀ (j : Nat) (a : Addr) (o : Ob), as[j]? = some a → hs[j]? = some o → ObOk C.K W H a o) : Ok (C.at H W as) W ⟨[], hs⟩ [] H where
  keep := fun b o h _ _ => h
  fresh := fun b hb => .inl hb
  sub := fun b hb => hb
  live := k.live
  has := h1
  nd := h2
  tabs := k.tabs
  slot := fun i sv h => by simp at h
  hlen := h3
  hnds := h4
  len := rfl
  dist := fun i j oi oj v h => by simp at h
theorem Ok.back {as : List Addr} {hs : List Ob} {W' : List Addr} {H' : Hp} {e' : Env} (k : Ok C W e σ H) (k' : Ok (C.at H W as) W' ⟨[], hs⟩ [] H') (x : Ext W H W' H') (hA : ∀ b ∈ as, b ∈ W ∧ (b ∉ C.W0 ∨ b ∈ C.as))
    (hs : ∀ (i : Nat) (sv : SV), e'.sl[i]? = some (some sv) → (e.sl[i]? = some (some sv) ∧ ∀ p, p ∈ as → σ[i]? ≠ some (some (.ref p))) ∨ (∃ r, sv = .fro r ∧ e.sl[i]? = some (some sv)) ∨ ∃ ob p, sv = .own ob ∧ p ∈ as ∧ (∃ ob', e.sl[i]? = some (some (.own ob'))) ∧ σ[i]? = some (some (.ref p)) ∧ ObOk C.K W' H' p ob)
    (hsl : e'.sl.length = e.sl.length) (hl : e'.hs.length = e.hs.length) (hh : ∀ (j : Nat) (a : Addr) (ob : Ob), C.as[j]? = some a → e'.hs[j]? = some ob → (¬ a ∈ as ∧ e.hs[j]? = some ob) ∨ (a ∈ as ∧ ObOk C.K W' H' a ob)) : Ok C W' e' σ H' := by
  exact k.over (fun b => b ∈ as) hA x (fun b u h1 h2 h3 => k'.keep b u h1 h2 h3) k'.fresh k'.sub k'.live k'.tabs hs hsl hl hh
/-- no handle was given -/
theorem Ok.back0 {W' : List Addr} {H' : Hp} {hs : List Ob} (k : Ok C W e σ H) (k' : Ok (C.at H W []) W' ⟨[], hs⟩ [] H') (x : Ext W H W' H') : Ok C W' e σ H' :=
  k.back k' x (fun b hb => by simp at hb) (fun i sv h => .inl ⟨h, fun p hp => by simp at hp⟩) rfl rfl (fun j a ob h1 h2 => .inl ⟨by simp, h2⟩)
theorem Ok.back1 {W' : List Addr} {H' : Hp} {r0 : R} {o o' : Ob} {p : Addr} (k : Ok C W e σ H) (k' : Ok (C.at H W [p]) W' ⟨[], [o']⟩ [] H') (x : Ext W H W' H') (h : Vl C W σ H (.ref p) r0) (q : rootOf e r0 = some o) : Ok C W' (putR e r0 o') σ H' := by
  have ho : ObOk C.K W' H' p o' := k'.hnds 0 p o' rfl rfl
  cases r0 with
  | loc i =>
    simp only [rootOf] at q
    split at q
    · rename_i o2 hsl
      cases q
      have h : σ[i]? = some (some (.ref p)) := h
      obtain ⟨u, h1, a, e1, e2, e3, e4⟩ := k.slot i _ hsl
      rw [h] at h1; cases h1; cases e1
      refine k.back (e' := ⟨e.sl.set i (some (.own o')), e.hs⟩) k' x (fun b hb => by simp at hb; subst hb; exact ⟨e2, .inl e3⟩) (fun j sv hj => ?_) (by simp) rfl (fun j b ob' g1 g2 => .inl ⟨fun z => ?_, g2⟩)
      · rcases get_set hj with ⟨rfl, z⟩ | ⟨z, hj⟩
        · cases z
          exact .inr (.inr ⟨o', p, rfl, by simp, ⟨_, hsl⟩, h, ho⟩)
        · cases sv with
          | fro r => exact .inr (.inl ⟨r, rfl, hj⟩)
          | own ob' => exact .inl ⟨hj, fun p' hp' y => by simp at hp'; subst hp'; exact z (k.dist j i _ _ _ hj hsl y h)⟩
      · simp at z; subst z
        exact e3 (k.has b (List.mem_of_getElem? g1))
    · cases q
  | hnd j =>
    simp only [rootOf] at q
    obtain ⟨a, h1, h2⟩ := h
    cases h2
    have a0 := k.has p (List.mem_of_getElem? h1)
    refine k.back (e' := ⟨e.sl, e.hs.set j o'⟩) k' x (fun b hb => by simp at hb; subst hb; exact ⟨k.sub b a0, .inr (List.mem_of_getElem? h1)⟩) (fun i sv hi => ?_) rfl (by simp) (fun j' b ob' g1 g2 => ?_)
    · cases sv with
      | fro r => exact .inr (.inl ⟨r, rfl, hi⟩)
      | own ob' =>
        refine .inl ⟨hi, fun p' hp' y => ?_⟩
        simp at hp'; subst hp'
        obtain ⟨u, f1, b, f2, f3, f4, f5⟩ := k.slot i _ hi
        rw [y] at f1; cases f1; cases f2
        exact f4 a0
    · rcases get_set g2 with ⟨rfl, z⟩ | ⟨z, g2⟩
      · cases z
        rw [h1] at g1; cases g1
        exact .inr ⟨by simp, ho⟩
      · refine .inl ⟨fun y => z ?_, g2⟩
        simp at y
        subst y
        exact nodup_get k.nd g1 h1
  | d x => simp [rootOf] at q
  | clo i => simp [rootOf] at q
  | clos n => simp [rootOf] at q
  | scr n => simp [rootOf] at q
/-- a call's promise is kept -/
theorem caM_ok {K : PySem.W.Frag} {n : Nat} {m : Mf} {vs : List V} {rs : List R} {Q : VK} (hK : C.K = K) (hn : vs.length = n) (k : Ok C W e σ H) (hv : Vls C W σ H vs rs) (h : pO C w σ W H Q (caM m rs e)) : spM K C.T C.cls C.clo n m vs H Q (fun c d H' => w c d σ H') := by
  subst hK
  unfold caM at h
  split at h
  · rename_i rs' q
    rcases splitA_ok k hv q with ⟨_, hv'⟩ | ⟨_, _, _, z, _⟩
    · refine ⟨hn, W, [], [], rs', k.call (fun b hb => by simp at hb) .nil rfl (fun j a o h1 => by simp at h1), hv', ?_⟩
      revert h
      cases m rs' [] with
      | ok r e' =>
        intro h v W' H' x k' hv2
        cases r with
        | d y => exact h v W' H' x (k.back0 k' x) hv2
        | loc i => exact h.elim
        | hnd i => exact h.elim
        | clo i => exact h.elim
        | clos i => exact h.elim
        | scr i => exact h.elim
      | err c e' => exact fun h W' H' x k' => h W' H' x (k.back0 k' x)
      | stk => exact id
    · cases z
  · rename_i rs' r0 o q
    rcases splitA_ok k hv q with ⟨z, _⟩ | ⟨r1, o1, p, z, ho, hp, hv'⟩
    · cases z
    · cases z
      obtain ⟨p', e1, e2, e3, _⟩ := root_ok k hp ho
      cases e1
      refine ⟨hn, W, [p], [o], rs', k.call (fun b hb => by simp at hb; subst hb; exact e2) (by simp) rfl (fun j a o' h1 h2 => ?_), hv', ?_⟩
      · cases j with
        | zero => simp at h1 h2; subst h1 h2; exact e3
        | succ j => simp at h1
      · revert h
        cases m rs' [o] with
        | ok r e' =>
          dsimp only
          intro h v W' H' x k' hv2
          split at h
          · rename_i o' ho'
            have k' : Ok (C.at H W [p]) W' ⟨[], [o']⟩ [] H' := by
              have := k'
              rw [ho'] at this
              exact this
            cases r with
            | d y => exact h v W' H' x (k.back1 k' x hp ho) hv2
            | loc i => exact h.elim
            | hnd i => exact h.elim
            | clo i => exact h.elim
            | clos i => exact h.elim
            | scr i => exact h.elim
          · exact h.elim
        | err c e' =>
          dsimp only
          intro h W' H' x k'
          split at h
          · rename_i o' ho'
            have k' : Ok (C.at H W [p]) W' ⟨[], [o']⟩ [] H' := by
              have := k'
              rw [ho'] at this
              exact this
            exact h W' H' x (k.back1 k' x hp ho)
          · exact h.elim
        | stk => exact id
  · exact h.elim
end
def caN (n : Nat) (m : Mf) (rs : List R) : Env → Rs R := fun e => if rs.length = n then caM m rs e else .stk
section
variable {X : Cx} {C : Cf} {w : WX} {pos p : Pos} {e : Expr} {es : List Expr} {fs : Env → Rs (List R)} {x : Str} {k n : Nat} {m : Mf}
theorem ev_call (ct : Ct X C w) (D : Dfn X.prog X.w X.K X.mg X.base k x (spM X.K C.T C.cls C.clo n m)) (hr : Room k X.A) (hg : Gl X x) (ha : PA X (e :: es) (taOf C w fs)) (hdb : (x == ("__debug__" : Str)) = false := by decide)
    (he : starEach (e :: es) X.env = (false, eval e X.env) :: starEach es X.env := by rfl) (hpl : (backTo pos (starEach es X.env)).any (·.1) = false := by rfl) :
    PE X (.Call (.Name x p) (e :: es) [] pos) (tOf C w (bnd fs (caN n m))) := by
  obtain ⟨f, fd, ps, F, hm, hk, hb⟩ := D.ex
  refine PE.imp (pe_callSD (E := WE w) F hr hg hm hk hb .nil (passAt ct.tk) ha hdb he hpl) fun σ H Q ⟨W, en, kk, h⟩ => ?_
  refine taOf_bnd kk h fun vs rs W1 e1 H1 x1 k1 hv h1 => ?_
  unfold caN at h1
  split at h1
  · rename_i hl
    rw [List.append_nil]
    exact caM_ok ct.K (by rw [hv.length]; exact hl) k1 hv h1
  · exact h1.elim
theorem ev_call0 (ct : Ct X C w) (D : Dfn X.prog X.w X.K X.mg X.base k x (spM X.K C.T C.cls C.clo 0 m)) (hr : Room k X.A) (hg : Gl X x) (hdb : (x == ("__debug__" : Str)) = false := by decide) : PE X (.Call (.Name x p) [] [] pos) (tOf C w (caM m [])) := by
  obtain ⟨f, fd, ps, F, hm, hk, hb⟩ := D.ex
  refine ⟨fun pins s σ H Q I ⟨W, en, kk, h⟩ => ?_⟩
  refine wpAny_Call_Name_kw (ld_glob I hg hm ?_ hdb)
  refine PySem.W.callWith_K0 I.kIn hk ?_
  refine run_fnSD (us := []) (vs := []) (E := WE w) F hr hb .nil (passAt ct.tk σ) I .nil ?_
  exact caM_ok ct.K rfl kk .nil h
end
end Ev

set_option Elab.async false
set_option linter.all false
set_option maxRecDepth 100000
namespace Ev
open PySem L2
/-! ### o[i] = v, raise -/
def setG (x y v : R) : Env → Sr := fun e => match rootOf e x, y, v with
  | some (.lst ds), .d (.int i), .d d => match ixN ds.length i with
    | some j => .nx (putR e x (.lst (ds.set j d)))
    | none => .stk
  | _, _, _ => .stk
def stS (fv fo fi : Env → Rs R) : Env → Sr := bS fv fun v => bS fo fun x => bS fi fun y => setG x y v
def raS (c : Nat) : Env → Sr := .err c
section
variable {X : Cx} {C : Cf} {w : WX} {pos p1 : Pos} {o i e : Expr} {fv fo fi : Env → Rs R}
theorem es_set (ho : PE X o (tOf C w fo)) (hi : PE X i (tOf C w fi)) (he : PE X e (tOf C w fv)) (hs : swapsWithSole [.Subscript o i p1] e pos.line X.env = pure false := by rfl) (hw : swappedStores [.Subscript o i p1] e X.env = pure none := by rfl)
    (h1 : (assignEach [.Subscript o i p1] X.env).map (·.2) = [assign (.Subscript o i p1) X.env] := by rfl)
    (ha : ∀ v, assign (.Subscript o i p1) X.env v = (do
      let ov ← holding [v] (eval o X.env)
      let iv ← holding [v, ov] (eval i X.env)
      standAt p1
      holding [v, ov, iv] (setItem ov iv v)
      release [v, ov, iv] []) := by intro _; rfl) : PS X (.Assign [.Subscript o i p1] e pos) (tsOf C w (stS fv fo fi)) :=
  PS.imp (ps_asg he (pg_sub ho hi set_list ha) hs hw h1) fun D σ H ⟨W, e, k, h⟩ =>
    tOf_bS k h fun v r W1 e1 H1 x1 k1 hv h1 => tOf_bS k1 h1 fun xo ro W2 e2 H2 x2 k2 ho h2 => tOf_bS k2 h2 fun yi ri W3 e3 H3 x3 k3 hi h3 => by
      have hv := (hv.ext x2).ext x3
      have ho := ho.ext x3
      unfold setG at h3
      split at h3
      · rename_i ds i2 d hr _
        cases vl_int hi
        split at h3
        · rename_i j hj
          obtain ⟨p, vs, rfl, e1, e2, e3⟩ := root_lst (w := w) (Q := fun _ _ => True) (rr := ro) (v' := xo) (ds' := ds) k3 ho hr
          obtain ⟨k4, x4⟩ := e3 _ _ (FzAll.set hv j e2)
          exact ⟨p, vs, _, j, rfl, rfl, e1, by rw [e2.length]; exact hj, h3 _ _ _ x4 k4⟩
        · exact h3.elim
      · exact h3.elim
/-- what the module tells of an own class of errors -/
structure ErrC (K : PySem.W.Frag) (mg : Str → Option Value) (x : Str) (C : Addr) : Prop where
  ex : ∃ (B newId initId : String) (bmB : List Value), ExcBaseFacts B newId initId bmB ∧ PySem.W.excIn K C bmB newId = true
  g : mg x = some (.ref C)
  k : PySem.W.keepIn K (.ref C) = true
  s : PySem.W.subIn K (.ref C) (.type "BaseException") = some true
  t : PySem.W.typeIn K (.ref C) = some (.type "type")
theorem es_raise {x m : Str} {j c : Nat} {p p2 : Pos} (ct : Ct X C w) (E : ErrC X.K X.mg x (C.cls c)) (hg : Gl X x := by rfl) (hdb : (x == ("__debug__" : Str)) = false := by decide) : PS X (.Raise (some (.Call (.Name x p) [.Constant (.str m) j p2] [] p1)) none pos) (tsOf C w (raS c)) := by
  obtain ⟨B, newId, initId, bmB, F, q⟩ := E.ex
  exact PS.imp (ps_raise ct.calm ct.tk (pmk_own F q E.g E.k (raises_own E.s E.t) hg hdb)) fun D σ H ⟨W, e, k, h⟩ => h _ _ _ Ext.refl k
end
end Ev
namespace Ev
open PySem L2
theorem fn_mkA {P : Program} {w : World} {K : PySem.W.Frag} {mg : Str → Option Value} {base : Heap} {x qual : Str} {st : Stmt} {f : Addr} {fd : FuncData} {N ps : List Str} {k n nN : Nat} {T : List (Addr × Str)} {cls : Nat → Addr} {clo : Nat → ClD} {g : Env → Sr} {m : Mf} (F : Fun K x qual st f fd) (S : FnScope N ps (defScope st)) (hn : ps.length = n) (hN : N.length = nN) (hm : m = mOf nN g)
    (hbody : ∀ (W as : List Addr) (cdv : Value) (A : Around) (outer : List PySem.Env) (s : Shared) (H : Hp) (E : XK), Room k (A.deeper (PyProof.Rows.envOfC qual (defScope st) s.heap.objs.size f cdv)) → Cs (cxOf (L2.CX P w) P w K mg base N qual (defScope st) f cdv A outer s H E) (inCf K T cls clo H W as) (wOf E) →
      PSs (cxOf (L2.CX P w) P w K mg base N qual (defScope st) f cdv A outer s H E) (defBody st) (tsOf (inCf K T cls clo H W as) (wOf E) g)) :
    FnOk P w K mg base (L2.CX P w) (k + 1) f fd ps (spM K T cls clo n m) := by
  subst hn hN hm
  exact fn_mk F S hbody
end Ev

set_option Elab.async false
set_option linter.all false
set_option maxRecDepth 100000
namespace Ev
open PySem L2
/-! ### the block's own slots -/
def wipE (vs : List Nat) (e : Env) : Env := ⟨e.sl.mapIdx fun i s => if i ∈ vs then none else s, e.hs⟩
def froOf : Option (Option SV) → Option SV
  | some (some (.fro r)) => some (.fro r)
  | _ => none
/-- back in the outer block -/
def reE (vs : List Nat) (e0 e : Env) : Env := ⟨e.sl.mapIdx fun i s => if i ∈ vs then froOf e0.sl[i]? else s, e.hs⟩
theorem wipe_get {σ : L2.St} : ∀ {vs : List Nat} {i : Nat}, i ∉ vs → (wipe σ vs)[i]? = σ[i]?
  | [], _, _ => rfl
  | v :: vs, i, h => by
    unfold wipe
    rw [List.getElem?_set_ne (fun z => h (by rw [← z]; simp))]
    exact wipe_get fun z => h (List.mem_cons_of_mem _ z)
theorem wipe_in {σ : L2.St} : ∀ {vs : List Nat} {i : Nat}, i ∈ vs → i < σ.length → (wipe σ vs)[i]? = some none
  | v :: vs, i, h, hl => by
    unfold wipe
    by_cases z : v = i
    · subst z
      exact List.getElem?_set_self (by rw [wipe_length]; exact hl)
    · rw [List.getElem?_set_ne z]
      rcases List.mem_cons.mp h with q | q
      · exact absurd q.symm z
      · exact wipe_in q hl
theorem wipe_but {σ σ' : L2.St} {is vs : List Nat} (h : ∀ i ∈ is, i ∈ vs) (b : But is σ σ') : wipe σ' vs = wipe σ vs := by
  apply List.ext_getElem?
  intro i
  by_cases z : i ∈ vs
  · by_cases l : i < σ.length
    · rw [wipe_in z l, wipe_in z (by rw [b.1]; exact l)]
    · have b1 := b.1
      rw [List.getElem?_eq_none (l := wipe σ' vs) (by rw [wipe_length]; omega), List.getElem?_eq_none (l := wipe σ vs) (by rw [wipe_length]; omega)]
  · rw [wipe_get z, wipe_get z]
    exact b.2 i fun y => z (h i y)
theorem wipe_wipe {σ : L2.St} {vs : List Nat} : wipe (wipe σ vs) vs = wipe σ vs := by
  apply List.ext_getElem?
  intro i
  by_cases z : i ∈ vs
  · by_cases l : i < σ.length
    · rw [wipe_in z l, wipe_in z (by rw [wipe_length]; exact l)]
    · rw [List.getElem?_eq_none (by rw [wipe_length, wipe_length]; omega), List.getElem?_eq_none (by rw [wipe_length]; omega)]
  · rw [wipe_get z]
theorem wip_some {vs : List Nat} {e : Env} {i : Nat} {sv : SV} (h : (wipE vs e).sl[i]? = some (some sv)) : e.sl[i]? = some (some sv) ∧ i ∉ vs := by
  simp only [wipE, List.getElem?_mapIdx] at h
  cases q : e.sl[i]? with
  | none => rw [q] at h; cases h
  | some s =>
    rw [q] at h
    by_cases z : i ∈ vs
    · simp [z] at h
    · simp [z] at h
      exact ⟨by rw [h], z⟩
section
variable {C : Cf} {w : WX} {σ : L2.St} {W W' : List Addr} {H H' : Hp} {e e' : Env}
theorem Ok.wip (k : Ok C W e σ H) (vs : List Nat) : Ok C W (wipE vs e) (wipe σ vs) H where
  keep := k.keep
  fresh := k.fresh
  sub := k.sub
  live := k.live
  has := k.has
  nd := k.nd
  tabs := k.tabs
  hlen := k.hlen
  hnds := k.hnds
  len := by simp [wipE, wipe_length, k.len]
  slot := fun i sv h => by
    obtain ⟨h1, h2⟩ := wip_some h
    obtain ⟨v, h3, h4⟩ := k.slot i sv h1
    exact ⟨v, by rw [wipe_get h2]; exact h3, h4⟩
  dist := fun i j oi oj v h1 h2 h3 h4 => by
    obtain ⟨g1, z1⟩ := wip_some h1
    obtain ⟨g2, z2⟩ := wip_some h2
    rw [wipe_get z1] at h3
    rw [wipe_get z2] at h4
    exact k.dist i j oi oj v g1 g2 h3 h4
theorem re_some {vs : List Nat} {e0 e : Env} {i : Nat} {sv : SV} (h : (reE vs e0 e).sl[i]? = some (some sv)) : (i ∈ vs ∧ ∃ r, sv = .fro r ∧ e0.sl[i]? = some (some (.fro r))) ∨ (i ∉ vs ∧ e.sl[i]? = some (some sv)) := by
  simp only [reE, List.getElem?_mapIdx] at h
  cases q : e.sl[i]? with
  | none => rw [q] at h; cases h
  | some s =>
    rw [q] at h
    by_cases z : i ∈ vs
    · simp only [Option.map_some, z, if_true, Option.some.injEq] at h
      unfold froOf at h
      split at h
      · rename_i r hr
        cases h
        exact .inl ⟨z, r, rfl, hr⟩
      · cases h
    · simp [z] at h
      exact .inr ⟨z, by rw [h]⟩
theorem Ok.unwip {vs : List Nat} {e0 : Env} {W0 : List Addr} {H0 : Hp} (k0 : Ok C W0 e0 σ H0) (x : Ext W0 H0 W' H') (k : Ok C W' e (wipe σ vs) H') : Ok C W' (reE vs e0 e) σ H' where
  keep := k.keep
  fresh := k.fresh
  sub := k.sub
  live := k.live
  has := k.has
  nd := k.nd
  tabs := k.tabs
  hlen := k.hlen
  hnds := k.hnds
  len := by
    have := k.len
    rw [wipe_length] at this
    simp [reE, this]
  slot := fun i sv h => by
    rcases re_some h with ⟨_, r, rfl, h1⟩ | ⟨z, h1⟩
    · obtain ⟨v, h2, h3, h4⟩ := k0.slot i _ h1
      exact ⟨v, h2, h3, h4.ext x⟩
    · obtain ⟨v, h2, h3⟩ := k.slot i sv h1
      rw [wipe_get z] at h2
      exact ⟨v, h2, h3⟩
  dist := fun i j oi oj v h1 h2 h3 h4 => by
    rcases re_some h1 with ⟨_, r, z, _⟩ | ⟨z1, g1⟩
    · cases z
    · rcases re_some h2 with ⟨_, r, z, _⟩ | ⟨z2, g2⟩
      · cases z
      · exact k.dist i j oi oj v g1 g2 (by rw [wipe_get z1]; exact h3) (by rw [wipe_get z2]; exact h4)
/-! ### the list that is being made -/
def Cf.gd (C : Cf) (D : Addr) (o : HO) : Cf := { C with H0 := upd C.H0 D o, W0 := D :: C.W0 }
theorem Ok.guard {D : Addr} {o : HO} (k : Ok C W e σ H) (l : Lone C W e σ D) (h : H D = some o) (nc : D ∉ C.as) : Ok (C.gd D o) W e σ H where
  keep := fun b u h1 h2 h3 => by
    have h1 : upd C.H0 D o b = some u := h1
    by_cases z : b = D
    · subst z
      rw [upd_same] at h1; cases h1; exact h
    · rw [upd_ne z] at h1
      exact k.keep b u h1 h2 h3
  fresh := fun b hb => by
    by_cases z : b = D
    · exact .inl (by rw [z]; exact List.mem_cons_self)
    · rcases k.fresh b hb with q | q
      · exact .inl (List.mem_cons_of_mem _ q)
      · exact .inr fun o' h => q o' (by have h : upd C.H0 D o b = some o' := h; rw [upd_ne z] at h; exact h)
  sub := fun b hb => by
    rcases List.mem_cons.mp hb with rfl | hb
    · exact l.1
    · exact k.sub b hb
  live := k.live
  has := fun b hb => List.mem_cons_of_mem _ (k.has b hb)
  nd := k.nd
  tabs := k.tabs
  slot := fun i sv hi => by
    obtain ⟨v, h1, h2⟩ := k.slot i sv hi
    refine ⟨v, h1, ?_⟩
    cases sv with
    | fro r =>
      refine ⟨h2.1, ?_⟩
      have := h2.2
      cases r <;> exact this
    | own ob =>
      obtain ⟨a, e1, e2, e3, e4⟩ := h2
      refine ⟨a, e1, e2, fun z => ?_, e4⟩
      rcases List.mem_cons.mp z with z | z
      · exact l.2.2 i ob hi (by rw [h1, e1, z])
      · exact e3 z
  hlen := k.hlen
  hnds := k.hnds
  len := k.len
  dist := k.dist
theorem Ok.unguard {D : Addr} {o : HO} (k : Ok (C.gd D o) W e σ H) (h0 : Nw C.H0 D) (hD : D ∉ C.W0) (ha : ∀ b ∈ C.as, b ∈ C.W0) : Ok C W e σ H ∧ Lone C W e σ D where
  left := {
    keep := fun b u h1 h2 h3 => by
      refine k.keep b u ?_ h2 h3
      show upd C.H0 D o b = some u
      rw [upd_ne (fun z => by rw [z] at h1; obtain ⟨ps, y⟩ := h0 _ h1; exact h3 ps y)]; exact h1
    fresh := fun b hb => by
      by_cases z : b = D
      · exact .inr (by rw [z]; exact h0)
      · rcases k.fresh b hb with q | q
        · rcases List.mem_cons.mp q with q | q
          · exact absurd q z
          · exact .inl q
        · exact .inr fun o' h => q o' (by show upd C.H0 D o b = some o'; rw [upd_ne z]; exact h)
    sub := fun b hb => k.sub b (List.mem_cons_of_mem _ hb)
    live := k.live
    has := ha
    nd := k.nd
    tabs := k.tabs
    slot := fun i sv hi => by
      obtain ⟨v, h1, h2⟩ := k.slot i sv hi
      refine ⟨v, h1, ?_⟩
      cases sv with
      | fro r =>
        refine ⟨h2.1, ?_⟩
        have := h2.2
        cases r <;> exact this
      | own ob =>
        obtain ⟨a, e1, e2, e3, e4⟩ := h2
        exact ⟨a, e1, e2, fun z => e3 (List.mem_cons_of_mem _ z), e4⟩
    hlen := k.hlen
    hnds := k.hnds
    len := k.len
    dist := k.dist }
  right := ⟨k.sub D List.mem_cons_self, hD, fun i oi h1 h2 => by
    obtain ⟨v, g1, a, e1, e2, e3, e4⟩ := k.slot i _ h1
    rw [h2] at g1; cases g1; cases e1
    exact e3 List.mem_cons_self⟩
/-- a lone root's object is written -/
theorem Ok.lone {D : Addr} {o : HO} (k : Ok C W e σ H) (l : Lone C W e σ D) (ht : Rk o) (hc : ∀ q, H D ≠ some (LamX.CodeO D q)) : Ok C W e σ (upd H D o) ∧ Ext W H W (upd H D o) :=
  k.write l.1 ht (.inl l.2.1) hc (fun i sv h => by
    cases sv with
    | fro r => exact .inr (.inl ⟨r, rfl, h⟩)
    | own ob => exact .inl ⟨h, l.2.2 i ob h⟩) rfl rfl (fun j a ob h1 h2 => .inl ⟨fun z => l.2.1 (by rw [← z]; exact k.has a (List.mem_of_getElem? h1)), h2⟩)
end
/-! ### list comprehensions -/
def lcL (vs : List Nat) (t : R → Env → Option Env) (tc : Env → Rs Bool) (fe : Env → Rs R) : List R → List Dt → Env → Rs (List Dt)
  | [], acc, e => .ok acc e
  | r :: rs, acc, e => match t r e with
    | none => .stk
    | some e1 => match tc e1 with
      | .ok true e2 => match fe e2 with
        | .ok (.d d) e3 => if acc.length < sizeLine then lcL vs t tc fe rs (acc ++ [d]) (wipE vs e3) else .stk
        | _ => .stk
      | .ok false e2 => lcL vs t tc fe rs acc (wipE vs e2)
      | _ => .stk
def lcN (vs : List Nat) (fi : Env → Rs (List R)) (t : R → Env → Option Env) (tc : Env → Rs Bool) (fe : Env → Rs R) : Env → Rs Ob := bnd fi fun rs e => match lcL vs t tc fe rs [] (wipE vs e) with
  | .ok acc e2 => .ok (.lst acc) (reE vs e e2)
  | _ => .stk
def yesT : Env → Rs Bool := cst true
/-- nothing may be let out of the block -/
abbrev w0 : WX := fun _ _ _ _ => False
theorem Ct.blk {X : Cx} {C : Cf} {w : WX} (ct : Ct X C w) {s : Shared} {H : Hp} {scope : Scope} {ce : PySem.Env} {fp : List Addr} {D : Addr} {o : HO} : Ct (X.blk s H scope ce fp) (C.gd D o) w0 :=
  { K := ct.K, un := ct.un, un65 := ct.un65, calm := ct.calm, nd := ct.nd, tk := fun _ _ x => by
      obtain ⟨_, _, _, _, _, _, _, _, _, _, _, _, _, _, _, _, z⟩ := x
      exact z.elim }
def tOfG (C : Cf) (f : Env → Rs R) : TE := fun σ H Q => ∃ D o, tOf (C.gd D o) w0 f σ H Q
def ttOfG (C : Cf) (f : Env → Rs Bool) : TT := fun σ H Q => ∃ D o, ttOf (C.gd D o) w0 f σ H Q
def tgOfG (C : Cf) (is : List Nat) (f : R → Env → Option Env) : TG := fun v σ H Q => ∃ D o, tgOf (C.gd D o) is f v σ H Q
section
variable {X : Cx} {C : Cf} {w : WX} {elt tg iter : Expr} {ifs : List Expr} {scope : Scope} {own : List (Str × Nat)} {pos : Pos} {is : List Nat} {fi : Env → Rs (List R)} {t : R → Env → Option Env} {tc : Env → Rs Bool} {fe : Env → Rs R}
theorem epts_nil : PTs X [] (ttOf C w yesT) := ⟨fun pins s σ H Q I ⟨W, e, k, h⟩ => pts_nil.run pins s σ H Q I (h _ _ Ext.refl k)⟩
theorem epts_one {c : Expr} (h : PT X c (ttOf C w tc)) : PTs X [c] (ttOf C w tc) := pts_one h
theorem pi_none {W : List Addr} {σ : L2.St} {H : Hp} {e : Env} {Q : It → Hp → Prop} {g : List R → Env → Rs Ob} {Q' : VK} (k : Ok C W e σ H) (h : pN C w σ W H Q' (bnd fi g e))
    (n : ∀ J rs W' e' H', Ext W H W' H' → Ok C W' e' σ H' → ItOk C J W' H' rs → pN C w σ W' H' Q' (g rs e') → Q J H') : iOf C w fi σ H Q := by
  refine ⟨W, e, k, ?_⟩
  unfold bnd at h
  cases q : fi e with
  | ok rs e' => rw [q] at h; exact fun J W' H' x k' it => n J rs W' e' H' x k' it (pN.ext h x)
  | err c e' => rw [q] at h; exact h
  | stk => rw [q] at h; exact h
theorem lc_t {vs : List Nat} (his : ∀ i ∈ is, i ∈ vs) : ∀ σ H Q, tNew C w (lcN vs fi t tc fe) σ H Q → tLc (iOf C w fi) (tgOfG C is t) (ttOfG C tc) (tOfG C fe) vs σ H Q := fun σ H Q ⟨W, e, k, h⟩ => by
  refine pi_none (Q' := Q) k h fun J rs W1 e1 H1 x1 k1 it h1 D hD => ?_
  -- the list
  obtain ⟨kD, xD⟩ := k1.newRoot (.lst []) rk_lst hD
  have dW := k1.notnone hD
  have d0 : D ∉ C.W0 := fun z => dW (k1.sub D z)
  have h0 : Nw C.H0 D := by
    rcases kD.fresh D List.mem_cons_self with z | z
    · exact absurd z d0
    · exact z
  have da : D ∉ C.as := fun z => d0 (k1.has D z)
  have lD : Lone C (D :: W1) e1 σ D := ⟨List.mem_cons_self, d0, fun i oi g1 g2 => by
    obtain ⟨v, f1, a, f2, f3, _⟩ := k1.slot i _ g1
    rw [g2] at f1; cases f1; cases f2
    exact dW f3⟩
  refine ⟨fun i m H' => m = rs.length - i ∧ i ≤ rs.length ∧ ∃ W' e2 vD aD, Ext W1 H1 W' H' ∧ Ok C W' e2 (wipe σ vs) H' ∧ Lone C W' e2 (wipe σ vs) D ∧ H' D = some (.lst vD) ∧ FzAll C.K (msk W' H') vD aD ∧
    pN C w σ W' H' Q (match lcL vs t tc fe (rs.drop i) aD e2 with
      | .ok acc e3 => .ok (.lst acc) (reE vs e1 e3)
      | _ => .stk), ⟨rs.length, rfl, Nat.zero_le _, D :: W1, wipE vs e1, [], [], xD, kD.wip vs, ⟨List.mem_cons_self, d0, fun i oi g1 g2 => ?_⟩, upd_same, .nil, pN.ext h1 xD⟩, ?_⟩
  · obtain ⟨g1, z⟩ := wip_some g1
    rw [wipe_get z] at g2
    exact lD.2.2 i oi g1 g2
  rintro i m H2 ⟨rfl, hi, W2, e2, vD, aD, x2, k2, l2, hd2, f2, h2⟩
  by_cases hlt : i < rs.length
  · refine .inr ⟨it.go i W2 H2 x2 hlt, fun H' => ∃ W' e2 vD aD, Ext W1 H1 W' H' ∧ Ok C W' e2 (wipe σ vs) H' ∧ Lone C W' e2 (wipe σ vs) D ∧ H' D = some (.lst vD) ∧ FzAll C.K (msk W' H') vD aD ∧
      pN C w σ W' H' Q (match lcL vs t tc fe (rs.drop (i + 1)) aD e2 with
        | .ok acc e3 => .ok (.lst acc) (reE vs e1 e3)
        | _ => .stk), fun H' z => ⟨rs.length - (i + 1), by omega, rfl, hlt, z⟩, fun x H3 y => ?_⟩
    have kG := k2.guard l2 hd2 da
    obtain ⟨W3, x3, k3, hv⟩ := it.yld (C.gd D (.lst vD)) rfl rfl i rs[i] W2 e2 _ H2 x H3 x2 kG (List.getElem?_eq_getElem hlt) y
    rw [List.drop_eq_getElem_cons hlt] at h2
    simp only [lcL] at h2
    cases q4 : t rs[i] e2 with
    | none => rw [q4] at h2; exact h2.elim
    | some e4 =>
      rw [q4] at h2
      dsimp only at h2
      refine ⟨D, .lst vD, W3, e2, rs[i], e4, k3, hv, q4, fun σ5 W5 H5 x5 k5 b5 => ?_⟩
      have sw : wipe σ5 vs = wipe σ vs := by rw [wipe_but his b5, wipe_wipe]
      refine ⟨sw, D, .lst vD, W5, e4, k5, ?_⟩
      -- the next turn's state
      have next : ∀ {W6 : List Addr} {e6 : Env} {H6 : Hp}, Ext W5 H5 W6 H6 → Ok (C.gd D (.lst vD)) W6 e6 σ5 H6 → Ok C W6 (wipE vs e6) (wipe σ vs) H6 ∧ Lone C W6 (wipE vs e6) (wipe σ vs) D ∧ H6 D = some (.lst vD) ∧ FzAll C.K (msk W6 H6) vD aD ∧ Ext W2 H2 W6 H6 := fun {W6 e6 H6} x6 k6 => by
        have xx : Ext W2 H2 W6 H6 := (x3.trans x5).trans x6
        obtain ⟨u1, u2⟩ := k6.unguard h0 d0 k.has
        refine ⟨sw ▸ u1.wip vs, ⟨u2.1, u2.2.1, fun i oi g1 g2 => ?_⟩, k6.keep D _ upd_same da ne_tbl_lst, Fz.subAll xx _ _ f2, xx⟩
        obtain ⟨g1, z⟩ := wip_some g1
        rw [← sw, wipe_get z] at g2
        exact u2.2.2 i oi g1 g2
      cases q5 : tc e4 with
      | stk => rw [q5] at h2; exact h2.elim
      | err c e' => rw [q5] at h2; exact h2.elim
      | ok b e5 =>
        rw [q5] at h2
        try dsimp only at h2
        intro W6 H6 x6 k6
        cases b with
        | false =>
          obtain ⟨n1, n2, n3, n4, n5⟩ := next x6 k6
          exact iteF ⟨W6, wipE vs e5, vD, aD, x2.trans n5, n1, n2, n3, n4, pN.ext h2 n5⟩
        | true =>
          try dsimp only at h2
          refine iteT ⟨D, .lst vD, W6, e5, k6, ?_⟩
          cases q6 : fe e5 with
          | stk => rw [q6] at h2; exact h2.elim
          | err c e' => rw [q6] at h2; exact h2.elim
          | ok r e6 =>
            rw [q6] at h2
            try dsimp only at h2
            cases r with
            | loc j => exact h2.elim
            | hnd j => exact h2.elim
            | clo j => exact h2.elim
            | clos j => exact h2.elim
            | scr j => exact h2.elim
            | d y =>
              intro v W7 H7 x7 k7 hv7
              obtain ⟨n1, n2, n3, n4, n5⟩ := next (x6.trans x7) k7
              have hv7 : Fz C.K (msk W7 H7) v y := hv7
              try dsimp only at h2
              by_cases hz : aD.length < sizeLine
              · rw [if_pos hz] at h2
                obtain ⟨k8, x8⟩ := n1.lone (o := .lst (vD ++ [v])) n2 rk_lst (fun q z => by rw [n3] at z; cases z)
                refine ⟨vD, n3, by rw [f2.length]; exact hz, W7, wipE vs e6, vD ++ [v], aD ++ [y], (x2.trans n5).trans x8, k8, n2, upd_same, Fz.subAll x8 _ _ (n4.append (.cons hv7 .nil)), pN.ext (pN.ext h2 n5) x8⟩
              · rw [if_neg hz] at h2
                exact h2.elim
  · have e0 : i = rs.length := by omega
    subst e0
    rw [List.drop_length] at h2
    exact .inl ⟨it.stop W2 H2 x2, h2 D W2 H2 Ext.refl (Ok.unwip k1 x2 k2) ⟨l2.1, l2.2.1, fun i oi g1 g2 => by
      rcases re_some g1 with ⟨_, r, z, _⟩ | ⟨z, g1⟩
      · cases z
      · exact l2.2.2 i oi g1 (by rw [wipe_get z]; exact g2)⟩ ⟨vD, hd2, f2⟩⟩
def Blk (X : Cx) (C : Cf) (scope : Scope) (tg : Expr) (ifs : List Expr) (elt : Expr) (is : List Nat) (t : R → Env → Option Env) (tc : Env → Rs Bool) (fe : Env → Rs R) : Prop := ∀ (s : Shared) (H : Hp) (A : Addr) (cl : List (Str × Addr)) (fp : List Addr) (D : Addr) (o : HO), Ct (X.blk s H scope (compEnvC scope cl A X.env) fp) (C.gd D o) w0 →
      PG (X.blk s H scope (compEnvC scope cl A X.env) fp) tg (tgOf (C.gd D o) is t) ∧ PTs (X.blk s H scope (compEnvC scope cl A X.env) fp) ifs (ttOf (C.gd D o) w0 tc) ∧ PE (X.blk s H scope (compEnvC scope cl A X.env) fp) elt (tOf (C.gd D o) w0 fe)
theorem en_lc (ct : Ct X C w) (ok : BlkOk X.N X.env.scope scope own) (hi : PI X tg iter (iOf C w fi)) (hb : Blk X C scope tg ifs elt is t tc fe) (his : ∀ i ∈ is, i ∈ own.map (·.2) := by decide)
    (hs : ∀ x, foldedSetIterable iter X.env x = pure x := by intro _; rfl) : PE X (.ListComp elt [⟨tg, iter, ifs, 0⟩] scope pos) (tNew C w (lcN (own.map (·.2)) fi t tc fe)) :=
  PE.imp (pe_lc ct.calm ct.nd hi ok (fun s H A cl fp => ⟨fun pins s' σ H' v u Q I r ⟨D, o, q⟩ => (hb s H A cl fp D o ct.blk).1.run pins s' σ H' v u Q I r q⟩) (fun s H A cl fp => ⟨fun pins s' σ H' Q I ⟨D, o, q⟩ => (hb s H A cl fp D o ct.blk).2.1.run pins s' σ H' Q I q⟩)
    (fun s H A cl fp => ⟨fun pins s' σ H' Q I ⟨D, o, q⟩ => (hb s H A cl fp D o ct.blk).2.2.run pins s' σ H' Q I q⟩) hs) (lc_t his)
/-- a new root as data -/
def frz (f : Env → Rs Ob) : Env → Rs R := bnd f fun o e => match o with
  | .lst ds => .ok (.d (.list ds)) e
  | _ => .stk
theorem ev_frz {e : Expr} {f : Env → Rs Ob} (h : PE X e (tNew C w f)) : PE X e (tOf C w (frz f)) := PE.imp h fun σ H Q ⟨W, e, k, h⟩ => by
  refine ⟨W, e, k, ?_⟩
  unfold frz bnd at h
  cases q : f e with
  | stk => rw [q] at h; exact h
  | err c e' => rw [q] at h; exact h
  | ok o e' =>
    rw [q] at h
    cases o with
    | dic kvs => exact h.elim
    | ins D fs => exact h.elim
    | lst ds =>
      intro p W' H' x k' l ⟨vs, hp, f⟩
      obtain ⟨k2, x2⟩ := k'.freeze l.2.1 l.2.2
      have hp : msk (rmv p W') H' p = some (.lst vs) := by rw [msk_out (fun z => (mem_rmv.mp z).2 rfl)]; exact hp
      exact h _ _ _ (x.trans x2) k2 (.lst hp (Fz.subAll x2 _ _ f))
/-- name = [..] on one line -/
theorem ps_lc {X : Cx} {C : Cf} {w : WX} {elt tg iter : Expr} {ifs : List Expr} {scope : Scope} {own : List (Str × Nat)} {pos : Pos} {is : List Nat} {fi : Env → Rs (List R)} {t : R → Env → Option Env} {tc : Env → Rs Bool} {fe : Env → Rs R} {i : Nat} {y : Str} {py spos : Pos}
    (ct : Ct X C w) (ok : BlkOk X.N X.env.scope scope own) (hi : PI X tg iter (iOf C w fi)) (hb : Blk X C scope tg ifs elt is t tc fe) (hy : X.N[i]? = some y) (hyl : X.env.scope.names.lookup y = some .local)
    (hsw : swapsWith (.ListComp elt [⟨tg, iter, ifs, 0⟩] scope pos) (some (.Name y py)) spos.line X.env = pure true) (his : ∀ i ∈ is, i ∈ own.map (·.2)) (hs : ∀ x, foldedSetIterable iter X.env x = pure x) :
    PS X (.Assign [.Name y py] (.ListComp elt [⟨tg, iter, ifs, 0⟩] scope pos) spos) (tAsg (tNew C w (lcN (own.map (·.2)) fi t tc fe)) (gName i)) :=
  PS.imp (ps_setLc ct.calm ct.nd hy hyl hsw hi ok (fun s H A cl fp => ⟨fun pins s' σ H' v u Q I r ⟨D, o, q⟩ => (hb s H A cl fp D o ct.blk).1.run pins s' σ H' v u Q I r q⟩) (fun s H A cl fp => ⟨fun pins s' σ H' Q I ⟨D, o, q⟩ => (hb s H A cl fp D o ct.blk).2.1.run pins s' σ H' Q I q⟩)
    (fun s H A cl fp => ⟨fun pins s' σ H' Q I ⟨D, o, q⟩ => (hb s H A cl fp D o ct.blk).2.2.run pins s' σ H' Q I q⟩) hs) fun D σ H h => lc_t his σ H _ h
theorem es_lcN {X : Cx} {C : Cf} {w : WX} {elt tg iter : Expr} {ifs : List Expr} {scope : Scope} {own : List (Str × Nat)} {pos : Pos} {is : List Nat} {fi : Env → Rs (List R)} {t : R → Env → Option Env} {tc : Env → Rs Bool} {fe : Env → Rs R} {i : Nat} {y : Str} {py spos : Pos}
    (ct : Ct X C w) (ok : BlkOk X.N X.env.scope scope own) (hi : PI X tg iter (iOf C w fi)) (hb : Blk X C scope tg ifs elt is t tc fe) (his : ∀ i ∈ is, i ∈ own.map (·.2) := by decide) (hy : X.N[i]? = some y := by rfl) (hyl : X.env.scope.names.lookup y = some .local := by rfl)
    (hsw : swapsWith (.ListComp elt [⟨tg, iter, ifs, 0⟩] scope pos) (some (.Name y py)) spos.line X.env = pure true := by rfl) (hs : ∀ x, foldedSetIterable iter X.env x = pure x := by intro _; rfl) :
    PS X (.Assign [.Name y py] (.ListComp elt [⟨tg, iter, ifs, 0⟩] scope pos) spos) (tsOf C w (anS i (lcN (own.map (·.2)) fi t tc fe))) := PS.imp (ps_lc ct ok hi hb hy hyl hsw his hs) fun D σ H ⟨W, e, k, h⟩ =>
  tNew_bS k h fun p o W1 e1 H1 x1 k1 hl ho h1 => by
    split at h1
    · rename_i hi
      exact h1 _ _ _ Ext.refl (k1.setOwn hl.1 hl.2.1 hl.2.2 ho (by rw [k1.len]; exact hi))
    · exact h1.elim
theorem es_lc {X : Cx} {C : Cf} {w : WX} {elt tg iter : Expr} {ifs : List Expr} {scope : Scope} {own : List (Str × Nat)} {pos : Pos} {is : List Nat} {fi : Env → Rs (List R)} {t : R → Env → Option Env} {tc : Env → Rs Bool} {fe : Env → Rs R} {i : Nat} {y : Str} {py spos : Pos}
    (ct : Ct X C w) (ok : BlkOk X.N X.env.scope scope own) (hi : PI X tg iter (iOf C w fi)) (hb : Blk X C scope tg ifs elt is t tc fe) (his : ∀ i ∈ is, i ∈ own.map (·.2) := by decide) (hy : X.N[i]? = some y := by rfl) (hyl : X.env.scope.names.lookup y = some .local := by rfl)
    (hsw : swapsWith (.ListComp elt [⟨tg, iter, ifs, 0⟩] scope pos) (some (.Name y py)) spos.line X.env = pure true := by rfl) (hs : ∀ x, foldedSetIterable iter X.env x = pure x := by intro _; rfl) :
    PS X (.Assign [.Name y py] (.ListComp elt [⟨tg, iter, ifs, 0⟩] scope pos) spos) (tsOf C w (asS (frz (lcN (own.map (·.2)) fi t tc fe)) (setR i))) := PS.imp (ps_lc ct ok hi hb hy hyl hsw his hs) fun D σ H ⟨W, e, k, h⟩ => by
  refine ⟨W, e, k, ?_⟩
  unfold asS bS frz bnd at h
  cases q : lcN (own.map (·.2)) fi t tc fe e with
  | stk => rw [q] at h; exact h
  | err c e' => rw [q] at h; exact fun W' H' => h σ W' H'
  | ok o e' =>
    rw [q] at h
    cases o with
    | dic kvs => exact h.elim
    | ins D fs => exact h.elim
    | lst ds =>
      intro p W' H' x k' l ⟨vs, hp, f⟩
      obtain ⟨k2, x2⟩ := k'.freeze l.2.1 l.2.2
      have hp : msk (rmv p W') H' p = some (.lst vs) := by rw [msk_out (fun z => (mem_rmv.mp z).2 rfl)]; exact hp
      have hv : Vl C (rmv p W') σ H' (.ref p) (.d (.list ds)) := Fz.lst hp (Fz.subAll x2 _ _ f)
      dsimp only at h
      split at h
      · rename_i e2 q2
        exact h _ _ _ (x.trans x2) (setR_ok k2 hv q2)
      · exact h.elim
end
end Ev

set_option Elab.async false
set_option linter.all false
set_option maxRecDepth 100000
namespace Ev
open PySem L2
/-! ### in place, powers, str(..) -/
def addI : R → R → Env → Rs R := fun x y e => match x, y with
  | .d (.int i), .d (.int j) => .ok (.d (.int (i + j))) e
  | .d (.str s), .d (.str t) => if (tl s).length + (tl t).length ≤ sizeLine then .ok (txt (tl s ++ tl t)) e else .stk
  | _, _ => .stk
def rAddI : R2 := fun x y H Q => (∃ i j, x = .int i ∧ y = .int j ∧ Q (.int (i + j)) H) ∨ (∃ i j, x = .str i ∧ y = .str j ∧ i.length + j.length ≤ sizeLine ∧ Q (.str (i ++ j)) H)
def powG : R → R → Env → Rs R := fun x y e => match x, y with
  | .d (.int i), .d (.int j) => if 0 ≤ j ∧ j ≤ 1000000 ∧ i.natAbs < 2 ^ 64 then .ok (.d (.int (i ^ j.toNat))) e else .stk
  | _, _ => .stk
section
variable {X : Cx} {C : Cf} {w : WX}
theorem iop_addA : OpR X (inplaceOp .Add) rAddI := OpR.or iop_add iop_add_str
theorem iop_subA : OpR X (inplaceOp .Sub) rSub := iop_sub
theorem addI_ok : OpG C w rAddI addI := fun σ W e H v1 v2 r1 r2 Q k h1 h2 q => by
  unfold addI at q
  split at q
  · cases vl_int h1; cases vl_int h2
    exact .inl ⟨_, _, rfl, rfl, q _ _ _ Ext.refl k (.int _)⟩
  · rename_i s t
    cases vl_str h1; cases vl_str h2
    split at q
    · rename_i hz
      refine .inr ⟨_, _, rfl, rfl, by rw [← len_tl, ← len_tl]; exact hz, ?_⟩
      have e1 : s ++ t = sOf (tl s ++ tl t) := by rw [← sOf_app, sOf_tl, sOf_tl]
      rw [e1]
      exact q _ _ _ Ext.refl k (.str _)
    · exact q.elim
  · exact q.elim
theorem pow_ok : OpG C w (rI CPow fun i j => .int (i ^ j.toNat)) powG := fun σ W e H v1 v2 r1 r2 Q k h1 h2 q => by
  unfold powG at q
  split at q
  · cases vl_int h1; cases vl_int h2
    split at q
    · rename_i hc
      exact ⟨_, _, rfl, rfl, hc, q _ _ _ Ext.refl k (.int _)⟩
    · exact q.elim
  · exact q.elim
def rStrA : List V → Hp → VK → Prop := fun xs H Q => (∃ i, xs = [.int i] ∧ i.natAbs.log2 < 1920 ∧ Q (.str (toString i)) H) ∨ ∃ a, xs = [.str a] ∧ Q (.str a) H
theorem call_strA : CallR X (.type "str") rStrA := CallR.or call_str_int SkE.call_str_str
theorem str_ok : CaG C w rStrA strG := fun σ W e H vs rs Q k hv q => by
  unfold strG at q
  split at q
  · obtain ⟨v, rfl, h⟩ := hv.one
    cases vl_int h
    split at q
    · rename_i hz
      exact .inl ⟨_, rfl, hz, q _ _ _ Ext.refl k (.str _)⟩
    · exact q.elim
  · obtain ⟨v, rfl, h⟩ := hv.one
    cases vl_str h
    exact .inr ⟨_, rfl, q _ _ _ Ext.refl k (.str _)⟩
  · exact q.elim
end
/-! ### a def that calls itself -/
def mRec (n : Nat) (g : Mf → Env → Sr) : Nat → Mf
  | 0 => fun _ _ => .stk
  | k + 1 => mOf n (g (mRec n g k))
theorem dfn_stk {P : Program} {w : World} {K : PySem.W.Frag} {mg : Str → Option Value} {base : Heap} {k n : Nat} {x : Str} {T : List (Addr × Str)} {cls : Nat → Addr} {clo : Nat → ClD} {f : Addr} {fd : FuncData} {ps : List Str}
    (hm : mg x = some (.ref f)) (hk : PySem.W.keepIn K (.ref f) = true) (hb : Binds K fd ps []) (hn : ps.length = n) : Dfn P w K mg base k x (spM K T cls clo n (fun _ _ => .stk)) :=
  ⟨f, fd, ps, ⟨fun vs H Q E h => by rw [hn]; exact h.1, fun A outer s H args us vs Q E _ _ _ _ h => by
    obtain ⟨_, _, _, _, _, _, _, z⟩ := h
    exact z.elim⟩, hm, hk, hb⟩
end Ev

set_option Elab.async false
set_option linter.all false
set_option maxRecDepth 100000
namespace Ev
open PySem L2
/-! ### new roots that are handed out -/
def pRt (b : Bool) (C : Cf) (w : WX) (σ : L2.St) (W : List Addr) (H : Hp) (Q : VK) : Rs Ob → Prop
  | .ok o e' => ∀ v p W' H', Ext W H W' H' → Ok C W' e' σ H' → Rt b W' H' v p → Lone C W' e' σ p → ObOk C.K W' H' p o → Q v H'
  | .err c e' => Wx C w c e' W σ H
  | .stk => False
def tRt (b : Bool) (C : Cf) (w : WX) (f : Env → Rs Ob) : TE := fun σ H Q => ∃ W e, Ok C W e σ H ∧ pRt b C w σ W H Q (f e)
def rtO (b : Bool) (f : Env → Rs Ob) : Env → Sr := bS f fun o e => .rto b o e
theorem pRt.ext {b : Bool} {C : Cf} {w : WX} {σ : L2.St} {W W' : List Addr} {H H' : Hp} {Q : VK} {r : Rs Ob} (h : pRt b C w σ W H Q r) (x : Ext W H W' H') : pRt b C w σ W' H' Q r := by
  cases r with
  | ok o e' => exact fun v p W2 H2 y => h v p W2 H2 (x.trans y)
  | err c e' => exact Wx.ext h x
  | stk => exact h
section
variable {X : Cx} {C : Cf} {w : WX} {pos : Pos} {e : Expr} {f : Env → Rs Ob} {b : Bool}
theorem rt_new (h : PE X e (tNew C w f)) : PE X e (tRt false C w f) := PE.imp h fun σ H Q ⟨W, e, k, h⟩ => by
  refine ⟨W, e, k, ?_⟩
  revert h
  cases f e with
  | ok o e' => exact fun h p W' H' x k' l ho => h _ p W' H' x k' rfl l ho
  | err c e' => exact id
  | stk => exact id
theorem new_rt (h : PE X e (tRt false C w f)) : PE X e (tNew C w f) := PE.imp h fun σ H Q ⟨W, e, k, h⟩ => by
  refine ⟨W, e, k, ?_⟩
  revert h
  cases f e with
  | ok o e' =>
    intro h v p W' H' x k' r l ho
    have r : v = .ref p := r
    rw [r]; exact h p W' H' x k' l ho
  | err c e' => exact id
  | stk => exact id
theorem tRt_bS {σ : L2.St} {H : Hp} {D : Ends} {W : List Addr} {e : Env} {g : Ob → Env → Sr} {P : VK} (k : Ok C W e σ H) (h : pS C w σ W H D (bS f g e))
    (n : ∀ v p o W' e' H', Ext W H W' H' → Ok C W' e' σ H' → Rt b W' H' v p → Lone C W' e' σ p → ObOk C.K W' H' p o → pS C w σ W' H' D (g o e') → P v H') : tRt b C w f σ H P := by
  refine ⟨W, e, k, ?_⟩
  unfold bS at h
  cases q : f e with
  | ok r e' =>
    rw [q] at h
    exact fun v p W' H' x k' hr hl ho => n v p r W' e' H' x k' hr hl ho (pS.ext h x)
  | err c e' => rw [q] at h; exact fun W' H' => h σ W' H'
  | stk => rw [q] at h; exact h
theorem es_retO (he : PE X e (tRt b C w f)) : PS X (.Return (some e) pos) (tsOf C w (rtO b f)) := PS.imp (ps_ret he) fun D σ H ⟨W, e, k, h⟩ =>
  tRt_bS k h fun v p o W1 e1 H1 x1 k1 hr hl ho h1 => h1 v p σ W1 H1 Ext.refl k1 hr hl ho
end
/-! ### the promise -/
abbrev Mr := List R → List Ob → Rs Ob
def pR (b : Bool) (C : Cf) (W : List Addr) (H : Hp) (Q : VK) (E : XK) : Rs Ob → Prop
  | .ok o e' => ∀ v p W' H', Ext W H W' H' → Ok C W' ⟨[], e'.hs⟩ [] H' → Rt b W' H' v p → p ∈ W' → p ∉ C.W0 → ObOk C.K W' H' p o → Q v H'
  | .err c e' => ∀ W' H', Ext W H W' H' → Ok C W' ⟨[], e'.hs⟩ [] H' → E (.ref (C.cls c)) none H'
  | .stk => False
def spR (b : Bool) (K : PySem.W.Frag) (T : List (Addr × Str)) (cls : Nat → Addr) (clo : Nat → ClD) (n : Nat) (m : Mr) : Sp := fun vs H Q E => vs.length = n ∧ ∃ W as hs rs, Ok (inCf K T cls clo H W as) W ⟨[], hs⟩ [] H ∧ Vls (inCf K T cls clo H W as) W [] H vs rs ∧ pR b (inCf K T cls clo H W as) W H Q E (m rs hs)
def mOfR (b : Bool) (n : Nat) (f : Env → Sr) : Mr := fun rs hs => match f (inE n rs hs) with
  | .rto b' o e => if b' = b then .ok o ⟨[], e.hs⟩ else .stk
  | .err c e => .err c ⟨[], e.hs⟩
  | _ => .stk
theorem fn_mkR {P : Program} {w : World} {K : PySem.W.Frag} {mg : Str → Option Value} {base : Heap} {x qual : Str} {st : Stmt} {f : Addr} {fd : FuncData} {N ps : List Str} {k n nN : Nat} {T : List (Addr × Str)} {cls : Nat → Addr} {clo : Nat → ClD} {g : Env → Sr} {b : Bool} {m : Mr} (F : Fun K x qual st f fd) (S : FnScope N ps (defScope st)) (hn : ps.length = n) (hN : N.length = nN) (hm : m = mOfR b nN g)
    (hbody : ∀ (W as : List Addr) (cdv : Value) (A : Around) (outer : List PySem.Env) (s : Shared) (H : Hp) (E : XK), Room k (A.deeper (PyProof.Rows.envOfC qual (defScope st) s.heap.objs.size f cdv)) → Cs (cxOf (L2.CX P w) P w K mg base N qual (defScope st) f cdv A outer s H E) (inCf K T cls clo H W as) (wOf E) →
      PSs (cxOf (L2.CX P w) P w K mg base N qual (defScope st) f cdv A outer s H E) (defBody st) (tsOf (inCf K T cls clo H W as) (wOf E) g)) :
    FnOk P w K mg base (L2.CX P w) (k + 1) f fd ps (spR b K T cls clo n m) := by
  subst hn hN hm
  refine Fun.okX (sp := spR b K T cls clo ps.length (mOfR b N.length g)) F S (fun vs H Q E h => h.1) fun cdv A outer s H vs Q E hr h => ?_
  obtain ⟨hl, W, as, hs, rs, ok, hv, hp⟩ := h
  have ct : Cs (cxOf (L2.CX P w) P w K mg base N qual (defScope st) f cdv A outer s H E) (inCf K T cls clo H W as) (wOf E) :=
    { K := rfl, un := by have := hr.un; show (A.deeper _).units + 64 < cLine; omega, un65 := by have := hr.un; show (A.deeper _).units + 65 < cLine; omega, calm := rfl, nd := S.nd, tk := takes_of rfl rfl rfl rfl, hp := passes_of rfl }
  refine ⟨_, hbody W as cdv A outer s H E hr ct, W, inE N.length rs hs, ok.enter hv, ?_⟩
  unfold mOfR at hp
  cases q : g (inE N.length rs hs) with
  | nx e => rw [q] at hp; exact hp.elim
  | ret r e => rw [q] at hp; exact hp.elim
  | rto b' o e =>
    rw [q] at hp
    dsimp only at hp
    split at hp
    · rename_i hb
      subst hb
      exact fun v p σ' W' H' x k' hr hl ho => hp v p W' H' x k'.bare hr hl.1 hl.2.1 ho
    · exact hp.elim
  | err c e => rw [q] at hp; exact fun σ' W' H' x k' => hp _ _ x k'.bare
  | bk e => rw [q] at hp; exact hp.elim
  | ct e => rw [q] at hp; exact hp.elim
  | stk => rw [q] at hp; exact hp.elim
def caR (n : Nat) (m : Mr) (rs : List R) : Env → Rs Ob := fun e => if rs.length = n then match splitA e rs with
  | some (rs', []) => match m rs' [] with
    | .ok o _ => .ok o e
    | .err c _ => .err c e
    | .stk => .stk
  | some (rs', [(r0, o)]) => match m rs' [o] with
    | .ok ob e' => match e'.hs with
      | [o'] => .ok ob (putR e r0 o')
      | _ => .stk
    | .err c e' => match e'.hs with
      | [o'] => .err c (putR e r0 o')
      | _ => .stk
    | .stk => .stk
  | _ => .stk else .stk
section
variable {C : Cf} {w : WX} {σ : L2.St} {W : List Addr} {H : Hp} {e : Env}
theorem own_put {r0 : R} {o o' : Ob} (q : rootOf e r0 = some o) {i : Nat} {oi : Ob} (h : (putR e r0 o').sl[i]? = some (some (.own oi))) : ∃ oj, e.sl[i]? = some (some (.own oj)) := by
  cases r0 with
  | loc j =>
    simp only [rootOf] at q
    split at q
    · rename_i o2 hs
      rcases get_set (show (e.sl.set j (some (.own o')))[i]? = _ from h) with ⟨rfl, z⟩ | ⟨z, h⟩
      · exact ⟨_, hs⟩
      · exact ⟨_, h⟩
    · cases q
  | hnd j => exact ⟨_, h⟩
  | d x => exact ⟨_, h⟩
  | clo x => exact ⟨_, h⟩
  | clos x => exact ⟨_, h⟩
  | scr x => exact ⟨_, h⟩
theorem lone_new {e' : Env} {W' : List Addr} {p : Addr} (k : Ok C W e σ H) (he : ∀ (i : Nat) (oi : Ob), e'.sl[i]? = some (some (.own oi)) → ∃ oj, e.sl[i]? = some (some (SV.own oj))) (h1 : p ∈ W') (h2 : p ∉ W) : Lone C W' e' σ p := by
  refine ⟨h1, fun z => h2 (k.sub p z), fun i oi g1 g2 => ?_⟩
  obtain ⟨oj, g1⟩ := he i oi g1
  obtain ⟨v, f1, a, f2, f3, _⟩ := k.slot i _ g1
  rw [g2] at f1; cases f1; cases f2
  exact h2 f3
theorem caR_ok {b : Bool} {K : PySem.W.Frag} {n : Nat} {m : Mr} {vs : List V} {rs : List R} {Q : VK} (hK : C.K = K) (k : Ok C W e σ H) (hv : Vls C W σ H vs rs) (h : pRt b C w σ W H Q (caR n m rs e)) : spR b K C.T C.cls C.clo n m vs H Q (fun c d H' => w c d σ H') := by
  subst hK
  unfold caR at h
  split at h
  case isFalse => exact h.elim
  rename_i hn
  have hn : vs.length = n := by rw [hv.length]; exact hn
  split at h
  · rename_i rs' q
    rcases splitA_ok k hv q with ⟨_, hv'⟩ | ⟨_, _, _, z, _⟩
    · refine ⟨hn, W, [], [], rs', k.call (fun b hb => by simp at hb) .nil rfl (fun j a o h1 => by simp at h1), hv', ?_⟩
      revert h
      cases m rs' [] with
      | ok o e' => exact fun h v p W' H' x k' hr hp h0 ho => h v p W' H' x (k.back0 k' x) hr (lone_new k (fun i oi z => ⟨_, z⟩) hp h0) ho
      | err c e' => exact fun h W' H' x k' => h W' H' x (k.back0 k' x)
      | stk => exact id
    · cases z
  · rename_i rs' r0 o q
    rcases splitA_ok k hv q with ⟨z, _⟩ | ⟨r1, o1, p, z, ho, hp, hv'⟩
    · cases z
    · cases z
      obtain ⟨p', e1, e2, e3, _⟩ := root_ok k hp ho
      cases e1
      refine ⟨hn, W, [p], [o], rs', k.call (fun b hb => by simp at hb; subst hb; exact e2) (by simp) rfl (fun j a o' h1 h2 => ?_), hv', ?_⟩
      · cases j with
        | zero => simp at h1 h2; subst h1 h2; exact e3
        | succ j => simp at h1
      · revert h
        cases m rs' [o] with
        | ok ob e' =>
          dsimp only
          intro h v p2 W' H' x k' hr hp2 h0 hob
          split at h
          · rename_i o' ho'
            have k' : Ok (C.at H W [p]) W' ⟨[], [o']⟩ [] H' := by
              have := k'
              rw [ho'] at this
              exact this
            exact h v p2 W' H' x (k.back1 k' x hp ho) hr (lone_new k (fun i oi z => own_put ho z) hp2 h0) hob
          · exact h.elim
        | err c e' =>
          dsimp only
          intro h W' H' x k'
          split at h
          · rename_i o' ho'
            have k' : Ok (C.at H W [p]) W' ⟨[], [o']⟩ [] H' := by
              have := k'
              rw [ho'] at this
              exact this
            exact h W' H' x (k.back1 k' x hp ho)
          · exact h.elim
        | stk => exact id
  · exact h.elim
end
section
variable {X : Cx} {C : Cf} {w : WX} {pos p : Pos} {e : Expr} {es : List Expr} {fs : Env → Rs (List R)} {x : Str} {k n : Nat} {m : Mr} {b : Bool}
theorem taOf_bR {σ : L2.St} {H : Hp} {Q : VK} {W : List Addr} {e : Env} {f : Env → Rs (List R)} {g : List R → Env → Rs Ob} {P : List V → Hp → Prop} (k : Ok C W e σ H) (h : pRt b C w σ W H Q (bnd f g e))
    (n : ∀ v r W' e' H', Ext W H W' H' → Ok C W' e' σ H' → Vls C W' σ H' v r → pRt b C w σ W' H' Q (g r e') → P v H') : taOf C w f σ H P := by
  refine ⟨W, e, k, ?_⟩
  unfold bnd at h
  cases q : f e with
  | ok r e' =>
    rw [q] at h
    exact fun v W' H' x k' hv => n v r W' e' H' x k' hv (pRt.ext h x)
  | err c e' => rw [q] at h; exact h
  | stk => rw [q] at h; exact h
theorem er_call (ct : Ct X C w) (D : Dfn X.prog X.w X.K X.mg X.base k x (spR b X.K C.T C.cls C.clo n m)) (hr : Room k X.A) (hg : Gl X x) (ha : PA X (e :: es) (taOf C w fs)) (hdb : (x == ("__debug__" : Str)) = false := by decide)
    (he : starEach (e :: es) X.env = (false, eval e X.env) :: starEach es X.env := by rfl) (hpl : (backTo pos (starEach es X.env)).any (·.1) = false := by rfl) :
    PE X (.Call (.Name x p) (e :: es) [] pos) (tRt b C w (bnd fs (caR n m))) := by
  obtain ⟨f, fd, ps, F, hm, hk, hb⟩ := D.ex
  refine PE.imp (pe_callSD (E := WE w) F hr hg hm hk hb .nil (passAt ct.tk) ha hdb he hpl) fun σ H Q ⟨W, en, kk, h⟩ => ?_
  refine taOf_bR kk h fun vs rs W1 e1 H1 x1 k1 hv h1 => ?_
  rw [List.append_nil]
  exact caR_ok ct.K k1 hv h1
end
/-! ### [f(x) for x in cells], one cell -/
def lc1 (vs : List Nat) (fi : Env → Rs (List R)) (t : R → Env → Option Env) (fe : Env → Rs Ob) : Env → Rs Ob := bnd fi fun rs e => match rs with
  | [r] => match t r (wipE vs e) with
    | some e1 => match fe e1 with
      | .ok o e2 => .ok o (reE vs e e2)
      | _ => .stk
    | none => .stk
  | _ => .stk
def tNewG (C : Cf) (f : Env → Rs Ob) : TE := fun σ H Q => ∃ D o, tNew (C.gd D o) w0 f σ H Q
section
variable {X : Cx} {C : Cf} {w : WX} {elt tg iter : Expr} {scope : Scope} {own : List (Str × Nat)} {pos : Pos} {is : List Nat} {fi : Env → Rs (List R)} {t : R → Env → Option Env} {fe : Env → Rs Ob}
theorem pi_rt {W : List Addr} {σ : L2.St} {H : Hp} {e : Env} {Q : It → Hp → Prop} {g : List R → Env → Rs Ob} {Q' : VK} {b : Bool} (k : Ok C W e σ H) (h : pRt b C w σ W H Q' (bnd fi g e))
    (n : ∀ J rs W' e' H', Ext W H W' H' → Ok C W' e' σ H' → ItOk C J W' H' rs → pRt b C w σ W' H' Q' (g rs e') → Q J H') : iOf C w fi σ H Q := by
  refine ⟨W, e, k, ?_⟩
  unfold bnd at h
  cases q : fi e with
  | ok rs e' => rw [q] at h; exact fun J W' H' x k' it => n J rs W' e' H' x k' it (pRt.ext h x)
  | err c e' => rw [q] at h; exact h
  | stk => rw [q] at h; exact h
theorem lc1_t {vs : List Nat} (his : ∀ i ∈ is, i ∈ vs) : ∀ σ H Q, tRt true C w (lc1 vs fi t fe) σ H Q → tLc (iOf C w fi) (tgOfG C is t) tYes (tNewG C fe) vs σ H Q := fun σ H Q ⟨W, e, k, h⟩ => by
  refine pi_rt (Q' := Q) k h fun J rs W1 e1 H1 x1 k1 it h1 D hD => ?_
  obtain ⟨kD, xD⟩ := k1.newRoot (.lst []) rk_lst hD
  have dW := k1.notnone hD
  have d0 : D ∉ C.W0 := fun z => dW (k1.sub D z)
  have h0 : Nw C.H0 D := by
    rcases kD.fresh D List.mem_cons_self with z | z
    · exact absurd z d0
    · exact z
  have da : D ∉ C.as := fun z => d0 (k1.has D z)
  have lD : Lone C (D :: W1) (wipE vs e1) (wipe σ vs) D := ⟨List.mem_cons_self, d0, fun i oi g1 g2 => by
    obtain ⟨g1, z⟩ := wip_some g1
    rw [wipe_get z] at g2
    obtain ⟨v, f1, a, f2, f3, _⟩ := k1.slot i _ g1
    rw [g2] at f1; cases f1; cases f2
    exact dW f3⟩
  replace h1 := pRt.ext h1 xD
  split at h1
  case h_2 => exact h1.elim
  rename_i r
  cases q4 : t r (wipE vs e1) with
  | none => rw [q4] at h1; exact h1.elim
  | some e4 =>
    rw [q4] at h1
    dsimp only at h1
    refine ⟨fun i m H' => (i = 0 ∧ m = 1 ∧ H' = upd H1 D (.lst [])) ∨ (i = 1 ∧ m = 0 ∧ ∃ W', Ext W1 H1 W' H' ∧ Q (.ref D) H'), ⟨1, .inl ⟨rfl, rfl, rfl⟩⟩, ?_⟩
    rintro i m H2 (⟨rfl, rfl, rfl⟩ | ⟨rfl, rfl, W2, x2, q2⟩)
    · refine .inr ⟨it.go 0 _ _ xD (by simp), fun H' => ∃ W', Ext W1 H1 W' H' ∧ Q (.ref D) H', fun H' z => ⟨0, by omega, .inr ⟨rfl, rfl, z⟩⟩, fun x H3 y => ?_⟩
      have kG := (kD.wip vs).guard lD upd_same da
      obtain ⟨W3, x3, k3, hv⟩ := it.yld (C.gd D (.lst [])) rfl rfl 0 r (D :: W1) (wipE vs e1) _ _ x H3 xD kG rfl y
      refine ⟨D, .lst [], W3, wipE vs e1, r, e4, k3, hv, q4, fun σ5 W5 H5 x5 k5 b5 => ?_⟩
      have sw : wipe σ5 vs = wipe σ vs := by rw [wipe_but his b5, wipe_wipe]
      refine ⟨sw, ?_⟩
      unfold tYes
      dsimp only
      rw [if_pos rfl]
      refine ⟨D, .lst [], W5, e4, k5, ?_⟩
      cases q6 : fe e4 with
      | stk => rw [q6] at h1; exact h1.elim
      | err c e' => rw [q6] at h1; exact h1.elim
      | ok o e6 =>
        rw [q6] at h1
        dsimp only at h1
        intro q W7 H7 x7 k7 l7 ho
        have dq : q ≠ D := fun z => l7.2.1 (by rw [z]; exact List.mem_cons_self)
        have hD7 : H7 D = some (.lst []) := k7.keep D _ upd_same da ne_tbl_lst
        obtain ⟨u1, u2⟩ := k7.unguard h0 d0 k1.has
        have lq : Lone C W7 e6 σ5 q := ⟨l7.1, fun z => l7.2.1 (List.mem_cons_of_mem _ z), l7.2.2⟩
        obtain ⟨k8, x8⟩ := u1.lone (o := .lst [.ref q]) u2 rk_lst (fun q z => by rw [hD7] at z; cases z)
        have oq : ObOk C.K W7 (upd H7 D (.lst [.ref q])) q o := ho.mono (fun u hu _ => by rw [upd_ne dq]; exact hu) x8
        obtain ⟨k9, x9⟩ := k8.freeze d0 (fun i oi g1 => u2.2.2 i oi g1)
        have xx : Ext (D :: W1) (upd H1 D (.lst [])) (rmv D W7) (upd H7 D (.lst [.ref q])) := (((x3.trans x5).trans x7).trans x8).trans x9
        have mD : msk (rmv D W7) (upd H7 D (.lst [.ref q])) D = some (.lst [.ref q]) := by rw [msk_out (fun z => (mem_rmv.mp z).2 rfl), upd_same]
        refine ⟨[], hD7, by show 0 < sizeLine; decide, rmv D W7, xD.trans xx, ?_⟩
        have kw := k9.wip vs
        rw [sw] at kw
        refine h1 (.ref D) q (rmv D W7) _ xx ?_ (by show ∃ a, _; exact ⟨D, rfl, mD⟩) ⟨mem_rmv.mpr ⟨lq.1, dq⟩, lq.2.1, fun i oi g1 g2 => ?_⟩ (oq.mono (fun u hu _ => hu) x9)
        · have : Ok C (rmv D W7) (reE vs e1 (wipE vs e6)) σ (upd H7 D (.lst [.ref q])) := Ok.unwip k1 (xD.trans xx) kw
          have e9 : reE vs e1 (wipE vs e6) = reE vs e1 e6 := by
            unfold reE wipE
            congr 1
            apply List.ext_getElem?
            intro i
            simp only [List.getElem?_mapIdx]
            cases e6.sl[i]? with
            | none => rfl
            | some s => by_cases z : i ∈ vs <;> simp [z]
          rw [e9] at this
          exact this
        · rcases re_some g1 with ⟨_, r, z, _⟩ | ⟨z, g1⟩
          · cases z
          · refine lq.2.2 i oi g1 ?_
            have g3 : (wipe σ5 vs)[i]? = some (some (V.ref q)) := by rw [sw, wipe_get z]; exact g2
            rw [wipe_get z] at g3
            exact g3
    · exact .inl ⟨it.stop W2 H2 x2, q2⟩
theorem er_lc1 (ct : Ct X C w) (ok : BlkOk X.N X.env.scope scope own) (hi : PI X tg iter (iOf C w fi))
    (hb : ∀ (s : Shared) (H : Hp) (A : Addr) (cl : List (Str × Addr)) (fp : List Addr) (D : Addr) (o : HO), Ct (X.blk s H scope (compEnvC scope cl A X.env) fp) (C.gd D o) w0 →
      PG (X.blk s H scope (compEnvC scope cl A X.env) fp) tg (tgOf (C.gd D o) is t) ∧ PE (X.blk s H scope (compEnvC scope cl A X.env) fp) elt (tNew (C.gd D o) w0 fe))
    (his : ∀ i ∈ is, i ∈ own.map (·.2) := by decide) (hs : ∀ x, foldedSetIterable iter X.env x = pure x := by intro _; rfl) : PE X (.ListComp elt [⟨tg, iter, [], 0⟩] scope pos) (tRt true C w (lc1 (own.map (·.2)) fi t fe)) :=
  PE.imp (pe_lc ct.calm ct.nd hi ok (fun s H A cl fp => ⟨fun pins s' σ H' v u Q I r ⟨D, o, q⟩ => (hb s H A cl fp D o ct.blk).1.run pins s' σ H' v u Q I r q⟩) (fun s H A cl fp => pts_nil)
    (fun s H A cl fp => ⟨fun pins s' σ H' Q I ⟨D, o, q⟩ => (hb s H A cl fp D o ct.blk).2.run pins s' σ H' Q I q⟩) hs) (lc1_t his)
end
/-! ### for x in a list of one new root -/
def rdS (i : Nat) (fc : Env → Rs Ob) (f : Env → Sr) : Env → Sr := bS fc fun o e => if i < e.sl.length then lpS f .nx ⟨e.sl.set i (some (.own o)), e.hs⟩ else .stk
theorem es_rounds {X : Cx} {C : Cf} {w : WX} {pos p : Pos} {iter : Expr} {body : List Stmt} {fc : Env → Rs Ob} {f : Env → Sr} {i : Nat} {x : Str} (cs : Cs X C w) (hc : PE X iter (tRt true C w fc)) (hb : PSs X body (tsOf C w f)) (hi : X.N[i]? = some x := by rfl) (hx : Loc X.env.scope x := by first | exact .inl rfl | exact .inr rfl)
    (hf : X.fn x = true ∨ X.env.scope.names.lookup x = some .local := by first | exact .inl rfl | exact .inr rfl) (hs : ∀ x, foldedSetIterable iter X.env x = pure x := by intro _; rfl) :
    PS X (.For (.Name x p) iter body [] pos) (tsOf C w (rdS i fc f)) := PS.imp (ps_for cs.hp cs.calm (pi_list hc) (pg_name cs.nd hi hx hf) hb hs) fun D σ H ⟨W, e, k, h⟩ => by
  refine tRt_bS k h fun v q o W1 e1 H1 x1 k1 hr hl ho h1 => ?_
  obtain ⟨a, rfl, ha⟩ := (show ∃ a, v = .ref a ∧ msk W1 H1 a = some (.lst [.ref q]) from hr)
  split at h1
  case isFalse => exact h1.elim
  rename_i hlt
  refine ⟨a, rfl, ⟨_, .of (msk_some ha).2⟩, fun n m σ' H' => (n = 0 ∧ m = 1 ∧ σ' = σ ∧ H' = H1) ∨ (n = 1 ∧ m = 0 ∧ ∃ W', Ext W1 H1 W' H' ∧ D.nx σ' H'), ⟨1, .inl ⟨rfl, rfl, rfl, rfl⟩⟩, ?_⟩
  rintro n m σ2 H2 (⟨rfl, rfl, rfl, rfl⟩ | ⟨rfl, rfl, W2, x2, q2⟩)
  · refine .inr ⟨⟨_, _, .of (msk_some ha).2, rfl⟩, fun σ' H' => ∃ W', Ext W1 H2 W' H' ∧ D.nx σ' H', fun σ' H' z => ⟨0, by omega, .inr ⟨rfl, rfl, z⟩⟩, fun y H3 hy => ?_⟩
    obtain ⟨rfl, hy⟩ := hy
    have e1 := hy _ (.of (msk_some ha).2)
    simp at e1
    subst e1
    have k2 := k1.setOwn (i := i) hl.1 hl.2.1 hl.2.2 ho (by rw [k1.len]; exact hlt)
    refine ⟨W1, _, k2, lp_of (pS.sig h1) fun e' σ' W' H' x k p => ⟨W', x, p σ' W' H' Ext.refl k⟩⟩
  · exact .inl ⟨⟨_, .of (msk_some (x2 _ _ ha ne_tbl_lst)).2, by simp⟩, q2⟩
end Ev

set_option Elab.async false
set_option linter.all false
set_option maxRecDepth 100000
namespace Ev
open PySem L2
/-! ### told(lambda: ..) -/
theorem Ok.extN {C : Cf} {W : List Addr} {e : Env} {σ : L2.St} {H H1 : Hp} (k : Ok C W e σ H) (n : LamX.ExtN H H1) (t : LamX.Tabs C.T H1) : Ok C W e σ H1 ∧ Ext W H W H1 := by
  have x : Ext W H W H1 := fun b u h hn => by
    obtain ⟨h1, h2⟩ := msk_some h
    rw [msk_out h1]; exact n b u h2 hn
  refine ⟨⟨fun b u h1 h2 h3 => n b u (k.keep b u h1 h2 h3) h3, k.fresh, k.sub, fun b hb => ?_, k.has, k.nd, t, fun i sv h => ?_, k.hlen, fun j a ob h1 h2 => (k.hnds j a ob h1 h2).mono (fun u hu hn => n a u hu hn) x, k.len, k.dist⟩, x⟩
  · obtain ⟨o, h1, h2⟩ := k.live b hb
    exact ⟨o, n b o h1 h2.1, h2⟩
  · obtain ⟨v, h1, h2⟩ := k.slot i sv h
    refine ⟨v, h1, ?_⟩
    cases sv with
    | fro r => exact ⟨h2.1, h2.2.ext x⟩
    | own ob =>
      obtain ⟨a, e1, e2, e3, e4⟩ := h2
      exact ⟨a, e1, e2, e3, e4.mono (fun u hu hn => n a u hu hn) x⟩
def toldV (c : Nat) (ret : List Nat) (f : Env → Rs R) : Env → Rs R := fun e => match f e with
  | .ok r e' => okR r e'
  | .err c' e' => if c' = c then .ok (txt ret) e' else .stk
  | .stk => .stk
/-- what a def that makes lambdas asks -/
structure Lm (X : Cx) (C : Cf) : Prop where
  ex : ∃ c P, LamX.TabB X.base X.mg c P ∧ X.env.code = .ref c ∧ (P, X.env.qual ++ "<lambda>") ∈ C.T ∧ ∀ p ∈ C.T, p.1 = P → p.2 = X.env.qual ++ "<lambda>"
/-- the def that calls what it gets: try: return a() / except E: return ret -/
structure Told (P : Program) (w : World) (K : PySem.W.Frag) (mg : Str → Option Value) (x : Str) (CS : Addr) (ret : Str) : Prop where
  ex : ∃ (g : Addr) (pg : Arguments) (sg : Scope) (dV kV doc pm cdv ct oc : Value) (an od : Option Addr) (osl : Array (Option Value)) (a e : Str) (j : Nat) (p1 p2 p3 p4 p5 p6 p7 p8 : Pos),
    mg x = some (.ref g) ∧ PySem.W.keepIn K (.ref g) = true ∧
    K.lookup g = some ⟨oc, od, .func (PySem.W.fnOf x x pg [.Try [.Return (some (.Call (.Name a p1) [] [] p2)) p3] [.ExceptHandler (some (.Name e p4)) none [.Return (some (.Constant (.str ret) j p5)) p6] p7] [] [] p8] sg dV kV doc pm an cdv ct), osl⟩ ∧
    PySem.W.codeIn K cdv x = true ∧ L2.Binds K (PySem.W.fnOf x x pg [.Try [.Return (some (.Call (.Name a p1) [] [] p2)) p3] [.ExceptHandler (some (.Name e p4)) none [.Return (some (.Constant (.str ret) j p5)) p6] p7] [] [] p8] sg dV kV doc pm an cdv ct) [a] [] ∧
    FnScope [a] [a] sg ∧ Vis sg a ∧ sg.names.lookup e = some .globalImplicit ∧ mg e = some (.ref CS) ∧ (e == ("__debug__" : Str)) = false ∧ (a == ("__debug__" : Str)) = false ∧ (a == ("__classdict__" : Str)) = false
section
variable {X : Cx} {C : Cf} {w : WX} {x : Str} {c k : Nat} {ret : List Nat} {params : Arguments} {body : Expr} {scope : Scope} {p lpos pos : Pos} {fb : Env → Rs R}
theorem ev_told (ct : Ct X C w) (lm : Lm X C) (T : Told X.prog X.w X.K X.mg x (C.cls c) (sOf ret)) (hx : PySem.W.exmOne X.K (.ref (C.cls c)) (.ref (C.cls c)) = some true) (hr : Room (k + 2) X.A)
    (hbody : ∀ (A : Around) (outer : List PySem.Env) (s : Shared) (H : Hp) (E : XK) (f c' : Addr), Room k (A.deeper (LamX.lamEnv X scope s.heap.objs.size f c')) → Ct (LamX.lamCx X A outer s H E scope f c') C (wOf E) → PE (LamX.lamCx X A outer s H E scope f c') body (tOf C (wOf E) fb))
    (hg : Gl X x := by rfl) (L : LamX.LamS X.env.scope scope := by exact LamX.lamS_by (by rfl)) (hdef : defaultsOf params X.env = ([], []) := by rfl)
    (hbind : ∀ (q : Str) (cl : List (Str × Addr)) (pm cv ctv : Value), bindArgs (PySem.W.kla_fn "<lambda>" q params body scope cl pm cv ctv) ⟨[], []⟩ = pure [] := by intros; rfl)
    (hdb : (x == ("__debug__" : Str)) = false := by decide) :
    PE X (.Call (.Name x p) [.Lambda params body scope lpos] [] pos) (tOf C w (toldV c ret fb)) := by
  obtain ⟨co, P, TB, hcode, hmT, hu⟩ := lm.ex
  obtain ⟨g, pg, sg, dV, kV, doc, pm, cdv, ct', oc, an, od, osl, a, e, j, p1, p2, p3, p4, p5, p6, p7, p8, hm, hk, lk, hcg, hb, Sg, hva, hge, hme, hde, hda, hca⟩ := T.ex
  refine PE.imp (LamX.pe_lamcall (T := C.T) (Ng := [a]) (t := fun E => tOf C (wOf E) fb) hg hm hk lk hcg hb Sg rfl hva (LamX.told_gives hge hme hde fun _ => rfl) TB hcode hmT hu hr L hdef hbind (fun A outer s H E f c' hr' => hbody A outer s H E f c' hr' ?_) hdb hda hca) fun σ H Q ⟨W, en, kk, h⟩ => ⟨kk.tabs, fun H1 n t => ?_⟩
  · exact { K := ct.K, un := by have := hr'.un; show (A.deeper _).units + 64 < cLine; omega, un65 := by have := hr'.un; show (A.deeper _).units + 65 < cLine; omega, calm := rfl, nd := ct.nd, tk := takes_of rfl rfl rfl rfl }
  · obtain ⟨k1, x1⟩ := kk.extN n t
    refine ⟨W, en, k1, ?_⟩
    replace h := pO.ext h x1
    unfold toldV at h
    cases q : fb en with
    | stk => rw [q] at h; exact h
    | ok r e' =>
      rw [q] at h
      dsimp only at h
      cases r with
      | d y => exact h
      | loc i => exact h.elim
      | hnd i => exact h.elim
      | clo i => exact h.elim
      | clos i => exact h.elim
      | scr i => exact h.elim
    | err c2 e' =>
      rw [q] at h
      dsimp only at h
      intro W' H' x' k'
      split at h
      · rename_i hc
        subst hc
        exact ⟨true, hx, fun _ => h _ W' H' x' k' (.str _), fun z => nomatch z⟩
      · exact h.elim
end
end Ev

set_option Elab.async false
set_option linter.all false
set_option maxRecDepth 100000
namespace Ev
open PySem PySem.Spec PyProof.Rows L2 LamX
/-! ### a closed lambda as a value -/
theorem clo_nil : ∀ {cells : List (Str × Addr)} {names : List (Str × NameKind)}, (∀ y ∈ names, y.2 ≠ .free) → cloFrom cells names [] = []
  | _, [], _ => rfl
  | cells, (n, k) :: r, h => by
    unfold cloFrom
    rw [if_neg (by simpa using h (n, k) List.mem_cons_self)]
    exact clo_nil fun y hy => h y (List.mem_cons_of_mem _ hy)
section
variable {X : Cx} {pins : List (Addr × Obj)} {σ : L2.St} {H : Hp} {s : Shared}
theorem inv_clo {h' : Heap} {d : ClD} {c' : Addr} {pm ctv : Value} {tk : Nat} (I : Inv X pins σ H { s with heap := h', toks := tk }) (hc : H c' = some (CodeO c' d.q)) :
    Inv X pins σ (upd H h'.objs.size (CloO d h'.objs.size c')) { s with heap := h'.push (PySem.W.kla_obj "<lambda>" d.q d.params d.body d.scope [] pm c' ctv), toks := tk } := by
  refine I.laid (a := h'.objs.size) (t' := tk) (fun b o e => Heap.get?_push_of_some _ e) (Nat.le_refl _) ⟨⟨pm, ctv, Heap.get?_push_size _ rfl⟩, ⟨_, Heap.get?_push_size _ rfl⟩, fun h1 h2 ⟨pm, ctv, e⟩ k => ⟨pm, ctv, k _ e⟩⟩
/-- the making: the closure is held -/
theorem lam_make3 {T : List (Addr × Str)} {c P : Addr} {params : Arguments} {body : Expr} {scope : Scope} {pos : Pos} {E : Value → Shared → Prop} {Q : Value → Shared → Prop} (I : Inv X pins σ H s) (TB : TabB X.base X.mg c P) (hcode : X.env.code = .ref c)
    (hm : (P, X.env.qual ++ "<lambda>") ∈ T) (hu : ∀ p ∈ T, p.1 = P → p.2 = X.env.qual ++ "<lambda>") (hT : Tabs T H) (hdef : defaultsOf params X.env = ([], [])) (hfree : ∀ y ∈ scope.names, y.2 ≠ .free)
    (h : ∀ (f c' : Addr) (H1 H2 : Hp) (s' : Shared), Inv X pins σ H2 s' → ExtN H H1 → Tabs T H1 → H1 f = none → H2 = upd H1 f (CloO ⟨params, body, scope, X.env.qual ++ "<lambda>"⟩ f c') → H1 c' = some (CodeO c' (X.env.qual ++ "<lambda>")) → Q (.ref f) s') :
    wpAny (model X.prog X.w) X.A (eval (.Lambda params body scope pos) X.env) Q E s := by
  obtain ⟨ps, hP, ht, ha⟩ := hT _ hm
  refine PySem.W.kla_eval hdef ?_
  have bP : s.heap.BuiltinsAt X.mg P := TB.bm.keeps I.bk
  have hP' : s.heap.get? P = some { cls := .none, data := .fields ps } := I.hok P _ hP
  have hcl : cloFrom X.env.cells scope.names [] = [] := clo_nil hfree
  have hok : closureFor scope X.env = pure [] := by rw [closure_ok (fun y hy e => absurd e (hfree y hy)), hcl]
  cases hc : codeAmong pos ps.toList with
  | none =>
    refine PySem.W.kla_makeFunction (mg := X.mg) (c := c) (P := P) (ps := ps) hok I.ok.glob (I.mod.glob.keeps I.bk) hcode (TB.code.keeps I.bk) hP' ht hc TB.gP bP fun c' ctv h' tk hx hge hlt hrec htb => ?_
    obtain ⟨c2, oc, vs, t, e2, hoc, hd, hv⟩ := hrec
    cases e2
    have hsz : s.heap.objs.size ≤ h'.objs.size := Nat.le_trans hge (Nat.le_of_lt hlt)
    have nC : H c' = none := I.hok.fresh hge
    have I0 := inv_table (t' := tk) (more := #[rawInt pos.line, rawInt pos.col, .ref c']) (h' := h') I hP hx htb hge ⟨oc, vs, t, hoc, hd, hv⟩
    have hE : ExtN H (upd (upd H P (.tbl (ps ++ #[rawInt pos.line, rawInt pos.col, .ref c']))) c' (CodeO c' (X.env.qual ++ "<lambda>"))) := fun b o e n => by
      rw [upd_ne (ne_of_none e nC), upd_ne (fun z => n ps (Option.some.inj (e.symm.trans (by rw [z]; exact hP))))]
      exact e
    have eL : (ps ++ #[rawInt pos.line, rawInt pos.col, .ref c']).toList = ps.toList ++ [rawInt pos.line, rawInt pos.col, .ref c'] := by simp
    refine h h'.objs.size c' _ _ _ (inv_clo (d := ⟨params, body, scope, X.env.qual ++ "<lambda>"⟩) (pm := (X.mg "__name__").getD .none) (ctv := ctv) I0 upd_same) hE (fun p hp => ?_) ?_ rfl upd_same
    · by_cases hb : p.1 = P
      · rw [hu p hp hb, hb]
        refine ⟨_, by rw [upd_ne (ne_of_none hP nC), upd_same], by rw [eL]; exact PySem.TriplesOk_snoc _ _ _ _ ht, fun p' cv hcv => ?_⟩
        rw [eL] at hcv
        rcases among_app _ ht hcv with z | z
        · obtain ⟨c0, e1, e2⟩ := ha p' cv z
          exact ⟨c0, e1, hE _ _ e2 codeO_ne⟩
        · exact ⟨c', z, upd_same⟩
      · obtain ⟨ps', a1, a2, a3⟩ := hT p hp
        refine ⟨ps', by rw [upd_ne (ne_of_none a1 nC), upd_ne hb]; exact a1, a2, fun p' cv hcv => ?_⟩
        obtain ⟨c0, e1, e2⟩ := a3 p' cv hcv
        exact ⟨c0, e1, hE _ _ e2 codeO_ne⟩
    · have n1 : h'.objs.size ≠ c' := Nat.ne_of_gt hlt
      have n2 : h'.objs.size ≠ P := Nat.ne_of_gt (Nat.lt_of_lt_of_le (Heap.lt_size hP') hsz)
      rw [upd_ne n1, upd_ne n2]
      exact I.hok.fresh hsz
  | some cv =>
    obtain ⟨c', e, hco⟩ := ha pos cv hc
    subst e
    refine PySem.W.kla_makeFunctionHit (mg := X.mg) (c := c) (P := P) (ps := ps) hok I.ok.glob (I.mod.glob.keeps I.bk) hcode (TB.code.keeps I.bk) hP' ht hc bP fun ctv h' tk hx hsz => ?_
    have I0 : Inv X pins σ H { s with heap := h', toks := tk } := I.kept fun b o e => hx b o e
    exact h h'.objs.size c' H _ _ (inv_clo (d := ⟨params, body, scope, X.env.qual ++ "<lambda>"⟩) (pm := (X.mg "__name__").getD .none) (ctv := ctv) I0 hco) (ExtN.refl H) hT (I.hok.fresh hsz) rfl hco
end
section
variable {X : Cx} {C : Cf} {w : WX} {pos : Pos} {params : Arguments} {body : Expr} {scope : Scope} {i : Nat}
theorem ev_lam (lm : Lm X C) (hc : C.clo i = ⟨params, body, scope, X.env.qual ++ "<lambda>"⟩) (hfree : ∀ y ∈ scope.names, y.2 ≠ .free := by decide) (hdef : defaultsOf params X.env = ([], []) := by rfl) :
    PE X (.Lambda params body scope pos) (tOf C w (cst (.clo i))) := ⟨fun pins s σ H Q I ⟨W, e, k, h⟩ => by
  obtain ⟨co, P, TB, hcode, hmT, hu⟩ := lm.ex
  refine lam_make3 I TB hcode hmT hu k.tabs hdef hfree fun f c' H1 H2 s' I2 n t hf e2 hco => ?_
  obtain ⟨k1, x1⟩ := k.extN n t
  obtain ⟨k2, x2, hf2⟩ := k1.new (CloO ⟨params, body, scope, X.env.qual ++ "<lambda>"⟩ f c') hf
  rw [← e2] at k2 x2 hf2
  have cW : c' ∉ W := fun z => by
    obtain ⟨o, g1, g2⟩ := k.live c' z
    have g3 := n c' o g1 g2.1
    rw [hco] at g3
    exact g2.2 _ (Option.some.inj g3).symm
  refine ⟨.ref f, H2, I2, rfl, h _ _ _ (x1.trans x2) k2 ⟨f, rfl, ?_⟩⟩
  rw [hc]
  exact ⟨c', hf2, x2 _ _ (by rw [msk_out cW]; exact hco) (fun ps z => nomatch z)⟩⟩
end
end Ev

set_option Elab.async false
set_option linter.all false
set_option maxRecDepth 100000
namespace Ev
open PySem PySem.Spec PyProof.Rows L2 LamX
/-! ### a list of closures -/
def isClo : Nat → List R → Bool
  | _, [] => true
  | i, .clo j :: rs => (i == j) && isClo (i + 1) rs
  | _, _ => false
def closG : List R → Env → Rs R := fun rs e => if isClo 0 rs = true ∧ rs.length ≤ sizeLine then .ok (.clos rs.length) e else .stk
theorem clos_ok {C : Cf} {W : List Addr} {σ : L2.St} {H : Hp} : ∀ {vs : List V} {rs : List R} {i : Nat}, Vls C W σ H vs rs → isClo i rs = true → ∃ fs : List Addr, vs = fs.map V.ref ∧ fs.length = rs.length ∧ ∀ j f, fs[j]? = some f → CloAt (msk W H) (C.clo (i + j)) f
  | _, _, _, .nil, _ => ⟨[], rfl, rfl, fun j f h => by simp at h⟩
  | _, _, i, .cons (r := r) h t, q => by
    cases r with
    | clo j =>
      simp only [isClo, Bool.and_eq_true, beq_iff_eq] at q
      obtain ⟨f, rfl, hf⟩ := h
      obtain ⟨fs, rfl, hl, hc⟩ := clos_ok t q.2
      refine ⟨f :: fs, rfl, by simp [hl], fun m g hm => ?_⟩
      cases m with
      | zero => simp at hm; subst hm; rw [Nat.add_zero, q.1]; exact hf
      | succ m =>
        have := hc m g (by simpa using hm)
        rw [show i + (m + 1) = i + 1 + m by omega]; exact this
    | d x => simp [isClo] at q
    | loc x => simp [isClo] at q
    | hnd x => simp [isClo] at q
    | clos x => simp [isClo] at q
    | scr x => simp [isClo] at q
def itC (r : R) : Env → Rs (List R) := fun e => match r with
  | .clos n => .ok ((List.range n).map .clo) e
  | _ => .stk
section
variable {X : Cx} {C : Cf} {w : WX} {pos : Pos} {es : List Expr} {tg l : Expr} {fs : Env → Rs (List R)} {fa : Env → Rs R}
theorem ev_clos (h : PA X es (taOf C w fs)) : PE X (.List es pos) (tOf C w (bnd fs closG)) := PE.imp (pe_lst h) fun σ H Q ⟨W, e, k, h⟩ => by
  refine taOf_bnd k h fun vs rs W1 e1 H1 x1 k1 hv h1 => ?_
  unfold closG at h1
  split at h1
  · rename_i hz
    refine ⟨by rw [hv.length]; exact hz.2, fun p hp => ?_⟩
    obtain ⟨gs, rfl, hl, hc⟩ := clos_ok hv hz.1
    obtain ⟨k2, x2, e2⟩ := k1.new (.lst (gs.map V.ref)) hp
    exact h1 _ _ _ x2 k2 ⟨p, gs, rfl, e2, hl, fun i f hf => by
      have := (hc i f hf).sub x2
      rw [Nat.zero_add] at this; exact this⟩
  · exact h1.elim
theorem it_clos {W : List Addr} {H : Hp} {a : Addr} {gs : List Addr} (h : msk W H a = some (.lst (gs.map V.ref))) (f : ∀ i f, gs[i]? = some f → CloAt (msk W H) (C.clo i) f) : ItOk C (Itl C.K a) W H ((List.range gs.length).map .clo) where
  nl := fun r hr i z => by
    obtain ⟨n, _, rfl⟩ := List.mem_map.mp hr
    cases z
  go := fun i W' H' x hi => by
    have hi' : i < (gs.map V.ref).length := by simpa using hi
    exact ⟨_, _, .of ((msk_some (x _ _ h ne_tbl_lst)).2), List.getElem?_eq_getElem hi'⟩
  yld := fun C' hC hcl i r W' e σ H' y H'' x k hr hy => by
    obtain ⟨rfl, hy⟩ := hy
    rw [List.getElem?_map] at hr
    by_cases hi : i < gs.length
    · rw [List.getElem?_range hi] at hr
      cases hr
      have e1 := hy _ (.of ((msk_some (x _ _ h ne_tbl_lst)).2))
      rw [List.getElem?_map, List.getElem?_eq_getElem hi] at e1
      cases e1
      refine ⟨W', Ext.refl, k, gs[i], rfl, ?_⟩
      rw [hcl]
      exact (f i _ (List.getElem?_eq_getElem hi)).sub x
    · rw [List.getElem?_eq_none (by simpa using hi)] at hr; cases hr
  stop := fun W' H' x => ⟨_, .of ((msk_some (x _ _ h ne_tbl_lst)).2), by simp⟩
theorem ei_clos (ct : Ct X C w) (hl : PE X l (tOf C w fa)) : PI X tg l (iOf C w (bnd fa itC)) := PI.imp (pi_list hl) fun σ H Q ⟨W, e, k, h⟩ => by
  refine ⟨W, e, k, ?_⟩
  unfold bnd at h
  cases q : fa e with
  | stk => rw [q] at h; exact h
  | err c e' => rw [q] at h; exact h
  | ok r e' =>
    rw [q] at h
    cases r with
    | d y => exact h.elim
    | loc y => exact h.elim
    | hnd y => exact h.elim
    | clo y => exact h.elim
    | scr y => exact h.elim
    | clos n =>
      intro v W' H' x k' hv
      obtain ⟨a, gs, rfl, h1, rfl, h3⟩ := hv
      rw [← ct.K]
      exact ⟨a, rfl, ⟨_, .of (msk_some h1).2⟩, h _ _ _ x k' (it_clos h1 h3)⟩
end
/-! ### told(f) -/
section
variable {X : Cx} {pins : List (Addr × Obj)} {σ : L2.St} {H HZ : Hp} {s s1 : Shared}
theorem pe_actC {CXg : CXT} {Eg : XK} {Ng : List Str} {qg : Str} {sg : Scope} {g f c' : Addr} {cdg : Value} {d : ClD} {k i : Nat} {a : Str} {pn : List (Addr × Obj)} {xe : Value → Shared → Prop} {W : WX} {E : XK} {tb : TE} {p1 p2 : Pos}
    (I : Inv X pins σ H s) (hq : d.q = X.env.qual ++ "<lambda>") (hfree : ∀ y ∈ d.scope.names, y.2 ≠ .free) (L : LamS X.env.scope d.scope)
    (hbind : ∀ pm cv ctv : Value, bindArgs (PySem.W.kla_fn "<lambda>" d.q d.params d.body d.scope [] pm cv ctv) ⟨[], []⟩ = pure [])
    (tk : Takes ((cxOf CXg X.prog X.w X.K X.mg X.base Ng qg sg g cdg X.A X.stack s H Eg).tr pn xe) W) (hW : ∀ cls d σ' H', E cls d H' → W cls d σ' H') (hr : Room (k + 1) (X.A.deeper (envOfC qg sg s.heap.objs.size g cdg)))
    (hbody : ∀ (A : Around) (outer : List PySem.Env) (s : Shared) (H : Hp), Room k (A.deeper (lamEnv X d.scope s.heap.objs.size f c')) → PE (lamCx X A outer s H E d.scope f c') d.body tb)
    (hN : Ng[i]? = some a) (hv : Vis sg a) (hd : (a == ("__debug__" : Str)) = false) (hcd : (a == ("__classdict__" : Str)) = false) :
    PE ((cxOf CXg X.prog X.w X.K X.mg X.base Ng qg sg g cdg X.A X.stack s H Eg).tr pn xe) (.Call (.Name a p1) [] [] p2)
      (fun σZ HZ Q => σZ[i]? = some (some (.ref f)) ∧ HZ c' = some (CodeO c' d.q) ∧ (HZ f = some (CloO d f c') ∧ tb σ HZ Q)) := by
  refine ⟨fun pinsZ sZ σZ HZ Q IZ h => ?_⟩
  obtain ⟨hs, hc, hcl, ht⟩ := h
  refine wpAny_Call_Name_kw (thn ((pe_var (pos := p1) (i := i) hN hv hd hcd).run pinsZ sZ σZ HZ (fun v H1 => v = .ref f ∧ H1 = HZ) IZ ⟨.ref f, hs, rfl, rfl⟩) fun u s1 ⟨v, H1, I1, r1, q1⟩ => ?_)
  obtain ⟨ev, eH⟩ := q1
  subst ev
  rw [eH] at I1
  obtain rfl : u = Value.ref f := r1
  have hnil : cloFrom X.env.cells d.scope.names [] = [] := clo_nil hfree
  obtain ⟨⟨pm, ctv, of0⟩, _, _⟩ := I1.hok f _ hcl
  have of1 : s1.heap.get? f = some (PySem.W.kla_obj "<lambda>" (X.env.qual ++ "<lambda>") d.params d.body d.scope (cloFrom X.env.cells d.scope.names []) pm c' ctv) := by rw [hnil, ← hq]; exact of0
  refine PySem.W.callWith_F0 ⟨_, _, _, _, of1⟩ ?_
  have un : Un (frs X.stack) [] H HZ s.heap s1.heap := I1.base
  obtain ⟨⟨oc, vs, t, hoc, hdc, hvc⟩, _, _⟩ := I1.hok c' _ hc
  rw [hq] at hvc
  have rc : codeAny (model X.prog X.w) (X.A.deeper (envOfC qg sg s.heap.objs.size g cdg)) (.call (.ref f) ⟨[], []⟩) (CR (L2.CX X.prog X.w) (envOfC qg sg s.heap.objs.size g cdg :: X.stack) X.prog X.w HZ s1 Q E) s1 := by
    refine PySem.W.kla_callFunE hr.depth of1 rfl L.co L.gen rfl ⟨c', oc, vs, t, rfl, hoc, hdc, hvc⟩ ?_
    have hb := hbind pm (.ref c') ctv
    rw [hq] at hb
    rw [hnil, hb]
    refine wpAny_pure (wpAny_newFunctionEnv (fun y hy => (L.own y hy).2) (fun y hy => absurd hy (by simp)) (fun h₁ hns hsb => ⟨I1.nolimit.fresh _ hsb, ?_⟩) L.kind)
    rw [← hnil]
    show codeAny _ _ (.expr d.body (lamEnv X d.scope s1.heap.objs.size f c')) _ _
    have kp : ∀ b o, s1.heap.get? b = some o → h₁.get? b = some o := fun b o e => hsb.extBut b o (Nat.ne_of_lt (Heap.lt_size e)) (Heap.get?_push_of_some _ e)
    have J : Inv (lamCx X (X.A.deeper (envOfC qg sg s.heap.objs.size g cdg)) (envOfC qg sg s.heap.objs.size g cdg :: X.stack) s1 HZ E d.scope f c') [] σ HZ { s1 with heap := h₁, toks := s1.toks + ([] : List (Str × Value)).length } :=
      lam_start2 I L I1.env0 hr.hd un hns kp
    refine PySem.W.kla_codeExpr (wpAny_mono ((hbody _ _ s1 HZ (hr.deeper _)).run [] _ _ HZ Q J ht) (fun v s' hq => ?_) fun e s' hq => hq)
    obtain ⟨w', H', J', rv, q⟩ := hq
    exact ⟨w', H', J'.os, J'.bare, J'.base, J'.hok, rv, q⟩
  have hx : Passes (L2.CX X.prog X.w) ((cxOf CXg X.prog X.w X.K X.mg X.base Ng qg sg g cdg X.A X.stack s H Eg).tr pn xe) E := passes_call tk hW
  refine wpAny_call (codeAny_mono rc fun r s' hq => ?_)
  cases r with
  | error e => exact hx pinsZ σZ HZ s1 e s' I1 hq
  | ok fl =>
    cases fl with
    | ret u => exact I1.after hq
    | next => exact False.elim hq
    | brk => exact False.elim hq
    | cont => exact False.elim hq
end
def toldC (c : Nat) (ret : List Nat) (n : Nat) (fbs : Nat → Env → Rs R) : List R → Env → Rs R := fun rs e => match rs with
  | [.clo i] => if i < n then toldV c ret (fbs i) e else .stk
  | _ => .stk
section
variable {X : Cx} {C : Cf} {w : WX} {x : Str} {c k n : Nat} {ret : List Nat} {p pos : Pos} {e : Expr} {fs : Env → Rs (List R)} {fbs : Nat → Env → Rs R}
theorem ev_toldC (ct : Ct X C w) (T : Told X.prog X.w X.K X.mg x (C.cls c) (sOf ret)) (hx : PySem.W.exmOne X.K (.ref (C.cls c)) (.ref (C.cls c)) = some true) (hr : Room (k + 2) X.A) (ha : PA X [e] (taOf C w fs))
    (hq : ∀ i, i < n → (C.clo i).q = X.env.qual ++ "<lambda>") (hfree : ∀ i, i < n → ∀ y ∈ (C.clo i).scope.names, y.2 ≠ .free) (hL : ∀ i, i < n → LamS X.env.scope (C.clo i).scope)
    (hbind : ∀ i, i < n → ∀ pm cv ctv : Value, bindArgs (PySem.W.kla_fn "<lambda>" (C.clo i).q (C.clo i).params (C.clo i).body (C.clo i).scope [] pm cv ctv) ⟨[], []⟩ = pure [])
    (hbody : ∀ i, i < n → ∀ (A : Around) (outer : List PySem.Env) (s : Shared) (H : Hp) (E : XK) (f c' : Addr), Room k (A.deeper (lamEnv X (C.clo i).scope s.heap.objs.size f c')) → Ct (lamCx X A outer s H E (C.clo i).scope f c') C (wOf E) → PE (lamCx X A outer s H E (C.clo i).scope f c') (C.clo i).body (tOf C (wOf E) (fbs i)))
    (hg : Gl X x := by rfl) (hdb : (x == ("__debug__" : Str)) = false := by decide) (he : starEach [e] X.env = (false, eval e X.env) :: starEach [] X.env := by rfl) (hpl : (backTo pos (starEach [] X.env)).any (·.1) = false := by rfl) :
    PE X (.Call (.Name x p) [e] [] pos) (tOf C w (bnd fs (toldC c ret n fbs))) := by
  obtain ⟨g, pg, sg, dV, kV, doc, pm, cdv, ct', oc, an, od, osl, a, ee, j, p1, p2, p3, p4, p5, p6, p7, p8, hm, hk, lk, hcg, hb, Sg, hva, hge, hme, hde, hda, hca⟩ := T.ex
  refine ⟨fun pins s σ H Q I ⟨W, en, kk, h⟩ => ?_⟩
  refine wpAny_Call_Name_kw (ld_glob I hg hm ?_ hdb)
  refine PySem.W.callWith_K (h₀ := X.base) I.ok.mod.kin hk (thn (ha.run pos pins s σ H (fun vs H1 => ∃ f c' i W1 e1, vs = [.ref f] ∧ i < n ∧ Ok C W1 e1 σ H1 ∧ H1 f = some (CloO (C.clo i) f c') ∧ H1 c' = some (CodeO c' (C.clo i).q) ∧ pO C w σ W1 H1 Q (toldV c ret (fbs i) e1)) I (taOf_bnd kk h fun vs rs W1 e1 H1 x1 k1 hv h1 => ?_)) fun us s1 ⟨vs, H1, I1, r1, q1⟩ => ⟨I1.kIn, ?_⟩) he hpl
  · unfold toldC at h1
    split at h1
    · obtain ⟨v, rfl, f, rfl, c', g1, g2⟩ := hv.one
      split at h1
      · rename_i hi
        exact ⟨f, c', _, W1, e1, rfl, hi, k1, (msk_some g1).2, (msk_some g2).2, h1⟩
      · exact h1.elim
    · exact h1.elim
  · obtain ⟨f, c', i, W1, e1, rfl, hi, k1, hf, hc, h1⟩ := q1
    obtain ⟨u, rfl, rfl⟩ := vals1 r1
    have tt : TTold X.K (C.cls c) (sOf ret) (fun E H' Q' => H' f = some (CloO (C.clo i) f c') ∧ tOf C (wOf E) (fbs i) σ H' Q') H1 Q := by
      refine ⟨hf, W1, e1, k1, ?_⟩
      unfold toldV at h1
      cases q : fbs i e1 with
      | stk => rw [q] at h1; exact h1
      | ok r e' =>
        rw [q] at h1
        dsimp only at h1
        cases r with
        | d y => exact h1
        | loc i => exact h1.elim
        | hnd i => exact h1.elim
        | clo i => exact h1.elim
        | clos i => exact h1.elim
        | scr i => exact h1.elim
      | err c2 e' =>
        rw [q] at h1
        dsimp only at h1
        intro W' H' x' k'
        split at h1
        · rename_i hc2
          subst hc2
          exact ⟨true, hx, fun _ => h1 _ W' H' x' k' (.str _), fun z => nomatch z⟩
        · exact h1.elim
    have rc : codeAny (model X.prog X.w) X.A (.call (.ref g) ⟨[.ref f], []⟩) (CR C8.CX0 X.stack X.prog X.w H1 s1 Q C8.E0) s1 := by
      refine run_ofS (N := [a]) (ps := [a]) (us := [.ref f]) (vs := [.ref f]) lk hcg Sg hr I1.env0 (hb s1 [.ref f] I1.kIn rfl) (.cons rfl .nil) rfl fun hr' => ?_
      obtain ⟨t', ht', hq'⟩ := told_gives (X := X) (Ng := [a]) (x := x) (q := (C.clo i).q) (ret := sOf ret) (sg := sg) (g := g) (cdg := cdv) (j := j) (p1 := p1) (p2 := p2) (p3 := p3) (p4 := p4) (p5 := p5) (p6 := p6) (p7 := p7) (p8 := p8) (a := a) hge hme hde (fun _ => rfl) f c' s1 H1 Q (fun E H' Q' => H' f = some (CloO (C.clo i) f c') ∧ tOf C (wOf E) (fbs i) σ H' Q')
        (fun W pn xe E p1 p2 tk hW => pe_actC (i := 0) I1 (hq i hi) (hfree i hi) (hL i hi) (hbind i hi) tk hW hr' (fun A outer s H hr2 => hbody i hi A outer s H E f c' hr2 { K := ct.K, un := by have := hr2.un; show (A.deeper _).units + 64 < cLine; omega, un65 := by have := hr2.un; show (A.deeper _).units + 65 < cLine; omega, calm := rfl, nd := ct.nd, tk := takes_of rfl rfl rfl rfl }) rfl hva hda hca) hc tt
      exact ⟨t', ht'.nox, hq'⟩
    refine wpAny_call (codeAny_mono rc fun r s2 hq => ?_)
    cases r with
    | error e => exact (show False from hq).elim
    | ok fl =>
      cases fl with
      | ret u => exact I1.after hq
      | next => exact False.elim hq
      | brk => exact False.elim hq
      | cont => exact False.elim hq
end
end Ev

set_option Elab.async false
set_option linter.all false
set_option maxRecDepth 100000
namespace Ev
open PySem L2 LamX
/-! ### a def that makes lambdas -/
structure FunC (K : PySem.W.Frag) (x qual : Str) (st : Stmt) (f : Addr) (fd : FuncData) (c : Addr) : Prop where
  ex : ∃ (oc : Value) (od : Option Addr) (kV doc pm : Value) (an : Option Addr) (ct : Value) (osl : Array (Option Value)),
    fd = PySem.W.fnOf x qual (defArgs st) (defBody st) (defScope st) .none kV doc pm an (.ref c) ct ∧ K.lookup f = some ⟨oc, od, .func fd, osl⟩ ∧ PySem.W.codeIn K (.ref c) qual = true
  kp : PySem.W.keepIn K (.ref f) = true
theorem FunC.fn {K : PySem.W.Frag} {x qual : Str} {st : Stmt} {f : Addr} {fd : FuncData} {c : Addr} (F : FunC K x qual st f fd c) : Fun K x qual st f fd := by
  obtain ⟨oc, od, kV, doc, pm, an, ct, osl, h1, h2, h3⟩ := F.ex
  exact ⟨⟨oc, od, kV, doc, pm, an, _, ct, osl, h1, h2, h3⟩, F.kp⟩
theorem fn_mkL {P : Program} {w : World} {K : PySem.W.Frag} {mg : Str → Option Value} {base : Heap} {x qual : Str} {st : Stmt} {f : Addr} {fd : FuncData} {c Pt : Addr} {N ps : List Str} {k n nN : Nat} {T : List (Addr × Str)} {cls : Nat → Addr} {clo : Nat → ClD} {g : Env → Sr} {m : Mf} (F : FunC K x qual st f fd c) (S : FnScope N ps (defScope st)) (hn : ps.length = n) (hN : N.length = nN) (hm : m = mOf nN g)
    (TB : TabB base mg c Pt) (hT : (Pt, qual ++ ".<locals>." ++ "<lambda>") ∈ T) (hu : ∀ p ∈ T, p.1 = Pt → p.2 = qual ++ ".<locals>." ++ "<lambda>")
    (hbody : ∀ (W as : List Addr) (A : Around) (outer : List PySem.Env) (s : Shared) (H : Hp) (E : XK), Room k (A.deeper (PyProof.Rows.envOfC qual (defScope st) s.heap.objs.size f (.ref c))) → Cs (cxOf (L2.CX P w) P w K mg base N qual (defScope st) f (.ref c) A outer s H E) (inCf K T cls clo H W as) (wOf E) → Lm (cxOf (L2.CX P w) P w K mg base N qual (defScope st) f (.ref c) A outer s H E) (inCf K T cls clo H W as) →
      PSs (cxOf (L2.CX P w) P w K mg base N qual (defScope st) f (.ref c) A outer s H E) (defBody st) (tsOf (inCf K T cls clo H W as) (wOf E) g)) :
    FnOk P w K mg base (L2.CX P w) (k + 1) f fd ps (spM K T cls clo n m) := by
  subst hn hN hm
  obtain ⟨oc, od, kV, doc, pm, an, ct', osl, rfl, lk, hcd⟩ := F.ex
  refine fn_of lk hcd S (sp := spM K T cls clo ps.length (mOf N.length g)) (fun vs H Q E h => h.1) fun A outer s H vs Q E hr h => ?_
  obtain ⟨hl, W, as, hs, rs, ok, hv, hp⟩ := h
  have ct : Cs (cxOf (L2.CX P w) P w K mg base N qual (defScope st) f (.ref c) A outer s H E) (inCf K T cls clo H W as) (wOf E) :=
    { K := rfl, un := by have := hr.un; show (A.deeper _).units + 64 < cLine; omega, un65 := by have := hr.un; show (A.deeper _).units + 65 < cLine; omega, calm := rfl, nd := S.nd, tk := takes_of rfl rfl rfl rfl, hp := passes_of rfl }
  refine ⟨_, hbody W as A outer s H E hr ct ⟨c, Pt, TB, rfl, hT, hu⟩, W, inE N.length rs hs, ok.enter hv, ?_⟩
  unfold mOf at hp
  cases q : g (inE N.length rs hs) with
  | nx e => rw [q] at hp; exact fun σ' W' H' x k' => hp _ _ _ x k'.bare .non
  | ret r e =>
    rw [q] at hp
    intro v σ' W' H' x k' hv
    cases r with
    | loc i => exact hp.elim
    | d y => exact hp _ _ _ x k'.bare (hv.any fun i y => nomatch y)
    | hnd y => exact hp _ _ _ x k'.bare (hv.any fun i y => nomatch y)
    | clo y => exact hp _ _ _ x k'.bare (hv.any fun i y => nomatch y)
    | clos y => exact hp _ _ _ x k'.bare (hv.any fun i y => nomatch y)
    | scr y => exact hp _ _ _ x k'.bare (hv.any fun i y => nomatch y)
  | rto b o e => rw [q] at hp; exact hp.elim
  | err c e => rw [q] at hp; exact fun σ' W' H' x k' => hp _ _ x k'.bare
  | bk e => rw [q] at hp; exact hp.elim
  | ct e => rw [q] at hp; exact hp.elim
  | stk => rw [q] at hp; exact hp.elim
/-- the lambdas of the list that the m-th statement makes -/
def lamAt (st : Stmt) (m i : Nat) : Arguments × Expr × Scope := match (defBody st)[m]? with
  | some (.Assign _ (.List es _) _) => match es[i]? with
    | some (.Lambda p b s _) => (p, b, s)
    | _ => (⟨[], [], none, [], [], none, []⟩, .Constant .none 0 ⟨0, 0, 0, 0⟩, ⟨.function, [], false, false, []⟩)
  | _ => (⟨[], [], none, [], [], none, []⟩, .Constant .none 0 ⟨0, 0, 0, 0⟩, ⟨.function, [], false, false, []⟩)
def cloS (st : Stmt) (m : Nat) (q : Str) (i : Nat) : ClD := ⟨(lamAt st m i).1, (lamAt st m i).2.1, (lamAt st m i).2.2, q⟩
/-- a look at a closed lambda -/
def closB (d : ClD) : Bool := decide (d.scope.kind = .function) && !d.scope.isCoroutine && !d.scope.isGenerator && (d.scope.names.all fun y => !decide (y.2 = .local) && !decide (y.2 = .cell) && !decide (y.2 = .free))
theorem closB_ok {d : ClD} (h : closB d = true) : (∀ y ∈ d.scope.names, y.2 ≠ .free) ∧ ∀ sc, LamS sc d.scope := by
  unfold closB at h
  simp only [Bool.and_eq_true, Bool.not_eq_true', decide_eq_true_eq, decide_eq_false_iff_not, List.all_eq_true] at h
  obtain ⟨⟨⟨h1, h2⟩, h3⟩, h4⟩ := h
  exact ⟨fun y hy => (h4 y hy).2, fun sc => ⟨h1, h2, h3, fun y hy => ⟨(h4 y hy).1.1, (h4 y hy).1.2⟩, fun y hy e => absurd e (h4 y hy).2⟩⟩
/-! ### the law's end -/
theorem law_sp {K : PySem.W.Frag} {T : List (Addr × Str)} {cls : Nat → Addr} {clo : Nat → ClD} {m : Mf} {cs : List (Addr × Addr)} {H : Hp} {a : Addr} {ns : List Int} {e : Env} (hT : ∀ p ∈ T, ∃ q ∈ cs, q.2 = p.1) (ht : ∀ p ∈ cs, H p.2 = some (.tbl #[])) (hs : SqL K H a (ns.map V.int)) (hm : m [.scr (ns.map .int)] [] = .ok (.d (.bool true)) e) :
    spM K T cls clo 1 m [.ref a] H (fun v _ => v = .bl true) fun _ _ _ => False := by
  refine ⟨rfl, [], [], [], [.scr (ns.map .int)], ⟨fun b o h _ _ => h, fun b hb => (List.not_mem_nil hb).elim, fun b hb => hb, fun b hb => (List.not_mem_nil hb).elim, fun b hb => (List.not_mem_nil hb).elim, .nil, fun p hp => ?_, fun i sv h => by simp at h, rfl, fun j a o h => (by have h : ([] : List Addr)[j]? = some a := h; simp at h), rfl, fun i j oi oj v h => by simp at h⟩, .cons ⟨a, ns.map V.int, rfl, SqL.sub hs (fun b o h _ => by rw [msk_out (by simp)]; exact h), ?_⟩ .nil, ?_⟩
  · obtain ⟨q, hq, e1⟩ := hT p hp
    refine TabS.nil ?_
    rw [← e1]; exact ht q hq
  · clear hs hm
    induction ns with
    | nil => exact .nil
    | cons n ns ih => exact .cons (.int n) ih
  · rw [hm]
    intro v W' H' x k hv
    exact vl_bl hv
end Ev

set_option Elab.async false
set_option linter.all false
set_option maxRecDepth 100000
namespace Ev
open PySem L2
/-! ### dicts that a slot owns -/
def keyR : R → Option Key
  | .d (.int i) => some (.inl i)
  | .d (.str s) => some (.inr s)
  | _ => none
def valD (kvs : List (Key × Dt)) (k : Key) : Option Dt := (kvs.find? fun kv => decide (kv.1 = k)).map (·.2)
def putD (kvs : List (Key × Dt)) (k : Key) (v : Dt) : List (Key × Dt) := if (kvs.any fun kv => decide (kv.1 = k)) = true then kvs.map (fun kv => if kv.1 = k then (kv.1, v) else kv) else kvs ++ [(k, v)]
def mergeD (kvs more : List (Key × Dt)) : List (Key × Dt) := more.foldl (fun acc kv => putD acc kv.1 kv.2) kvs
theorem key_ok {C : Cf} {W : List Addr} {σ : L2.St} {H : Hp} {v : V} {r : R} {k : Key} (h : Vl C W σ H v r) (q : keyR r = some k) : v = kV k := by
  cases r with
  | d x =>
    cases x <;> simp [keyR] at q
    · subst q; exact vl_int h
    · subst q; exact vl_str h
  | _ => simp [keyR] at q
section
variable {K : PySem.W.Frag} {G : Hp}
theorem DpK.length : ∀ {l : List (Key × V)} {m : List (Key × Dt)}, DpK K G l m → l.length = m.length
  | _, _, .nil => rfl
  | _, _, .cons _ t => by simp [DpK.length t]
theorem DpK.val (k : Key) : ∀ {l : List (Key × V)} {m : List (Key × Dt)}, DpK K G l m → (valD m k = none ∧ valV l k = none) ∨ ∃ v d, valD m k = some d ∧ valV l k = some v ∧ Fz K G v d
  | _, _, .nil => .inl ⟨rfl, rfl⟩
  | _, _, .cons (k := j) (v := v) (d := d) h t => by
    by_cases e : j = k
    · exact .inr ⟨v, d, by simp [valD, List.find?_cons, e], by simp [valV, List.find?_cons, e], h⟩
    · rcases DpK.val k t with ⟨h1, h2⟩ | ⟨v', d', h1, h2, h3⟩
      · exact .inl ⟨by simpa [valD, List.find?_cons, e] using h1, by simpa [valV, List.find?_cons, e] using h2⟩
      · exact .inr ⟨v', d', by simpa [valD, List.find?_cons, e] using h1, by simpa [valV, List.find?_cons, e] using h2, h3⟩
theorem DpK.any (k : Key) : ∀ {l : List (Key × V)} {m : List (Key × Dt)}, DpK K G l m → (l.any fun kv => decide (kv.1 = k)) = (m.any fun kv => decide (kv.1 = k))
  | _, _, .nil => rfl
  | _, _, .cons h t => by rw [List.any_cons, List.any_cons, DpK.any k t]
theorem DpK.snoc {k : Key} {v : V} {d : Dt} (f : Fz K G v d) : ∀ {l : List (Key × V)} {m : List (Key × Dt)}, DpK K G l m → DpK K G (l ++ [(k, v)]) (m ++ [(k, d)])
  | _, _, .nil => .cons f .nil
  | _, _, .cons h t => .cons h (DpK.snoc f t)
theorem DpK.repl {k : Key} {v : V} {d : Dt} (f : Fz K G v d) : ∀ {l : List (Key × V)} {m : List (Key × Dt)}, DpK K G l m → DpK K G (l.map fun kv => if kv.1 = k then (kv.1, v) else kv) (m.map fun kv => if kv.1 = k then (kv.1, d) else kv)
  | _, _, .nil => .nil
  | _, _, .cons (k := j) h t => by
    rw [List.map_cons, List.map_cons]
    by_cases e : j = k
    · rw [if_pos e, if_pos e]; exact .cons f (DpK.repl f t)
    · rw [if_neg e, if_neg e]; exact .cons h (DpK.repl f t)
theorem DpK.put {k : Key} {v : V} {d : Dt} (f : Fz K G v d) {l : List (Key × V)} {m : List (Key × Dt)} (h : DpK K G l m) : DpK K G (putK l k v) (putD m k d) := by
  unfold putK putD
  rw [h.any k]
  split
  · exact h.repl f
  · exact h.snoc f
theorem DpK.merge : ∀ {more : List (Key × V)} {more' : List (Key × Dt)} {l m}, DpK K G more more' → DpK K G l m → DpK K G (mergeK l more) (mergeD m more')
  | _, _, _, _, .nil, h => h
  | _, _, _, _, .cons f t, h => by
    show DpK K G (mergeK (putK _ _ _) _) (mergeD (putD _ _ _) _)
    exact DpK.merge t (h.put f)
theorem DpK.keys : ∀ {l : List (Key × V)} {m : List (Key × Dt)}, DpK K G l m → l.map (·.1) = m.map (·.1)
  | _, _, .nil => rfl
  | _, _, .cons h t => by rw [List.map_cons, List.map_cons, DpK.keys t]
end
def dgG (x y : R) : Env → Rs R := fun e => match rootOf e x, keyR y with
  | some (.dic kvs), some k => match valD kvs k with
    | some d => .ok (.d d) e
    | none => .stk
  | _, _ => .stk
def dhG (neg : Bool) (x y : R) : Env → Rs Bool := fun e => match rootOf e y, keyR x with
  | some (.dic kvs), some k => .ok (if neg then !(valD kvs k).isSome else (valD kvs k).isSome) e
  | _, _ => .stk
def dpG (x y v : R) : Env → Sr := fun e => match rootOf e x, keyR y, dOf v with
  | some (.dic kvs), some k, some d => if kvs.length < sizeLine then .nx (putR e x (.dic (putD kvs k d))) else .stk
  | _, _, _ => .stk
theorem root_dic {C : Cf} {W : List Addr} {e : Env} {σ : L2.St} {H : Hp} {v : V} {r : R} {kvs : List (Key × Dt)} (k : Ok C W e σ H) (h : Vl C W σ H v r) (q : rootOf e r = some (.dic kvs)) : ∃ p vs, v = .ref p ∧ H p = some (.dK vs) ∧ DpK C.K (msk W H) vs kvs ∧
    ∀ vs' kvs', DpK C.K (msk W H) vs' kvs' → Ok C W (putR e r (.dic kvs')) σ (upd H p (.dK vs')) ∧ Ext W H W (upd H p (.dK vs')) := by
  obtain ⟨p, rfl, h1, ⟨vs, h2, h3⟩, h4⟩ := root_ok k h q
  exact ⟨p, vs, rfl, h2, h3, fun vs' ds' f => h4 _ _ rk_dK fun W' H' x hh => ⟨vs', hh, DpK.sub x f⟩⟩
section
variable {X : Cx} {C : Cf} {w : WX} {o i e : Expr} {pos p1 : Pos} {fo fi fv : Env → Rs R}
theorem ev_dget (ct : Ct X C w) (ho : PE X o (tOf C w fo)) (hi : PE X i (tOf C w fi)) (hs : NoSl i := by exact fun _ _ => rfl) : PE X (.Subscript o i pos) (tOf C w (b2 fo fi dgG)) :=
  PE.imp (pe_dget (by have := ct.un; omega) ho hi hs) fun σ H Q ⟨W, e, k, h⟩ => by
    refine tOf_bnd k h fun xo ro W1 e1 H1 x1 k1 ho h1 => ?_
    refine tOf_bnd k1 h1 fun yi ri W2 e2 H2 x2 k2 hi h2 => ?_
    have ho := ho.ext x2
    unfold dgG at h2
    split at h2
    · rename_i kvs kk hr hk
      obtain ⟨p, vs, rfl, g1, g2, _⟩ := root_dic k2 ho hr
      cases key_ok hi hk
      rcases g2.val kk with ⟨z, _⟩ | ⟨v, d, z, g3, g4⟩
      · rw [z] at h2; exact h2.elim
      · rw [z] at h2
        refine ⟨p, v, rfl, ?_, h2 _ _ _ Ext.refl k2 g4⟩
        rw [← g3]; exact DGet.k g1
    · exact h2.elim
theorem et_din (ct : Ct X C w) (hi : PE X i (tOf C w fi)) (ho : PE X o (tOf C w fo)) (hm : behindInMarks .In o = false := by first | exact nobehind _ (by decide) (by decide) | rfl) : PT X (.Compare i [.In] [o] pos) (ttOf C w (b2 fi fo (dhG false))) :=
  PT.imp (pt_cmp (pc_din (by have := ct.un; omega) hi ho) hm) fun σ H Q ⟨W, e, k, h⟩ => by
    refine tOf_bndT k h fun yi ri W1 e1 H1 x1 k1 hi h1 => ?_
    refine tOf_bndT k1 h1 fun xo ro W2 e2 H2 x2 k2 ho h2 => ?_
    have hi := hi.ext x2
    unfold dhG at h2
    split at h2
    · rename_i kvs kk hr hk
      obtain ⟨p, vs, rfl, g1, g2, _⟩ := root_dic k2 ho hr
      cases key_ok hi hk
      refine ⟨p, valV vs kk, rfl, DGet.k g1, _, rfl, ?_⟩
      rcases g2.val kk with ⟨z, z'⟩ | ⟨v, d, z, z', _⟩ <;> (rw [z'] ; rw [z] at h2; exact h2 _ _ Ext.refl k2)
    · exact h2.elim
theorem et_dnotin (ct : Ct X C w) (hi : PE X i (tOf C w fi)) (ho : PE X o (tOf C w fo)) (hm : behindInMarks .NotIn o = false := by first | exact nobehind _ (by decide) (by decide) | rfl) : PT X (.Compare i [.NotIn] [o] pos) (ttOf C w (b2 fi fo (dhG true))) :=
  PT.imp (pt_cmp (pc_dnotin (by have := ct.un; omega) hi ho) hm) fun σ H Q ⟨W, e, k, h⟩ => by
    refine tOf_bndT k h fun yi ri W1 e1 H1 x1 k1 hi h1 => ?_
    refine tOf_bndT k1 h1 fun xo ro W2 e2 H2 x2 k2 ho h2 => ?_
    have hi := hi.ext x2
    unfold dhG at h2
    split at h2
    · rename_i kvs kk hr hk
      obtain ⟨p, vs, rfl, g1, g2, _⟩ := root_dic k2 ho hr
      cases key_ok hi hk
      refine ⟨p, valV vs kk, rfl, DGet.k g1, _, rfl, ?_⟩
      rcases g2.val kk with ⟨z, z'⟩ | ⟨v, d, z, z', _⟩ <;> (rw [z'] ; rw [z] at h2; exact h2 _ _ Ext.refl k2)
    · exact h2.elim
def dpS (fv fo fi : Env → Rs R) : Env → Sr := bS fv fun v => bS fo fun x => bS fi fun y => dpG x y v
theorem es_dput (ct : Ct X C w) (ho : PE X o (tOf C w fo)) (hi : PE X i (tOf C w fi)) (hv : PE X e (tOf C w fv)) (hs : swapsWith e (some (.Subscript o i p1)) pos.line X.env = pure false := by rfl) : PS X (.Assign [.Subscript o i p1] e pos) (tsOf C w (dpS fv fo fi)) :=
  PS.imp (ps_dput (by have := ct.un; omega) ho hi hv hs) fun D σ H ⟨W, e, k, h⟩ =>
    tOf_bS k h fun v rv W1 e1 H1 x1 k1 hv h1 => tOf_bS k1 h1 fun xo ro W2 e2 H2 x2 k2 ho h2 => tOf_bS k2 h2 fun yi ri W3 e3 H3 x3 k3 hi h3 => by
      have hv := (hv.ext x2).ext x3
      have ho := ho.ext x3
      unfold dpG at h3
      split at h3
      · rename_i kvs kk d hr hk hd
        obtain ⟨p, vs, rfl, g1, g2, g3⟩ := root_dic k3 ho hr
        cases key_ok hi hk
        split at h3
        · rename_i hz
          cases rv <;> simp [dOf] at hd
          subst hd
          obtain ⟨k4, x4⟩ := g3 _ _ (g2.put hv)
          exact ⟨p, _, rfl, DPut.k g1 (by rw [g2.length]; exact hz), h3 _ _ _ x4 k4⟩
        · exact h3.elim
      · exact h3.elim
/-- {} -/
def dic0 : Env → Rs Ob := cst (.dic [])
theorem en_dic0 : PE X (.Dict [] [] pos) (tNew C w dic0) := PE.imp pe_dnewK fun σ H Q ⟨W, e, k, h⟩ p hp =>
  new_root (ob := .dic []) k hp rk_dK (fun W' H' x hh => ⟨[], hh, .nil⟩) h
end
/-! ### dict(pairs), len(dict), list(dict) -/
def pairsOf : List Dt → Option (List (Key × Dt))
  | [] => some []
  | .tuple [k, v] :: l => match keyR (.d k), pairsOf l with
    | some k, some m => some ((k, v) :: m)
    | _, _ => none
  | _ => none
def dictN : List R → Env → Rs Ob := fun rs e => match rs with
  | [x] => match lof e x with
    | some ds => match pairsOf ds with
      | some kvs => .ok (.dic (mergeD [] kvs)) e
      | none => .stk
    | none => .stk
  | _ => .stk
def rDictP (K : PySem.W.Frag) : List V → Hp → VK → Prop := fun xs H Q => ∃ (a : Addr) (ps : List Addr) (kvs : List (Key × V)), xs = [.ref a] ∧ SqL K H a (ps.map V.ref) ∧ Paired (fun p kv => SqT K H p [kV kv.1, kv.2]) ps kvs ∧ ∀ p, H p = none → Q (.ref p) (upd H p (.dK (mergeK [] kvs)))
theorem call_dictA {X : Cx} (hc : X.calm = true) : CallR X (.type "dict") (rDictP X.K) := call_dictP hc
theorem pairs_ok {C : Cf} {W : List Addr} {H : Hp} : ∀ {vs : List V} {ds : List Dt} {kvs : List (Key × Dt)}, FzAll C.K (msk W H) vs ds → pairsOf ds = some kvs → ∃ (ps : List Addr) (kv : List (Key × V)), vs = ps.map V.ref ∧ Paired (fun p kv => SqT C.K H p [kV kv.1, kv.2]) ps kv ∧ DpK C.K (msk W H) kv kvs
  | _, [], _, h, q => by cases h; cases q; exact ⟨[], [], rfl, .nil, .nil⟩
  | _, d :: ds, kvs, h, q => by
    unfold pairsOf at q
    split at q
    · rename_i e; cases e
    · rename_i k v l e
      cases e
      split at q
      · rename_i kk m h1 h2
        cases q
        cases h with
        | cons f t =>
          obtain ⟨ps, kv, rfl, g1, g2⟩ := pairs_ok t h2
          cases f with
          | tup s f =>
            cases f with
            | cons f1 f2 =>
              cases f2 with
              | cons f2 f3 =>
                cases f3
                have e1 := key_ok (C := C) (W := W) (σ := []) (H := H) (r := .d k) f1 h1
                refine ⟨_ :: ps, (kk, _) :: kv, rfl, .cons ?_ g1, .cons f2 g2⟩
                rw [← e1]; exact SqT.sub s (Sub.msk _ _)
      · cases q
    · cases q
theorem dictN_ok {C : Cf} {w : WX} {K : PySem.W.Frag} (hK : C.K = K) : CnG C w (rDictP K) dictN := fun σ W e H vs rs Q k hv q => by
  subst hK
  unfold dictN at q
  split at q
  · obtain ⟨v, rfl, h⟩ := hv.one
    split at q
    · rename_i ds hl
      split at q
      · rename_i kvs hp
        obtain ⟨a, ws, rfl, g1, g2⟩ := lof_ok k h hl
        obtain ⟨ps, kv, rfl, g3, g4⟩ := pairs_ok g2 hp
        exact ⟨a, ps, kv, rfl, .of g1, g3, fun p hp => new_root (ob := .dic (mergeD [] kvs)) k hp rk_dK (fun W' H' x hh => ⟨_, hh, DpK.sub x (g4.merge .nil)⟩) q⟩
      · exact q.elim
    · exact q.elim
  · exact q.elim
/-- f(new root): len(dict(..)), list(dict(..)) -/
def onN (f : Env → Rs Ob) (g : Ob → Env → Rs R) : Env → Rs R := bnd f g
def OnG (C : Cf) (w : WX) (r : List V → Hp → VK → Prop) (g : Ob → Env → Rs R) : Prop := ∀ σ W e H p o Q, Ok C W e σ H → ObOk C.K W H p o → pO C w σ W H Q (g o e) → r [.ref p] H Q
section
variable {X : Cx} {C : Cf} {w : WX} {e : Expr} {pos p : Pos} {f : Env → Rs Ob} {id T : String} {x : Str} {r : List V → Hp → VK → Prop} {g : Ob → Env → Rs R}
def tA1 (C : Cf) (w : WX) (f : Env → Rs Ob) : TA := fun σ H Q => tNew C w f σ H fun v H' => Q [v] H'
theorem ea_new (h : PE X e (tNew C w f)) (hs : starEach [e] X.env = (false, eval e X.env) :: starEach [] X.env := by rfl) : PA X [e] (tA1 C w f) := PA.imp (pa_cons h pa_nil hs) fun σ H Q h => h
theorem on_imp (hg : OnG C w r g) : ∀ σ H Q, tOf C w (onN f g) σ H Q → tCB r (tA1 C w f) σ H Q := fun σ H Q ⟨W, en, k, h⟩ => by
  refine ⟨W, en, k, ?_⟩
  unfold onN bnd at h
  cases q : f en with
  | stk => rw [q] at h; exact h
  | err c e' => rw [q] at h; exact h
  | ok o e' =>
    rw [q] at h
    exact fun p W' H' x k' l ho => hg σ W' e' H' p o Q k' ho (pO.ext h x)
theorem ev_onB (hc : CallR X (.builtin id) r) (hg : OnG C w r g) (gl : Gl X x) (hm : X.mg x = none) (hv : bootBuiltins x = some (.builtin id)) (h : PE X e (tNew C w f)) (hn : x ≠ "__name__" := by decide) (hdb : (x == ("__debug__" : Str)) = false := by decide)
    (he : starEach [e] X.env = (false, eval e X.env) :: starEach [] X.env := by rfl) (hpl : (backTo pos (starEach [] X.env)).any (·.1) = false := by rfl) : PE X (.Call (.Name x p) [e] [] pos) (tOf C w (onN f g)) :=
  PE.imp (pe_callB hc gl hm hv (ea_new h he) hn hdb he hpl) (on_imp hg)
theorem ev_onTy (hc : CallR X (.type T) r) (hg : OnG C w r g) (gl : Gl X x) (hm : X.mg x = none) (hv : bootBuiltins x = some (.type T)) (h : PE X e (tNew C w f)) (hn : x ≠ "__name__" := by decide) (hdb : (x == ("__debug__" : Str)) = false := by decide)
    (he : starEach [e] X.env = (false, eval e X.env) :: starEach [] X.env := by rfl) (hpl : (backTo pos (starEach [] X.env)).any (·.1) = false := by rfl) : PE X (.Call (.Name x p) [e] [] pos) (tOf C w (onN f g)) :=
  PE.imp (pe_callTy hc gl hm hv (ea_new h he) hn hdb he hpl) (on_imp hg)
end
def lenDG : Ob → Env → Rs R := fun o e => match o with
  | .dic kvs => .ok (.d (.int kvs.length)) e
  | _ => .stk
theorem lenD_ok {C : Cf} {w : WX} : OnG C w (fun xs H Q => ∃ a kvs, xs = [V.ref a] ∧ H a = some (.dK kvs) ∧ Q (.int kvs.length) H) lenDG := fun σ W e H p o Q k ho q => by
  unfold lenDG at q
  split at q
  · obtain ⟨vs, h1, h2⟩ := ho
    refine ⟨p, vs, rfl, h1, ?_⟩
    rw [h2.length]
    exact q _ _ _ Ext.refl k (.int _)
  · exact q.elim
def keyD : Key → Dt
  | .inl i => .int i
  | .inr s => .str s
def listDG : Ob → Env → Rs R := fun o e => match o with
  | .dic kvs => .ok (.d (.list (kvs.map fun kv => keyD kv.1))) e
  | _ => .stk
theorem keys_fz {K : PySem.W.Frag} {G : Hp} : ∀ {l : List (Key × V)} {m : List (Key × Dt)}, DpK K G l m → FzAll K G (l.map fun kv => kV kv.1) (m.map fun kv => keyD kv.1)
  | _, _, .nil => .nil
  | _, _, .cons (k := k) h t => .cons (by cases k with
    | inl i => exact .int i
    | inr s => exact .str s) (keys_fz t)
theorem listD_ok {C : Cf} {w : WX} : OnG C w rListD listDG := fun σ W e H p o Q k ho q => by
  unfold listDG at q
  split at q
  · obtain ⟨vs, h1, h2⟩ := ho
    exact ⟨p, vs, rfl, h1, fun l hl => new_lst k hl (keys_fz h2) q⟩
  · exact q.elim
/-! ### max, sum of a list of ints -/
def intsOf : List Dt → Option (List Int)
  | [] => some []
  | .int i :: l => match intsOf l with
    | some m => some (i :: m)
    | none => none
  | _ => none
theorem intsOf_ok {K : PySem.W.Frag} {G : Hp} : ∀ {vs : List V} {ds : List Dt} {l : List Int}, FzAll K G vs ds → intsOf ds = some l → vs = l.map V.int
  | _, [], _, h, q => by cases h; cases q; rfl
  | _, d :: ds, l, h, q => by
    unfold intsOf at q
    split at q
    · rename_i e; cases e
    · rename_i i l' e
      cases e
      split at q
      · rename_i m hm
        cases q
        cases h with
        | cons f t =>
          cases f
          rw [intsOf_ok t hm]; rfl
      · cases q
    · cases q
def maxI : Int → List Int → Int
  | m, [] => m
  | m, x :: l => maxI (if m < x then x else m) l
theorem maxI_spec : ∀ (l : List Int) (m : Int), (maxI m l = m ∨ maxI m l ∈ l) ∧ m ≤ maxI m l ∧ ∀ y ∈ l, y ≤ maxI m l
  | [], m => ⟨.inl rfl, Int.le_refl _, fun y h => by simp at h⟩
  | x :: l, m => by
    obtain ⟨h1, h2, h3⟩ := maxI_spec l (if m < x then x else m)
    simp only [maxI]
    refine ⟨?_, ?_, fun y hy => ?_⟩
    · rcases h1 with h1 | h1
      · rw [h1]
        split
        · exact .inr List.mem_cons_self
        · exact .inl rfl
      · exact .inr (List.mem_cons_of_mem _ h1)
    · refine Int.le_trans ?_ h2
      split <;> omega
    · rcases List.mem_cons.mp hy with rfl | hy
      · refine Int.le_trans ?_ h2
        split <;> omega
      · exact h3 y hy
def maxLG : List R → Env → Rs R := fun rs e => match rs with
  | [x] => match lof e x with
    | some ds => match intsOf ds with
      | some (i :: l) => .ok (.d (.int (maxI i l))) e
      | _ => .stk
    | none => .stk
  | _ => .stk
theorem maxL_ok {C : Cf} {w : WX} {K : PySem.W.Frag} (hK : C.K = K) : CaG C w (rMax K) maxLG := fun σ W e H vs rs Q k hv q => by
  subst hK
  unfold maxLG at q
  split at q
  · obtain ⟨v, rfl, h⟩ := hv.one
    split at q
    · rename_i ds hl
      split at q
      · rename_i i l hi
        obtain ⟨a, ws, rfl, g1, g2⟩ := lof_ok k h hl
        cases intsOf_ok g2 hi
        refine ⟨a, i :: l, rfl, .of g1, by simp, fun m hm hy => ?_⟩
        obtain ⟨h1, h2, h3⟩ := maxI_spec l i
        have e1 : maxI i l ∈ i :: l := by
          rcases h1 with h1 | h1
          · rw [h1]; exact List.mem_cons_self
          · exact List.mem_cons_of_mem _ h1
        have e2 : m ≤ maxI i l := by
          rcases List.mem_cons.mp hm with rfl | hm
          · exact h2
          · exact h3 m hm
        have : m = maxI i l := Int.le_antisymm e2 (hy _ e1)
        rw [this]
        exact q _ _ _ Ext.refl k (.int _)
      · exact q.elim
    · exact q.elim
  · exact q.elim
end Ev

set_option Elab.async false
set_option linter.all false
set_option maxRecDepth 100000
namespace Ev
open PySem L2
/-! ### methods of texts with any arguments -/
def smA (fo : Env → Rs R) (fs : Env → Rs (List R)) (g : Str → List R → Env → Rs R) : Env → Rs R := bnd fo fun x e => match x with
  | .d (.str s) => bnd fs (fun rs => g s rs) e
  | _ => .stk
def SmG (C : Cf) (w : WX) (r : V → List V → Hp → VK → Prop) (g : Str → List R → Env → Rs R) : Prop := ∀ σ W e H s vs rs Q, Ok C W e σ H → Vls C W σ H vs rs → pO C w σ W H Q (g s rs e) → r (.str s) vs H Q
theorem ev_sm {X : Cx} {C : Cf} {w : WX} {o e : Expr} {es : List Expr} {apos cpos : Pos} {fo : Env → Rs R} {fs : Env → Rs (List R)} {id : String} {name : Str} {r : V → List V → Hp → VK → Prop} {g : Str → List R → Env → Rs R} (slot : Slot "str" name id) (hty : typeOf (.builtin id) = pure (.type "method_descriptor")) (hm : MtR X id r) (hg : SmG C w r g) (ho : PE X o (tOf C w fo)) (ha : PA X (e :: es) (taOf C w fs))
    (hs : starEach (e :: es) X.env = (false, eval e X.env) :: starEach es X.env := by rfl) (hplain : (backTo cpos (starEach es X.env)).any (·.1) = false := by rfl)
    (hbase : attributeBase o name X.env (eval o X.env) = eval o X.env := by rfl) (hline : (apos.endLine == cpos.line) = true := by rfl)
    (hfew : ((((backTo cpos (starEach (e :: es) X.env)).all fun x => !x.fst) && (backToKw cpos (keywordEach [] X.env)).all fun x => x.fst.isSome) && decide (((e :: es).length + ([] : List Keyword).length + if ([] : List Keyword).isEmpty = true then 0 else 1) < 30)) = true := by rfl) :
    PE X (.Call (.Attribute o name apos) (e :: es) [] cpos) (tOf C w (smA fo fs g)) :=
  PE.imp (pe_bm PySem.F.plainAttrs_str slot hty hm ho ha (hs := hs) (hplain := hplain) (hbase := hbase) (hline := hline) (hfew := hfew)) fun σ H Q ⟨W, e, k, h⟩ => by
    refine tOf_bnd k h fun v x W1 e1 H1 x1 k1 hv h1 => ?_
    split at h1
    · cases vl_str hv
      refine ⟨rfl, taOf_bnd k1 h1 fun vs rs W2 e2 H2 x2 k2 hvs h2 => ?_⟩
      exact hg σ W2 e2 H2 _ vs rs Q k2 hvs h2
    · exact h1.elim
def find3G : Str → List R → Env → Rs R := fun s rs e => match rs with
  | [.d (.str b), .d (.int i)] => .ok (.d (.int (Txt.find3 s b i))) e
  | _ => .stk
theorem find3_ok {C : Cf} {w : WX} : SmG C w (fun x xs H Q => ∃ (a b : Str) (i : Int), x = .str a ∧ xs = [.str b, .int i] ∧ Q (.int (Txt.find3 a b i)) H) find3G := fun σ W e H s vs rs Q k hv q => by
  unfold find3G at q
  split at q
  · obtain ⟨v, v', rfl, h1, h2⟩ := hv.two
    cases vl_str h1; cases vl_int h2
    exact ⟨_, _, _, rfl, rfl, q _ _ _ Ext.refl k (.int _)⟩
  · exact q.elim
def partG : Str → R → Env → Rs R := fun s y e => match y with
  | .d (.str b) => if (tl b).length ≠ 0 ∧ (tl s).length ≤ sizeLine then .ok (.d (.tuple [.str (Txt.partition s b).1, .str (Txt.partition s b).2.1, .str (Txt.partition s b).2.2])) e else .stk
  | _ => .stk
def rPart : V → List V → Hp → VK → Prop := fun x xs H Q => ∃ a b, x = .str a ∧ xs = [.str b] ∧ (b.length == 0) = false ∧ a.length ≤ sizeLine ∧ ∀ p, H p = none → Q (.ref p) (upd H p (.tup [.str (Txt.partition a b).1, .str (Txt.partition a b).2.1, .str (Txt.partition a b).2.2]))
theorem part_ok {C : Cf} {w : WX} : M1G C w rPart partG := fun σ W e H s v y Q k hv q => by
  unfold partG at q
  split at q
  · cases vl_str hv
    split at q
    · rename_i b hz
      refine ⟨s, b, rfl, rfl, ?_, by rw [← len_tl]; exact hz.2, fun p hp => new_tup k hp (.cons (.str _) (.cons (.str _) (.cons (.str _) .nil))) q⟩
      rw [← len_tl]
      simpa using hz.1
    · exact q.elim
  · exact q.elim
/-- a constant of the module that is a tuple of data -/
theorem ev_gTup {X : Cx} {C : Cf} {w : WX} {pos : Pos} {x : Str} {d : Dt} (hK : C.K = X.K) (hg : Gl X x) (hm : ∃ a, X.mg x = some (.ref a) ∧ ∀ G, Fz X.K G (.ref a) d) (hd : (x == ("__debug__" : Str)) = false := by decide) : PE X (.Name x pos) (tOf C w (cst (.d d))) := by
  obtain ⟨a, hm, hf⟩ := hm
  exact ev_gDat hg hm (fun G => by rw [hK]; exact hf G) hd
end Ev

set_option Elab.async false
set_option linter.all false
set_option maxRecDepth 100000
namespace Ev
open PySem L2
/-! ### a, b = (new root, data), (data, new root) -/
def pnS (i j : Nat) (fo : Env → Rs Ob) (fa : Env → Rs R) : Env → Sr := bS fo fun o => bS fa fun r e => if i < e.sl.length then match setR j r ⟨e.sl.set i (some (.own o)), e.hs⟩ with
  | some e' => .nx e'
  | none => .stk else .stk
def pdS (i j : Nat) (fa : Env → Rs R) (fo : Env → Rs Ob) : Env → Sr := bS fa fun r => bS fo fun o e => if j < e.sl.length then match setR i r e with
  | some e' => .nx ⟨e'.sl.set j (some (.own o)), e'.hs⟩
  | none => .stk else .stk
section
variable {X : Cx} {C : Cf} {w : WX} {pos : Pos} {a b : Expr} {fa : Env → Rs R} {fo : Env → Rs Ob}
theorem es_parND (ct : Ct X C w) {i j : Nat} {x y : Str} {px py pt : Pos} {kt k2 pt2} (ha : PE X a (tNew C w fo)) (hb : ∀ p o, Ct X (C.gd p o) w → PE X b (tOf (C.gd p o) w fa)) (hij : i ≠ j := by decide) (hi : X.N[i]? = some x := by rfl) (hj : X.N[j]? = some y := by rfl) (hx : X.env.scope.names.lookup x = some .local := by rfl) (hy : X.env.scope.names.lookup y = some .local := by rfl)
    (h1 : starEach [a, b] X.env = (false, eval a X.env) :: starEach [b] X.env := by rfl) (h2 : starEach [b] X.env = (false, eval b X.env) :: starEach [] X.env := by rfl)
    (hw : swappedStores [.Tuple [.Name x px, .Name y py] kt pt] (.Tuple [a, b] k2 pt2) X.env = pure (some [x, y]) := by rfl)
    (hs : swapsWithSole [.Tuple [.Name x px, .Name y py] kt pt] (.Tuple [a, b] k2 pt2) pos.line X.env = pure false := by rfl) :
    PS X (.Assign [.Tuple [.Name x px, .Name y py] kt pt] (.Tuple [a, b] k2 pt2) pos) (tsOf C w (pnS i j fo fa)) := by
  have hb' : PE X b (fun σ H Q => ∃ p o, tOf (C.gd p o) w fa σ H Q) := ⟨fun pins s σ H Q I ⟨p, o, h⟩ => (hb p o { K := ct.K, un := ct.un, un65 := ct.un65, calm := ct.calm, nd := ct.nd, tk := ct.tk }).run pins s σ H Q I h⟩
  refine PS.imp (ps_par ct.calm ct.nd hi hj hij hx hy (pa_cons ha (pa_cons hb' pa_nil h2) h1) hw hs) fun D σ H ⟨W, e, k, h⟩ => ?_
  refine tNew_bS k h fun p ob W1 e1 H1 x1 k1 l1 ho h1 => ?_
  obtain ⟨u, hu, hun⟩ := ob_some ho
  have pa : p ∉ C.as := fun z => l1.2.1 (k1.has p z)
  have h0 : Nw C.H0 p := by
    rcases k1.fresh p l1.1 with z | z
    · exact absurd z l1.2.1
    · exact z
  have ru : ∀ ps, u ≠ .tbl ps := fun ps z => by
    obtain ⟨o', e', n'⟩ := k1.live p l1.1
    rw [hu] at e'; cases e'; exact n'.1 ps z
  have kG := k1.guard l1 hu pa
  refine ⟨p, u, W1, e1, kG, ?_⟩
  unfold bS at h1
  cases q : fa e1 with
  | stk => rw [q] at h1; exact h1
  | err c e' => rw [q] at h1; exact fun W' H' x' k' => h1 σ W' H' x' (k'.unguard h0 l1.2.1 k1.has).1
  | ok r e2 =>
    rw [q] at h1
    intro v W2 H2 x2 k2 hv
    obtain ⟨k3, l3⟩ := k2.unguard h0 l1.2.1 k1.has
    have hp2 : H2 p = some u := k2.keep p u upd_same pa ru
    have ho2 : ObOk C.K W2 H2 p ob := ho.mono (fun u' hu' _ => by rw [hu] at hu'; cases hu'; exact hp2) x2
    have hv : Vl C W2 σ H2 v r := by cases r <;> exact hv
    dsimp only at h1
    split at h1
    · rename_i hlt
      split at h1
      · rename_i e' q3
        have k4 := k3.setOwn (i := i) l3.1 l3.2.1 l3.2.2 ho2 (by rw [k3.len]; exact hlt)
        exact ⟨.ref p, v, rfl, h1 _ _ _ x2 (setR_ok k4 (vl_par (i := 0) q3 _ hv) q3)⟩
      · exact h1.elim
    · exact h1.elim
theorem es_parDN (ct : Ct X C w) {i j : Nat} {x y : Str} {px py pt : Pos} {kt k2 pt2} (ha : PE X a (tOf C w fa)) (hb : PE X b (tNew C w fo)) (hij : i ≠ j := by decide) (hi : X.N[i]? = some x := by rfl) (hj : X.N[j]? = some y := by rfl) (hx : X.env.scope.names.lookup x = some .local := by rfl) (hy : X.env.scope.names.lookup y = some .local := by rfl)
    (h1 : starEach [a, b] X.env = (false, eval a X.env) :: starEach [b] X.env := by rfl) (h2 : starEach [b] X.env = (false, eval b X.env) :: starEach [] X.env := by rfl)
    (hw : swappedStores [.Tuple [.Name x px, .Name y py] kt pt] (.Tuple [a, b] k2 pt2) X.env = pure (some [x, y]) := by rfl)
    (hs : swapsWithSole [.Tuple [.Name x px, .Name y py] kt pt] (.Tuple [a, b] k2 pt2) pos.line X.env = pure false := by rfl) :
    PS X (.Assign [.Tuple [.Name x px, .Name y py] kt pt] (.Tuple [a, b] k2 pt2) pos) (tsOf C w (pdS i j fa fo)) := by
  refine PS.imp (ps_par ct.calm ct.nd hi hj hij hx hy (pa_cons ha (pa_cons hb pa_nil h2) h1) hw hs) fun D σ H ⟨W, e, k, h⟩ => ?_
  refine tOf_bS k h fun v r W1 e1 H1 x1 k1 hv h1 => ?_
  refine tNew_bS k1 h1 fun p ob W2 e2 H2 x2 k2 l2 ho h2 => ?_
  have hv := hv.ext x2
  split at h2
  · rename_i hlt
    split at h2
    · rename_i e' q3
      have k3 := setR_ok k2 hv q3
      have own : ∀ (m : Nat) (oi : Ob), e'.sl[m]? = some (some (SV.own oi)) → (σ.set i (some v))[m]? ≠ some (some (V.ref p)) := fun m oi g1 g2 => by
        unfold setR at q3
        split at q3
        · split at q3
          · cases q3
          · cases q3
            rcases get_set g1 with ⟨_, z⟩ | ⟨z, g1⟩
            · cases z
            · rw [List.getElem?_set_ne (Ne.symm z)] at g2
              exact l2.2.2 m oi g1 g2
        · cases q3
      have k4 := k3.setOwn (i := j) l2.1 l2.2.1 own ho (by rw [List.length_set, k2.len]; exact hlt)
      exact ⟨v, .ref p, rfl, h2 _ _ _ Ext.refl k4⟩
    · exact h2.elim
  · exact h2.elim
end
end Ev

set_option Elab.async false
set_option linter.all false
set_option maxRecDepth 100000
set_option maxHeartbeats 1000000
namespace GenX
open PySem PySem.Spec PyProof.Rows L2 GenW
/-! ### generator expressions whose elements call: the generator's own context -/
structure GScp (scope : Scope) : Prop where
  co : scope.isCoroutine = false
  cell : ∀ y ∈ scope.names, y.2 ≠ .cell
  dot : scope.names.lookup (".0" : Str) = some NameKind.local
/-- the context of the generator's frame, made at s; fp: its iterator's objects -/
abbrev gY (X : Cx) (A : Around) (s : Shared) (H : Hp) (cenv : Env) (fp : List Addr) (pn : List (Addr × Obj)) : Cx :=
  { X with A := A, s_0 := s, H_0 := H, env := cenv, outer := X.stack, stack := cenv :: X.stack, ex := fp, fn := fun _ => false, pn := pn, xe := fun _ _ => False }
section
variable {X : Cx} {pins : List (Addr × Obj)} {σ : L2.St} {H : Hp} {s : Shared}
theorem gen_start {scope : Scope} {own : List (Str × Nat)} {fp : List Addr} {A : Around} {code : Value} {s' : Shared} {m : Str → Option Value} (I : Inv X pins σ H s) (ok : BlkOk X.N X.env.scope scope own) (gx : GScp scope) (hN : X.N.Nodup) (hfp : ∀ b ∈ fp, FpOk X pins H b ∧ b < s.heap.objs.size)
    (hh : A.handled = none) (hf : A.frames = some (genEnv scope (cloFrom X.env.cells scope.names []) s.heap.objs.size code builtinsNs X.env :: X.stack)) (os : s'.os = s.os) (bare : AllBare s'.gens) (kp : ∀ b o, s.heap.get? b = some o → s'.heap.get? b = some o) (hn : s'.heap.Ns s.heap.objs.size m) :
    Inv (gY X A s H (genEnv scope (cloFrom X.env.cells scope.names []) s.heap.objs.size code builtinsNs X.env) fp []) [] (wipe σ (own.map (·.2))) H s' := by
  have hfree : ∀ y ∈ scope.names, y.2 = .free → ∃ c, X.env.cells.lookup y.1 = some c := fun y hy e => by
    rcases ok.free y hy e with k | k
    · exact I.ok.has _ (.inl k)
    · exact I.ok.has _ (.inr k)
  generalize hcenv : genEnv scope (cloFrom X.env.cells scope.names []) s.heap.objs.size code builtinsNs X.env = cenv at hf ⊢
  have hL : cenv.locals = s.heap.objs.size := by rw [← hcenv]; rfl
  have hcl : cenv.cells = cloFrom X.env.cells scope.names [] := by rw [← hcenv]; rfl
  have hsc : cenv.scope = scope := by rw [← hcenv]; rfl
  have cm : ∀ {y c}, (y, c) ∈ cloFrom X.env.cells scope.names [] → X.env.cells.lookup y = some c ∧ c < s.heap.objs.size := fun {y c} hm => by
    rcases cloFrom_mem hm with hm | ⟨h1, rfl⟩
    · cases hm
    · obtain ⟨c, hc⟩ := hfree _ h1 rfl
      rw [hc]
      obtain ⟨w, z⟩ := I.cell _ _ hc
      exact ⟨rfl, z.lt⟩
  have mem : ∀ {y c}, cenv.cells.lookup y = some c → X.env.cells.lookup y = some c ∧ c < s.heap.objs.size := fun {y c} e => by
    rw [hcl] at e
    exact cm (PySem.mem_of_lookup e)
  have look : ∀ {y}, scope.names.lookup y = some .free → ∃ c, cenv.cells.lookup y = some c ∧ X.env.cells.lookup y = some c := fun {y} hl => by
    have hy : (y, NameKind.free) ∈ scope.names := PySem.mem_of_lookup hl
    obtain ⟨c', e'⟩ := L2.mem_lookup (cloFrom_has (cells := X.env.cells) (acc := []) hy)
    rw [← hcl] at e'
    exact ⟨c', e', (mem e').1⟩
  have nocell : ∀ {y}, scope.names.lookup y ≠ some NameKind.cell := fun {y} e => gx.cell _ (PySem.mem_of_lookup e) rfl
  have okB : (gY X A s H cenv fp []).Ok := by
    refine ⟨I.ok.mod, by show cenv.scope.kind = _; rw [hsc]; exact ok.kind, by show cenv.globals = _; rw [← hcenv]; exact I.ok.glob, by show cenv.builtins = _; rw [← hcenv]; rfl, by show s.heap.objs.size ≤ cenv.locals; rw [hL]; exact Nat.le_refl _,
      fun y z c e1 e2 => ?_, fun y hy => ?_, fun y c z e => ?_, fun _ => hh, hf, .inr ⟨rfl, by show cenv.frame = some cenv.locals; rw [← hcenv]; rfl⟩, fun b hb => ⟨?_, fun y c e z => ?_⟩, I.bs, Nat.le_trans I.ok.bsz I.sz, fun b o e hb => ?_, fun b hb z => ?_, I.stack, I.stkFree⟩
    · have e1 : cenv.cells.lookup y = some c := e1
      have e2 : cenv.cells.lookup z = some c := e2
      exact I.ok.inj y z c (mem e1).1 (mem e2).1
    · show ∃ c, cenv.cells.lookup y = some c
      have key : ∀ k, scope.names.lookup y = some k → (k = .cell ∨ k = .free) → ∃ c, cenv.cells.lookup y = some c := fun k hk hk' => by
        rcases hk' with rfl | rfl
        · exact absurd hk nocell
        · obtain ⟨c, h1, _⟩ := look hk
          exact ⟨c, h1⟩
      have hy : cenv.scope.names.lookup y = some .cell ∨ cenv.scope.names.lookup y = some .free := hy
      rw [hsc] at hy
      rcases hy with hy | hy
      · exact key _ hy (.inl rfl)
      · exact key _ hy (.inr rfl)
    · exact absurd (show false = true from z) Bool.false_ne_true
    · show b ≠ cenv.locals
      rw [hL]; exact Nat.ne_of_lt (hfp b hb).2
    · have e : cenv.cells.lookup y = some c := e
      exact (hfp b hb).1.2.2.2.2.1 y c (mem e).1 z
    · rcases (hfp b hb).1.2.2.2.1 with z | z
      · exact I.ok.noex b o e z
      · exact absurd (Nat.lt_of_lt_of_le (Heap.lt_size e) (Nat.le_trans I.ok.bsz z)) (Nat.lt_irrefl _)
    · rcases List.mem_cons.mp (I.stkSub b z) with z | z
      · exact (hfp b hb).1.2.1 z
      · exact (hfp b hb).1.2.2.1 z
  refine ⟨okB, os, bare, Un.kept kp, ⟨m, by show s'.heap.Ns cenv.locals m; rw [hL]; exact hn, fun i y av e1 e2 e3 => ?_⟩, fun y c e => ?_, ?_, fun y c e => ?_, fun p hp => ?_, I.hok.kept kp, by rw [wipe_length]; exact I.len⟩
  · obtain ⟨e2, hne⟩ := wipe_some e2
    have hfr : scope.names.lookup y = some .free := by
      have no : ∀ k, scope.names.lookup y = some k → ¬ (k = .local ∨ k = .cell) := fun k e hh => by
        rcases ok.own _ (PySem.mem_of_lookup e) hh with e' | e'
        · obtain ⟨p, hp, hpy⟩ := List.mem_map.mp e'
          have e3 := ok.ix p hp
          have : p.1 = y := hpy
          rw [this] at e3
          exact hne (List.mem_map.mpr ⟨p, hp, nodup_ix hN e3 e1⟩)
        · exact e' (List.mem_of_getElem? e1)
      have e3 : Vis cenv.scope y := e3
      rw [hsc] at e3
      rcases e3 with e3 | e3 | e3
      · exact absurd (.inl rfl) (no _ e3)
      · exact absurd (.inr rfl) (no _ e3)
      · exact e3
    obtain ⟨mm, hnn, hl⟩ := I.loc
    have hvis : Vis X.env.scope y := (ok.free _ (PySem.mem_of_lookup hfr) rfl).elim (fun k => .inr (.inl k)) (fun k => .inr (.inr k))
    obtain ⟨w, r, q⟩ := hl i y av e1 e2 hvis
    obtain ⟨c, h1, h2⟩ := look hfr
    refine ⟨w, r, .inr ⟨.inr (by show cenv.scope.names.lookup y = _; rw [hsc]; exact hfr), ?_⟩⟩
    rcases q with ⟨k, _⟩ | ⟨_, c', e', z⟩
    · have k : X.env.scope.names.lookup y = some .local := k
      rcases ok.free _ (PySem.mem_of_lookup hfr) rfl with k' | k' <;> rw [show X.env.scope.names.lookup y = _ from k'] at k <;> cases k
    · rw [h2] at e'; cases e'
      exact ⟨c, h1, z.keeps kp⟩
  · have e : cenv.cells.lookup y = some c := e
    obtain ⟨w, z⟩ := I.cell y c (mem e).1
    exact ⟨w, z.keeps kp⟩
  · show H cenv.locals = none
    rw [hL]; exact I.hok.fresh (Nat.le_refl _)
  · have e : cenv.cells.lookup y = some c := e
    exact I.freeC y c (mem e).1
  · exact absurd (show p ∈ ([] : List (Addr × Obj)) ++ [] from hp) (by simp)
end
/-! ### asleep and awake -/
/-- the consumer's own objects, as they stood when the generator was woken -/
def GI (Y : Cx) (cs : List Addr) (ip : List (Addr × Obj)) (s₀ : Shared) (σ : L2.St) (H : Hp) (s : Shared) : Prop :=
  ∃ po : List (Addr × Obj), po.map (·.1) = cs ∧ (∀ p ∈ po, s₀.heap.get? p.1 = some p.2) ∧ Inv Y (po ++ ip) σ H s
/-- while the generator sleeps the consumer changes its own objects alone -/
structure Slept (cs : List Addr) (s s' : Shared) : Prop where
  os : s'.os = s.os
  bare : AllBare s'.gens
  keep : ∀ b o, b ∉ cs → s.heap.get? b = some o → s'.heap.get? b = some o
  own : ∀ b ∈ cs, ∃ o, s'.heap.get? b = some o ∧ ∀ v, o.data ≠ .cell v
/-- the consumer's objects are younger than the generator -/
def Apart (Y : Cx) (cs : List Addr) : Prop := ∀ b ∈ cs, Y.s_0.heap.objs.size ≤ b ∧ b ≠ Y.env.locals ∧ (∀ x c, Y.env.cells.lookup x = some c → c ≠ b) ∧ b ∉ Y.fs ∧ b ∉ Y.ex ∧ ∀ p ∈ Y.pn, p.1 ≠ b
theorem GI.woken {Y : Cx} {cs : List Addr} {ip : List (Addr × Obj)} {s₀ s s' : Shared} {σ : L2.St} {H : Hp} (hA : Apart Y cs) (hip : ∀ p ∈ ip, p.1 ∉ cs) (h : GI Y cs ip s₀ σ H s) (z : Slept cs s s') : GI Y cs ip s' σ H s' := by
  obtain ⟨po, hm, h0, I⟩ := h
  have nH : ∀ b ∈ cs, H b = none := fun b hb => by
    rw [← hm] at hb
    obtain ⟨p, hp, e⟩ := List.mem_map.mp hb
    rw [← e]
    exact (I.pin p (List.mem_append_right _ (List.mem_append_left _ hp))).2.1
  have I0 : Inv Y ip σ H s := I.pins_of fun p hp => I.pin p (List.mem_append_right _ (List.mem_append_right _ hp))
  have ne : ∀ b u, H b = some u → b ∉ cs := fun b u q hb => by rw [nH b hb] at q; cases q
  have hk : HOk Y.prog Y.w H s'.heap := fun b u q => (I0.hok b u q).stay (fun c v hc y => z.keep c v (by
    rcases hc with y | y
    · rw [y]; exact ne b u q
    · exact ne c _ y) y) (fun _ y => y) fun _ _ y => y
  have un : Un (frs Y.stack) cs H H s.heap s'.heap := by
    refine ⟨fun b o e _ _ hc => z.keep b o hc e, fun b o e _ _ hc => ⟨o.slots, z.keep b o hc e⟩, fun _ _ _ n _ => n, fun b o e hc => ⟨o, z.keep b o hc e⟩, fun _ _ q => q, fun _ _ _ q => q, fun b ps q => ⟨#[], by rw [q]; simp⟩⟩
  have J : Inv Y ip σ H s' := I0.call' z.os un hk z.bare fun b hb => by
    obtain ⟨g1, g2, g3, g4, g5, g6⟩ := hA b hb
    refine ⟨.inr g1, g2, g3, fun p hp e => ?_⟩
    rcases List.mem_append.mp hp with hp | hp
    · exact g6 p hp e
    · exact hip p hp (by rw [e]; exact hb)
  have ex : ∀ l : List Addr, (∀ b ∈ l, b ∈ cs) → ∃ po' : List (Addr × Obj), po'.map (·.1) = l ∧ ∀ p ∈ po', p.1 ∈ cs ∧ s'.heap.get? p.1 = some p.2 ∧ ∀ v, p.2.data ≠ .cell v := by
    intro l
    induction l with
    | nil => exact fun _ => ⟨[], rfl, fun p hp => by simp at hp⟩
    | cons b l ih =>
      intro hl
      obtain ⟨po', e1, e2⟩ := ih fun c hc => hl c (List.mem_cons_of_mem _ hc)
      obtain ⟨o, e3, e4⟩ := z.own b (hl b List.mem_cons_self)
      refine ⟨(b, o) :: po', by simp [e1], fun p hp => ?_⟩
      rcases List.mem_cons.mp hp with hp | hp
      · rw [hp]; exact ⟨hl b List.mem_cons_self, e3, e4⟩
      · exact e2 p hp
  obtain ⟨po', e1, e2⟩ := ex cs fun _ h => h
  refine ⟨po', e1, fun p hp => (e2 p hp).2.1, J.pins_of fun p hp => ?_⟩
  rcases List.mem_append.mp hp with hp | hp
  · obtain ⟨f1, f2, f3⟩ := e2 p hp
    obtain ⟨g1, g2, g3, g4, _⟩ := hA p.1 f1
    exact ⟨f2, nH _ f1, g2, g4, f3⟩
  · exact J.pin p (List.mem_append_right _ hp)
end GenX

set_option Elab.async false
set_option linter.all false
set_option maxRecDepth 100000
set_option maxHeartbeats 1000000
namespace GenX
open PySem PySem.Spec PyProof.Rows L2 GenW
/-! ### the generator's loop -/
def gEnd (Y : Cx) (cs : List Addr) (L : List V → Heap → Prop) (σ : L2.St) (N : Nat) (Qe : List V → Hp → Prop) : GenEnd := fun n s₀ r s =>
  r = .ok .next ∧ ∃ ys H, n + ys.length = N ∧ GI Y cs [] s₀ σ H s ∧ L ys s₀.heap ∧ Qe ys H
def gYld (Y : Cx) (cs : List Addr) (L : List V → Heap → Prop) (Go : V → Prop) (N : Nat) (Yd : List V → V → Hp → Prop) : Protocol := fun n s₀ v s kap =>
  ∃ ys x ip σ H, n + 1 + ys.length = N ∧ RelV x v ∧ GI Y cs ip s₀ σ H s ∧ L ys s₀.heap ∧ Yd ys x H ∧ ∀ s', Slept cs s s' → L (ys ++ [x]) s'.heap → Go x → kap (.send .none) s'
/-- one turn, from the invariant W (turn, measure, what is out) -/
def GTurn (J : It) (g : TG) (tt : TT) (te : TE) (vs : List Nat) (σ : L2.St) (Go : V → Prop) (N : Nat) (Yd : List V → V → Hp → Prop) (Qe : List V → Hp → Prop) (W : Nat → Nat → List V → Hp → Prop) : Prop :=
  ∀ i m ys H, W i m ys H → (J.stop i H ∧ Qe ys H) ∨ (J.go i H ∧ ∃ Nx : List V → Hp → Prop, (∀ ys' H', Nx ys' H' → ∃ m', m' < m ∧ W (i + 1) m' ys' H') ∧
    ∀ x H', J.yld i H x H' → g x (wipe σ vs) H' fun σ2 H2 => wipe σ2 vs = wipe σ vs ∧ tt σ2 H2 fun b H3 =>
      if b = true then te σ2 H3 fun y H4 => ys.length < N ∧ Yd ys y H4 ∧ (Go y → Nx (ys ++ [y]) H4) else Nx ys H3)
section
variable {Y : Cx} {elt tg iter : Expr} {ifs : List Expr} {scope : Scope} {pos : Pos} {it : Addr} {fp : List Addr} {tn : Nat → Heap → Prop} {J : It} {g : TG} {tt : TT} {te : TE} {vs : List Nat} {σ : L2.St} {N : Nat} {Yd : List V → V → Hp → Prop} {Qe : List V → Hp → Prop} {W : Nat → Nat → List V → Hp → Prop} {A : Around} {cs : List Addr} {L : List V → Heap → Prop} {Go : V → Prop}
theorem seg_gloop (T : Turn Y.prog Y.w Y.K tg J fp it tn) (hc : Y.calm = true) (hxe : Y.xe = fun _ _ => False) (hex : Y.ex = fp) (hco : Y.env.scope.isCoroutine = false) (pg : PG Y tg g) (pt : PTs Y ifs tt) (pe : PE Y elt te)
    (hA : A.over (.compLoop (.GeneratorExp elt [⟨tg, iter, ifs, 0⟩] scope pos) 0 (.ref it) .none Y.env) [] = Y.A) (ap : Apart Y cs) (hpn : ∀ b ∈ fp, ∀ p ∈ Y.pn, p.1 ≠ b) (turn : GTurn J g tt te vs σ Go N Yd Qe W) :
    ∀ (m n i : Nat) (ys : List V) (s₀ s : Shared) (H : Hp), n + ys.length = N → W i m ys H → GI Y cs [] s₀ (wipe σ vs) H s → L ys s₀.heap → tn i s.heap → (∀ b ∈ fp, H b = none) →
      Seg (model Y.prog Y.w) A (gEnd Y cs L (wipe σ vs) N Qe) (gYld Y cs L Go N Yd) n s₀ (.compLoop (.GeneratorExp elt [⟨tg, iter, ifs, 0⟩] scope pos) 0 (.ref it) .none Y.env)
        ((model Y.prog Y.w).den (.compLoop (.GeneratorExp elt [⟨tg, iter, ifs, 0⟩] scope pos) 0 (.ref it) .none Y.env)) [] s := by
  have ncs : ∀ b ∈ fp, b ∉ cs := fun b hb hb2 => (ap b hb2).2.2.2.2.1 (by rw [hex]; exact hb)
  have stat : ∀ {po : List (Addr × Obj)} {σ' : L2.St} {H' : Hp} {s' : Shared}, po.map (·.1) = cs → Inv Y po σ' H' s' → (∀ b ∈ fp, H' b = none) → ∀ b ∈ fp, FpOk Y po H' b := fun {po σ' H' s'} hm I' hn b hb =>
    ⟨hn b hb, (I'.ok.exf b (by rw [hex]; exact hb)).1, I'.ok.exfs b (by rw [hex]; exact hb), .inl (by rw [hex]; exact hb), fun x c e => (I'.ok.exf b (by rw [hex]; exact hb)).2 x c e, fun p hp => by
      rcases List.mem_append.mp hp with hp | hp
      · exact hpn b hb p hp
      · intro e
        exact ncs b hb (by rw [← hm, ← e]; exact List.mem_map_of_mem hp)⟩
  intro m
  induction m using Nat.strongRecOn with
  | ind m ih =>
    intro n i ys s₀ s H hn w hI hL st nfp
    obtain ⟨po, hm, h0, I⟩ := hI
    rw [List.append_nil] at I
    show Seg _ A _ _ _ s₀ _ ((compTurn (.GeneratorExp elt [⟨tg, iter, ifs, 0⟩] scope pos) 0 (.ref it) .none Y.env).onRaise (leaving Y.env)) [] s
    rw [compTurn_gen, Sem.onRaise_eq_wrap]
    refine seg_bind_wrap (wpAny_standAt ?_)
    rcases turn i m ys H w with ⟨stop, qq⟩ | ⟨go, Nx, hNx, step⟩
    · refine seg_bind_wrap ?_
      rw [hA]
      refine thnF (T.done Y rfl rfl rfl hc i po s _ H (fun _ _ => False) I (stat hm I nfp) st stop) fun r s6 ⟨hr, I6⟩ => ?_
      subst hr
      exact seg_end (.ok .next) ⟨rfl, ys, H, hn, ⟨po, hm, h0, by rw [List.append_nil]; exact I6⟩, hL, qq⟩
    · refine seg_bind_wrap ?_
      rw [hA]
      refine thnF (T.item Y rfl rfl rfl hc i po s _ H (fun _ _ => False) I (stat hm I nfp) st go) fun r s6 ⟨u, hr, h6⟩ => ?_
      subst hr
      refine seg_bind_wrap ?_
      rw [hA]
      refine thnF h6 fun _ s7 ⟨x, H7, I7, r7, y7, st7, n7⟩ => ?_
      have I7' := I7.pinned (stat hm I7 n7) (T.obj _ _ st7)
      refine seg_bind_wrap ?_
      rw [hA]
      refine wpAny_mono (pg.run _ s7 _ H7 x u _ I7' r7 (step x H7 y7)) (fun _ s8 ⟨σ8, H8, I8, hw8, q8⟩ => ?_) fun x s' hx => by rw [hxe] at hx; exact hx.elim
      refine seg_bind_wrap ?_
      rw [hA]
      refine wpAny_mono (pt.run _ s8 σ8 H8 _ I8 q8) (fun b s9 ⟨H9, I9, q9⟩ => ?_) fun x s' hx => by rw [hxe] at hx; exact hx.elim
      have hip : ∀ p ∈ pinsAt fp s7.heap, p.1 ∉ cs := fun p hp => ncs p.1 (of_pinsAt hp).1
      -- the turn's end
      have fin : ∀ {n' : Nat} {ys' : List V} {s₀' s' : Shared} {H' : Hp}, n' + ys'.length = N → GI Y cs (pinsAt fp s7.heap) s₀' σ8 H' s' → L ys' s₀'.heap → Nx ys' H' →
          Seg (model Y.prog Y.w) A (gEnd Y cs L (wipe σ vs) N Qe) (gYld Y cs L Go N Yd) n' s₀' (.compLoop (.GeneratorExp elt [⟨tg, iter, ifs, 0⟩] scope pos) 0 (.ref it) .none Y.env)
            ((model Y.prog Y.w).den (.compLoop (.GeneratorExp elt [⟨tg, iter, ifs, 0⟩] scope pos) 0 (.ref it) .none Y.env)) [] s' := fun {n' ys' s₀' s' H'} hn' hI' hL' nx => by
        obtain ⟨m', hm', w'⟩ := hNx ys' H' nx
        obtain ⟨po', g1, g2, I'⟩ := hI'
        have pin' : ∀ b ∈ fp, ∀ o, s7.heap.get? b = some o → s'.heap.get? b = some o ∧ H' b = none := fun b hb o e =>
          let z := I'.pin (b, o) (List.mem_append_right _ (List.mem_append_right _ (mem_pinsAt hb e)))
          ⟨z.1, z.2.1⟩
        have hl : (wipe σ vs).length = σ8.length := by rw [← hw8, wipe_length]
        refine ih m' hm' n' (i + 1) ys' s₀' s' H' hn' w' ⟨po', g1, g2, ?_⟩ hL' (T.keep _ _ _ st7 fun b hb o e => (pin' b hb o e).1) fun b hb => ?_
        · rw [List.append_nil]
          refine (I'.unpinned (pins := po')).weak hl fun j v e => ?_
          rw [← hw8] at e
          exact (wipe_some e).1
        · obtain ⟨o, e, _⟩ := T.obj _ _ st7 b hb
          exact (pin' b hb o e).2
      cases b with
      | false =>
        simp only [Bool.false_eq_true, if_false] at q9 ⊢
        exact seg_again rfl (fin hn ⟨po, hm, h0, I9⟩ hL q9)
      | true =>
        simp only [if_true] at q9 ⊢
        have hy : ∀ v, yieldOut Y.env v = yieldValue v := fun v => by simp only [yieldOut, hco, Bool.false_eq_true, if_false]
        simp only [hy]
        rw [Sem.bind_eq_wrap', Sem.bind_eq_wrap', Sem.wrap_wrap, Sem.wrap_wrap]
        refine seg_wrap ?_
        rw [hA]
        refine wpAny_mono (pe.run _ s9 σ8 H9 _ I9 q9) (fun z s10 ⟨yv, H10, I10, r10, hlt, hyd, nx⟩ => ?_) fun x s' hx => by rw [hxe] at hx; exact hx.elim
        obtain ⟨n', rfl⟩ : ∃ n', n = n' + 1 := ⟨n - 1, by omega⟩
        have gi : GI Y cs (pinsAt fp s7.heap) s₀ σ8 H10 s10 := ⟨po, hm, h0, I10⟩
        refine seg_at (seg_yield rfl rfl rfl ⟨ys, yv, pinsAt fp s7.heap, σ8, H10, by show n' + 1 + ys.length = N; omega, r10, gi, hL, hyd, fun s'' sl hl2 hgo => ?_⟩)
        refine seg_again rfl (fin (by rw [List.length_append, List.length_singleton]; omega) (gi.woken ap hip sl) hl2 (nx hgo))
theorem seg_gstart (T : Turn Y.prog Y.w Y.K tg J fp it tn) (hc : Y.calm = true) (hxe : Y.xe = fun _ _ => False) (hex : Y.ex = fp) (hco : Y.env.scope.isCoroutine = false) (pg : PG Y tg g) (pt : PTs Y ifs tt) (pe : PE Y elt te)
    (hA : A.over (.compLoop (.GeneratorExp elt [⟨tg, iter, ifs, 0⟩] scope pos) 0 (.ref it) .none Y.env) [] = Y.A) (hA0 : A.over (.compStart (.GeneratorExp elt [⟨tg, iter, ifs, 0⟩] scope pos) 0 (.ref it) .none Y.env) [] = Y.A) (ap : Apart Y cs) (hpn : ∀ b ∈ fp, ∀ p ∈ Y.pn, p.1 ≠ b) (turn : GTurn J g tt te vs σ Go N Yd Qe W)
    {m : Nat} {s : Shared} {H : Hp} (w : W 0 m [] H) (hI : GI Y cs [] s (wipe σ vs) H s) (hL : L [] s.heap) (st : tn 0 s.heap) (nfp : ∀ b ∈ fp, H b = none) :
    Seg (model Y.prog Y.w) A (gEnd Y cs L (wipe σ vs) N Qe) (gYld Y cs L Go N Yd) N s (.compStart (.GeneratorExp elt [⟨tg, iter, ifs, 0⟩] scope pos) 0 (.ref it) .none Y.env)
      ((model Y.prog Y.w).den (.compStart (.GeneratorExp elt [⟨tg, iter, ifs, 0⟩] scope pos) 0 (.ref it) .none Y.env)) [] s := by
  have loop := seg_gloop (iter := iter) (scope := scope) (pos := pos) T hc hxe hex hco pg pt pe hA ap hpn turn m N 0 [] s s H rfl w hI hL st nfp
  show Seg _ A _ _ _ s _ ((compStart (.GeneratorExp elt [⟨tg, iter, ifs, 0⟩] scope pos) 0 (.ref it) .none Y.env).onRaise (leaving Y.env)) [] s
  unfold compStart
  rw [Sem.onRaise_eq_wrap]
  show Seg _ A _ _ _ s _ ((ask >>= _).wrap _ _ _ _) [] s
  refine seg_bind_wrap (wpAny_askSetting ?_)
  split
  · exact seg_again rfl loop
  · first
      | exact seg_bind_wrap (wpAny_rule (seg_bind_wrap (wpAny_standAt (seg_bind_wrap (T.self _ 0 s _ _ st (seg_again rfl loop))))))
      | (refine seg_bind_wrap (wpAny_rule ?_); show Seg _ A _ _ _ s _ ((standAt iter.pos >>= _).wrap _ _ _ _) [] s; exact seg_bind_wrap (wpAny_standAt (seg_bind_wrap (T.self _ 0 s _ _ st (seg_again rfl loop)))))
theorem over_gen {A : Around} {e : Expr} {gs : List Comprehension} {scope : Scope} {pos : Pos} {it acc : Value} {env : PySem.Env} : A.over (.compLoop (.GeneratorExp e gs scope pos) 0 it acc env) [] = A.deeper env := by
  first
    | rfl
    | (obtain ⟨hd, d, fr, gs, u⟩ := A; simp [Around.over, Around.deeper, marksOver, frameCount, unitsOf, envsOf, guardsOf, pushEnvs, pushGuards, Code.envs, Code.env?, Code.isFrame, Code.guards, Code.isGuard, Code.weight, Code.frames, Code.isCreation, Code.isCaller, Code.cUnits])
theorem over_gen0 {A : Around} {e : Expr} {gs : List Comprehension} {scope : Scope} {pos : Pos} {it acc : Value} {env : PySem.Env} : A.over (.compStart (.GeneratorExp e gs scope pos) 0 it acc env) [] = A.deeper env := by
  first
    | rfl
    | (obtain ⟨hd, d, fr, gs, u⟩ := A; simp [Around.over, Around.deeper, marksOver, frameCount, unitsOf, envsOf, guardsOf, pushEnvs, pushGuards, Code.envs, Code.env?, Code.isFrame, Code.guards, Code.isGuard, Code.weight, Code.frames, Code.isCreation, Code.isCaller, Code.cUnits])
end
end GenX

set_option Elab.async false
set_option linter.all false
set_option maxRecDepth 100000
set_option maxHeartbeats 1000000
namespace GenX
open PySem PySem.Spec PyProof.Rows L2 GenW
/-! ### a generator expression is made; what its consumer sees, in the def's own context -/
def GUp (X : Cx) (pins : List (Addr × Obj)) (σ : L2.St) (a g : Nat) (cs : List Addr) (H' : Hp) (s₀ s : Shared) : Prop :=
  Inv X pins σ H' s ∧ s.heap.IsGen a g ∧ ∀ b ∈ cs, s.heap.get? b = s₀.heap.get? b ∧ H' b = none
def YX (X : Cx) (pins : List (Addr × Obj)) (σ : L2.St) (a g : Nat) (cs : List Addr) (L : List V → Heap → Prop) (Go : V → Prop) (N : Nat) (Yd : List V → V → Hp → Prop) : Protocol := fun n s₀ v s kap =>
  ∃ ys x H', n + 1 + ys.length = N ∧ RelV x v ∧ GUp X pins σ a g cs H' s₀ s ∧ L ys s₀.heap ∧ Yd ys x H' ∧ ∀ s', Slept cs s s' → L (ys ++ [x]) s'.heap → Go x → kap (.send .none) s'
def EX (X : Cx) (pins : List (Addr × Obj)) (σ : L2.St) (a g : Nat) (cs : List Addr) (L : List V → Heap → Prop) (N : Nat) (Qe : List V → Hp → Prop) : GenEnd := fun n s₀ r s =>
  r = .ok .next ∧ ∃ ys H', n + ys.length = N ∧ GUp X pins σ a g cs H' s₀ s ∧ L ys s₀.heap ∧ Qe ys H'
/-- made, not yet woken -/
def GReady (X : Cx) (pins : List (Addr × Obj)) (σ : L2.St) (k : Nat) (Go : V → Prop) (N : Nat) (Yd : List V → V → Hp → Prop) (Qe : List V → Hp → Prop) (u : Value) (s' : Shared) : Prop :=
  ∃ (a g : Nat) (c : Code) (H' : Hp), u = .ref a ∧ a < s'.heap.objs.size ∧ s'.heap.IsGen a g ∧ s'.gens[g]? = some (.fresh c) ∧ Inv X pins σ H' s' ∧
    ∀ (A : Around) (cs : List Addr) (L : List V → Heap → Prop) (s2 : Shared), Room k A → A.frames = some X.stack → (∀ b ∈ cs, s'.heap.objs.size ≤ b ∧ ∃ o, s2.heap.get? b = some o ∧ ∀ v, o.data ≠ .cell v) →
      (∀ b o, s'.heap.get? b = some o → s2.heap.get? b = some o) → s2.os = s'.os → AllBare s2.gens → L [] s2.heap →
      Seg (model X.prog X.w) A (EX X pins σ a g cs L N Qe) (YX X pins σ a g cs L Go N Yd) N s2 c ((model X.prog X.w).den c) [] s2
theorem inv_pinned {X : Cx} {A : Around} {s s2 : Shared} {H H' : Hp} {cenv : PySem.Env} {fp : List Addr} {pn pins : List (Addr × Obj)} {σ : L2.St} (I : Inv (gY X A s H cenv fp []) [] σ H' s2)
    (h : ∀ p ∈ pn ++ pins, s2.heap.get? p.1 = some p.2 ∧ H' p.1 = none ∧ p.1 ≠ cenv.locals ∧ p.1 ∉ frs X.stack ∧ ∀ v, p.2.data ≠ .cell v) : Inv (gY X A s H cenv fp pn) pins σ H' s2 :=
  ⟨⟨I.ok.mod, I.ok.kind, I.ok.glob, I.ok.blt, I.ok.above, I.ok.inj, I.ok.has, I.ok.cab, I.ok.hd, I.ok.frames, I.ok.stk, I.ok.exf, I.ok.bs, I.ok.bsz, I.ok.noex, I.ok.exfs, I.ok.funs, I.ok.frf⟩, I.os, I.bare, I.base, I.loc, I.cell, I.free, I.freeC, h, I.hok, I.len⟩
theorem objs_of {s' : Shared} {cs : List Addr} (h : ∀ b ∈ cs, ∃ o, s'.heap.get? b = some o ∧ ∀ v, o.data ≠ .cell v) : ∃ po' : List (Addr × Obj), po'.map (·.1) = cs ∧ ∀ p ∈ po', p.1 ∈ cs ∧ s'.heap.get? p.1 = some p.2 ∧ ∀ v, p.2.data ≠ .cell v := by
  have ex : ∀ l : List Addr, (∀ b ∈ l, b ∈ cs) → ∃ po' : List (Addr × Obj), po'.map (·.1) = l ∧ ∀ p ∈ po', p.1 ∈ cs ∧ s'.heap.get? p.1 = some p.2 ∧ ∀ v, p.2.data ≠ .cell v := by
    intro l
    induction l with
    | nil => exact fun _ => ⟨[], rfl, fun p hp => by simp at hp⟩
    | cons b l ih =>
      intro hl
      obtain ⟨po', e1, e2⟩ := ih fun c hc => hl c (List.mem_cons_of_mem _ hc)
      obtain ⟨o, e3, e4⟩ := h b (hl b List.mem_cons_self)
      refine ⟨(b, o) :: po', by simp [e1], fun p hp => ?_⟩
      rcases List.mem_cons.mp hp with hp | hp
      · rw [hp]; exact ⟨hl b List.mem_cons_self, e3, e4⟩
      · exact e2 p hp
  exact ex cs fun _ h => h
section
variable {X : Cx} {pins : List (Addr × Obj)} {σ : L2.St} {H : Hp} {s : Shared}
/-- at the moment of the making (the iterator stands, the code object is found) -/
theorem gen_ready {elt tg iter : Expr} {ifs : List Expr} {scope : Scope} {pos : Pos} {own : List (Str × Nat)} {it : Addr} {fp : List Addr} {tn : Nat → Heap → Prop} {J : It} {g : TG} {tt : TT} {te : TE} {Go : V → Prop} {k N : Nat} {Yd : List V → V → Hp → Prop} {Qe : List V → Hp → Prop} {W : Nat → Nat → List V → Hp → Prop} {m0 : Nat} {code : Value} {tk : Nat} {h' : Heap} {nm qn : Value} {mm : Str → Option Value}
    (hc : X.calm = true) (hN : X.N.Nodup) (I : Inv X pins σ H s) (ok : BlkOk X.N X.env.scope scope own) (gx : GScp scope) (T : Turn X.prog X.w X.K tg J fp it tn) (st : tn 0 s.heap) (hfp : ∀ b ∈ fp, FpOk X pins H b)
    (hg : ∀ (A : Around) (s : Shared) (H : Hp) (L : Addr) (code : Value) (fp : List Addr) (pn : List (Addr × Obj)), Room k (A.deeper (genEnv scope (cloFrom X.env.cells scope.names []) L code builtinsNs X.env)) → PG (gY X (A.deeper (genEnv scope (cloFrom X.env.cells scope.names []) L code builtinsNs X.env)) s H (genEnv scope (cloFrom X.env.cells scope.names []) L code builtinsNs X.env) fp pn) tg g)
    (ht : ∀ (A : Around) (s : Shared) (H : Hp) (L : Addr) (code : Value) (fp : List Addr) (pn : List (Addr × Obj)), Room k (A.deeper (genEnv scope (cloFrom X.env.cells scope.names []) L code builtinsNs X.env)) → PTs (gY X (A.deeper (genEnv scope (cloFrom X.env.cells scope.names []) L code builtinsNs X.env)) s H (genEnv scope (cloFrom X.env.cells scope.names []) L code builtinsNs X.env) fp pn) ifs tt)
    (he : ∀ (A : Around) (s : Shared) (H : Hp) (L : Addr) (code : Value) (fp : List Addr) (pn : List (Addr × Obj)), Room k (A.deeper (genEnv scope (cloFrom X.env.cells scope.names []) L code builtinsNs X.env)) → PE (gY X (A.deeper (genEnv scope (cloFrom X.env.cells scope.names []) L code builtinsNs X.env)) s H (genEnv scope (cloFrom X.env.cells scope.names []) L code builtinsNs X.env) fp pn) elt te)
    (w0 : W 0 m0 [] H) (turn : GTurn J g tt te (own.map (·.2)) σ Go N Yd Qe W)
    (hn : h'.Ns s.heap.objs.size mm) (hs : Heap.SameBut s.heap.objs.size (s.heap.push { cls := .type "frame", data := .dict #[] }) h') :
    GReady X pins σ (k + 1) Go N Yd Qe (.ref h'.objs.size) { s with
      gens := s.gens.push (.fresh (.compStart (.GeneratorExp elt [⟨tg, iter, ifs, 0⟩] scope pos) 0 (.ref it) .none (genEnv scope (cloFrom X.env.cells scope.names []) s.heap.objs.size code builtinsNs X.env))), toks := tk,
      heap := h'.push { cls := .type "generator", data := .fields #[.int s.gens.size 0, nm, qn] } } := by
  have hsz : h'.objs.size = s.heap.objs.size + 1 := by rw [hs.1, Heap.size_push]
  have keep' : ∀ b o, s.heap.get? b = some o → h'.get? b = some o := fun b o e => hs.extBut b o (Nat.ne_of_lt (Heap.lt_size e)) (Heap.get?_push_of_some _ e)
  generalize hgo : ({ cls := .type "generator", data := .fields #[.int s.gens.size 0, nm, qn] } : Obj) = go
  have hgp : ∀ h : Heap, (h.push go).get? h.objs.size = some go := fun h => by subst hgo; exact Heap.get?_push_size _ rfl
  have hgen : ∀ h : Heap, h.get? h'.objs.size = some go → h.IsGen h'.objs.size s.gens.size := fun h e => ⟨go, nm, qn, e, by subst hgo; rfl, by subst hgo; rfl, by subst hgo; rfl⟩
  have hgd : ∀ v, go.data ≠ .cell v := fun v q => by subst hgo; cases q
  have keep5 : ∀ b o, s.heap.get? b = some o → (h'.push go).get? b = some o := fun b o e => Heap.get?_push_of_some _ (keep' b o e)
  have bare5 : AllBare (s.gens.push (.fresh (.compStart (.GeneratorExp elt [⟨tg, iter, ifs, 0⟩] scope pos) 0 (.ref it) .none (genEnv scope (cloFrom X.env.cells scope.names []) s.heap.objs.size code builtinsNs X.env)))) := AllBare.push I.bare rfl
  have sz : ∀ b ∈ fp, b < s.heap.objs.size := fun b hb => by
    obtain ⟨o, e, _⟩ := T.obj _ _ st b hb
    exact Heap.lt_size e
  refine ⟨h'.objs.size, s.gens.size, _, H, rfl, ?_, hgen _ (hgp _), Array.getElem?_push_size .., I.call' (ch := []) rfl (Un.kept keep5) (I.hok.kept keep5) bare5 (fun b z => by simp at z), ?_⟩
  · show _ < (h'.push go).objs.size
    rw [Heap.size_push]; exact Nat.lt_succ_self _
  intro A cs L s2 hr hfr hcs kp2 os2 bare2 hL
  have hcs1 : ∀ b ∈ cs, h'.objs.size < b := fun b hb => by
    have z := (hcs b hb).1
    have z : (h'.push go).objs.size ≤ b := z
    rw [Heap.size_push] at z
    exact z
  have hcs0 : ∀ b ∈ cs, s.heap.objs.size < b := fun b hb => by
    have := hcs1 b hb
    omega
  generalize hce : genEnv scope (cloFrom X.env.cells scope.names []) s.heap.objs.size code builtinsNs X.env = cenv
  have cL : cenv.locals = s.heap.objs.size := by subst hce; rfl
  have kpA : ∀ b o, s.heap.get? b = some o → s2.heap.get? b = some o := fun b o e => kp2 b o (keep5 b o e)
  have hea : s2.heap.get? h'.objs.size = some go := kp2 _ go (hgp _)
  have IY : Inv (gY X (A.deeper cenv) s H cenv fp []) [] (wipe σ (own.map (·.2))) H s2 := by
    subst hce
    exact gen_start (code := code) I ok gx hN (fun b hb => ⟨hfp b hb, sz b hb⟩) (hr.deeper _).hd (Around.frames_deeper hfr) os2 bare2 kpA (hn.at' fun o e => kp2 _ o (Heap.get?_push_of_some _ e))
  have young : ∀ b, s.heap.objs.size < b → H b = none ∧ b ≠ cenv.locals ∧ b ∉ frs X.stack := fun b hb => by
    refine ⟨I.hok.fresh (Nat.le_of_lt hb), by rw [cL]; exact Nat.ne_of_gt hb, fun z => ?_⟩
    rcases List.mem_cons.mp (I.stkSub b z) with z | z
    · have h1 := I.lt
      rw [← z] at h1
      exact Nat.lt_irrefl _ (Nat.lt_trans h1 hb)
    · exact I.nofs (Nat.le_of_lt hb) z
  obtain ⟨po, e1, e2⟩ := objs_of (s' := s2) fun b hb => (hcs b hb).2
  have IP : Inv (gY X (A.deeper cenv) s H cenv fp [(h'.objs.size, go)]) po (wipe σ (own.map (·.2))) H s2 := inv_pinned IY fun p hp => by
    rcases List.mem_append.mp hp with hp | hp
    · rw [List.mem_singleton.mp hp]
      obtain ⟨y1, y2, y3⟩ := young h'.objs.size (by omega)
      exact ⟨hea, y1, y2, y3, hgd⟩
    · obtain ⟨f1, f2, f3⟩ := e2 p hp
      obtain ⟨y1, y2, y3⟩ := young p.1 (hcs0 _ f1)
      exact ⟨f2, y1, y2, y3, f3⟩
  have ap : Apart (gY X (A.deeper cenv) s H cenv fp [(h'.objs.size, go)]) cs := fun b hb => by
    obtain ⟨y1, y2, y3⟩ := young b (hcs0 b hb)
    refine ⟨Nat.le_of_lt (hcs0 b hb), y2, fun x c e z => ?_, y3, fun z => ?_, fun p hp z => ?_⟩
    · have e : cenv.cells.lookup x = some c := e
      rw [← hce] at e
      rcases cloFrom_mem (PySem.mem_of_lookup e) with q | ⟨q1, q2⟩
      · cases q
      · have : ∃ c', X.env.cells.lookup x = some c' := by
          rcases ok.free _ q1 rfl with q3 | q3
          · exact I.ok.has _ (.inl q3)
          · exact I.ok.has _ (.inr q3)
        obtain ⟨c', e'⟩ := this
        have e' : X.env.cells.lookup x = some c' := e'
        simp only [e'] at q2
        obtain ⟨v, q⟩ := I.cell _ _ e'
        have h1 := q.lt
        have h2 := hcs0 b hb
        have h3 : c = c' := q2
        rw [← z, h3] at h2
        exact absurd (Nat.lt_trans h1 h2) (Nat.lt_irrefl _)
    · exact absurd (Nat.lt_trans (sz b z) (hcs0 b hb)) (Nat.lt_irrefl _)
    · rw [List.mem_singleton.mp hp] at z
      have h1 := hcs1 b hb
      rw [← z] at h1
      exact Nat.lt_irrefl _ h1
  have hpn : ∀ b ∈ fp, ∀ p ∈ [(h'.objs.size, go)], p.1 ≠ b := fun b hb p hp z => by
    rw [List.mem_singleton.mp hp] at z
    have h1 := sz b hb
    rw [← z] at h1
    have h1 : h'.objs.size < s.heap.objs.size := h1
    omega
  have up : ∀ {ip : List (Addr × Obj)} {σ' : L2.St} {H' : Hp} {s₀ s' : Shared}, GI (gY X (A.deeper cenv) s H cenv fp [(h'.objs.size, go)]) cs ip s₀ σ' H' s' → GUp X pins σ h'.objs.size s.gens.size cs H' s₀ s' := fun {ip σ' H' s₀ s'} ⟨po', m1, m2, I'⟩ => by
    refine ⟨I.call' (ch := fp) I'.os I'.base I'.hok I'.bare fun b hb => ⟨(hfp b hb).2.2.2.1, (hfp b hb).2.1, (hfp b hb).2.2.2.2.1, (hfp b hb).2.2.2.2.2⟩, hgen _ (I'.pin (h'.objs.size, go) (List.mem_append_left _ (List.mem_singleton.mpr rfl))).1, fun b hb => ?_⟩
    rw [← m1] at hb
    obtain ⟨p, hp, e⟩ := List.mem_map.mp hb
    subst e
    have q := I'.pin p (List.mem_append_right _ (List.mem_append_left _ hp))
    exact ⟨q.1.trans (m2 p hp).symm, q.2.1⟩
  have pg := hg A s H s.heap.objs.size code fp [(h'.objs.size, go)] (hr.deeper _)
  have pt := ht A s H s.heap.objs.size code fp [(h'.objs.size, go)] (hr.deeper _)
  have pe := he A s H s.heap.objs.size code fp [(h'.objs.size, go)] (hr.deeper _)
  rw [hce] at pg pt pe
  have hco : cenv.scope.isCoroutine = false := by rw [← hce]; exact gx.co
  have S := seg_gstart (Y := gY X (A.deeper cenv) s H cenv fp [(h'.objs.size, go)]) (iter := iter) (scope := scope) (pos := pos) (A := A) (cs := cs) (L := L) (s := s2) T hc rfl rfl hco pg pt pe over_gen over_gen0 ap hpn turn (m := m0) w0 ⟨po, e1, fun p hp => (e2 p hp).2.1, by rw [List.append_nil]; exact IP⟩ hL
    (T.keep _ _ _ st fun b _ o e => kpA b o e) fun b hb => (hfp b hb).1
  exact seg_imp (fun n s₀ r s1 ⟨hr, ys, H', hn', gi, hL, q⟩ => ⟨hr, ys, H', hn', up gi, hL, q⟩) (fun n s₀ v s1 kap kap' hkk ⟨ys, x, ip, σ', H', hn', rv, gi, hL, yd, z⟩ => ⟨ys, x, H', hn', rv, up gi, hL, yd, fun s' sl hl2 hgo => hkk _ _ (z s' sl hl2 hgo)⟩) N S
end
end GenX

set_option Elab.async false
set_option linter.all false
set_option maxRecDepth 100000
set_option maxHeartbeats 1000000
namespace GenX
open PySem PySem.Spec PyProof.Rows L2 GenW
/-! ### the making -/
def tGen (T : List (Addr × Str)) (wi : TI) (g : TG) (tt : TT) (te : TE) (vs : List Nat) (Go : V → Prop) (Yd : List V → V → Hp → Prop) (Qe : List V → Hp → Prop) : L2.St → Hp → Prop := fun σ H => wi σ H fun J H1 =>
  LamX.Tabs T H1 ∧ ∀ H2, LamX.ExtN H1 H2 → LamX.Tabs T H2 → ∃ (N : Nat) (W : Nat → Nat → List V → Hp → Prop), N ≤ sizeLine ∧ (∃ m0, W 0 m0 [] H2) ∧ GTurn J g tt te vs σ Go N Yd Qe W
section
variable {X : Cx} {pins : List (Addr × Obj)} {σ : L2.St} {H : Hp} {s : Shared}
theorem gen_make {T : List (Addr × Str)} {c P : Addr} {elt tg iter : Expr} {ifs : List Expr} {scope : Scope} {pos : Pos} {own : List (Str × Nat)} {wi : TI} {g : TG} {tt : TT} {te : TE} {k kx : Nat} {Go : V → Prop} {Yd : List V → V → Hp → Prop} {Qe : List V → Hp → Prop} {Q : Value → Shared → Prop}
    (hrx : Room kx X.A) (hc : X.calm = true) (hN : X.N.Nodup) (I : Inv X pins σ H s) (hi : PI X tg iter wi) (ok : BlkOk X.N X.env.scope scope own) (gx : GScp scope)
    (TB : LamX.TabB X.base X.mg c P) (hcode : X.env.code = .ref c) (hm : (P, X.env.qual ++ "<genexpr>") ∈ T) (hu : ∀ p ∈ T, p.1 = P → p.2 = X.env.qual ++ "<genexpr>")
    (hg : ∀ (A : Around) (s : Shared) (H : Hp) (L : Addr) (code : Value) (fp : List Addr) (pn : List (Addr × Obj)), Room k (A.deeper (genEnv scope (cloFrom X.env.cells scope.names []) L code builtinsNs X.env)) → PG (gY X (A.deeper (genEnv scope (cloFrom X.env.cells scope.names []) L code builtinsNs X.env)) s H (genEnv scope (cloFrom X.env.cells scope.names []) L code builtinsNs X.env) fp pn) tg g)
    (ht : ∀ (A : Around) (s : Shared) (H : Hp) (L : Addr) (code : Value) (fp : List Addr) (pn : List (Addr × Obj)), Room k (A.deeper (genEnv scope (cloFrom X.env.cells scope.names []) L code builtinsNs X.env)) → PTs (gY X (A.deeper (genEnv scope (cloFrom X.env.cells scope.names []) L code builtinsNs X.env)) s H (genEnv scope (cloFrom X.env.cells scope.names []) L code builtinsNs X.env) fp pn) ifs tt)
    (he : ∀ (A : Around) (s : Shared) (H : Hp) (L : Addr) (code : Value) (fp : List Addr) (pn : List (Addr × Obj)), Room k (A.deeper (genEnv scope (cloFrom X.env.cells scope.names []) L code builtinsNs X.env)) → PE (gY X (A.deeper (genEnv scope (cloFrom X.env.cells scope.names []) L code builtinsNs X.env)) s H (genEnv scope (cloFrom X.env.cells scope.names []) L code builtinsNs X.env) fp pn) elt te)
    (h : tGen T wi g tt te (own.map (·.2)) Go Yd Qe σ H) (hQ : ∀ N u s', N ≤ sizeLine → GReady X pins σ (k + 1) Go N Yd Qe u s' → Q u s')
    (hs : ∀ x, genFold iter X.env x = pure x := by intro _; rfl) :
    wpAny (model X.prog X.w) X.A (eval (.GeneratorExp elt [⟨tg, iter, ifs, 0⟩] scope pos) X.env) Q X.xe s := by
  have hfree : ∀ y ∈ scope.names, y.2 = .free → ∃ c, X.env.cells.lookup y.1 = some c := fun y hy e => by
    rcases ok.free y hy e with k | k
    · exact I.ok.has _ (.inl k)
    · exact I.ok.has _ (.inr k)
  refine wpAny_GeneratorExp_make gx.co (closure_ok hfree) gx.cell gx.dot ok.kind (by have := hrx.dp; omega) ?_ hs
  refine thn (hi.run pins s σ H _ I h) fun xv s1 hx => thn hx fun itv s2 h2 => ?_
  obtain ⟨it, fp, tn, J, H2, e, I2, Tn, st2, f2, hT, q⟩ := h2
  subst e
  refine ⟨I2.nolimit, ?_⟩
  obtain ⟨ps, hP, htr, ha⟩ := hT _ hm
  have hP' : s2.heap.get? P = some { cls := .none, data := .fields ps } := I2.hok P _ hP
  have cd : PySem.W.CodeHd s2.heap c P := TB.code.keeps I2.bk
  have sz : ∀ b ∈ fp, b < s2.heap.objs.size := fun b hb => by
    obtain ⟨o, e, _⟩ := Tn.obj _ _ st2 b hb
    exact Heap.lt_size e
  have nP : ∀ b ∈ fp, b ≠ P := fun b hb z => by
    have z1 := (f2 b hb).1
    rw [z, hP] at z1; cases z1
  have cont : ∀ (code : Value) (H3 : Hp) (s3 : Shared), Inv X pins σ H3 s3 → LamX.ExtN H2 H3 → LamX.Tabs T H3 → (∀ b, b ≠ P → ∀ o, s2.heap.get? b = some o → s3.heap.get? b = some o) → (∀ b ∈ fp, H3 b = none) →
      wpAny (model X.prog X.w) X.A (builtinsFor X.env.globals X.env.builtins) (fun bi s₄ =>
        ∀ h', h'.Ns s₄.heap.objs.size (fun y => if y = ".0" then some (.ref it) else none) → Heap.SameBut s₄.heap.objs.size (s₄.heap.push { cls := .type "frame", data := .dict #[] }) h' →
          Q (.ref h'.objs.size) { s₄ with
            gens := s₄.gens.push (.fresh (.compStart (.GeneratorExp elt [⟨tg, iter, ifs, 0⟩] scope pos) 0 (.ref it) .none (genEnv scope (cloFrom X.env.cells scope.names []) s₄.heap.objs.size code bi X.env))),
            toks := s₄.toks + 1 + 1 + 1,
            heap := h'.push { cls := .type "generator", data := .fields #[.int s₄.gens.size 0, .str "<genexpr>" (s₄.toks + 1), .str (X.env.qual ++ "<genexpr>") (s₄.toks + 1 + 1)] } }) X.xe s3 := by
    intro code H3 s3 I3 x3 t3 k3 n3
    obtain ⟨bm, ob, e1, e2, e3, e4, e5, e6, e7, e8⟩ := TB.bm
    refine wpAny_builtinsFor (m := X.mg) (by rw [I3.ok.glob]; exact I3.mod.glob.keeps I3.bk) e1 e2 (I3.bk _ _ e5) e6 e7 e8 ?_
    intro h' hn hsb
    obtain ⟨N, W, hN', ⟨m0, w0⟩, turn⟩ := q H3 x3 t3
    exact hQ N _ _ hN' (gen_ready (code := code) (m0 := m0) hc hN I3 ok gx Tn (Tn.keep _ _ _ st2 fun b hb o e => k3 b (nP b hb) o e) (fun b hb => ⟨n3 b hb, (f2 b hb).2⟩) hg ht he w0 turn hn hsb)
  cases hf : codeAmong pos ps.toList with
  | none =>
    refine wpAny_genexprCodeX hcode (cd.code hP' htr) (cd.tab hP') hf fun c' h' tk hx hge hlt hco' hrec htab' _ => ?_
    obtain ⟨c2, oc, vs, t, e2, hoc, hd, hv⟩ := hrec
    cases e2
    have nC : H2 c' = none := I2.hok.fresh hge
    have I3 := LamX.inv_table (t' := tk) (more := #[rawInt pos.line, rawInt pos.col, .ref c']) (h' := h') I2 hP hx htab'.2 hge ⟨oc, vs, t, hoc, hd, hv⟩
    have hE : LamX.ExtN H2 (upd (upd H2 P (.tbl (ps ++ #[rawInt pos.line, rawInt pos.col, .ref c']))) c' (LamX.CodeO c' (X.env.qual ++ "<genexpr>"))) := fun b o e n => by
      rw [upd_ne (ne_of_none e nC), upd_ne (fun z => n ps (Option.some.inj (e.symm.trans (by rw [z]; exact hP))))]
      exact e
    have eL : (ps ++ #[rawInt pos.line, rawInt pos.col, .ref c']).toList = ps.toList ++ [rawInt pos.line, rawInt pos.col, .ref c'] := by simp
    refine cont _ _ _ I3 hE (fun p hp => ?_) (fun b hb o e => hx b o hb e) fun b hb => ?_
    · by_cases hb : p.1 = P
      · rw [hu p hp hb, hb]
        refine ⟨_, by rw [upd_ne (ne_of_none hP nC), upd_same], by rw [eL]; exact PySem.TriplesOk_snoc _ _ _ _ htr, fun p' cv hcv => ?_⟩
        rw [eL] at hcv
        rcases LamX.among_app _ htr hcv with z | z
        · obtain ⟨c0, e1, e2⟩ := ha p' cv z
          exact ⟨c0, e1, hE _ _ e2 LamX.codeO_ne⟩
        · exact ⟨c', z, upd_same⟩
      · obtain ⟨ps', a1, a2, a3⟩ := hT p hp
        refine ⟨ps', by rw [upd_ne (ne_of_none a1 nC), upd_ne hb]; exact a1, a2, fun p' cv hcv => ?_⟩
        obtain ⟨c0, e1, e2⟩ := a3 p' cv hcv
        exact ⟨c0, e1, hE _ _ e2 LamX.codeO_ne⟩
    · have n1 : b ≠ c' := Nat.ne_of_lt (Nat.lt_of_lt_of_le (sz b hb) hge)
      rw [upd_ne n1, upd_ne (nP b hb)]
      exact (f2 b hb).1
  | some cv =>
    refine wpAny_genexprCode_hit hcode (cd.code hP' htr) hf ?_
    exact cont cv H2 s2 I2 (LamX.ExtN.refl H2) hT (fun b _ o e => e) fun b hb => (f2 b hb).1
end
end GenX

set_option Elab.async false
set_option linter.all false
set_option maxRecDepth 100000
set_option maxHeartbeats 1000000
namespace GenX
open PySem PySem.Spec PyProof.Rows L2 GenW
/-! ### the consumers -/
def RX (X : Cx) (pins : List (Addr × Obj)) (σ : L2.St) (a g : Nat) (cs : List Addr) (L : List V → Heap → Prop) (N : Nat) (Qe : List V → Hp → Prop) : GenEnd := fun n s₀ r s₁ =>
  ((r = .ok (.ret .none) ∨ r = .ok .next) ∧ ∃ ys H', n + ys.length = N ∧ GUp X pins σ a g cs H' s₀ s₁ ∧ L ys s₀.heap ∧ Qe ys H') ∨ ∃ e, r = .error e ∧ False
/-- a generator that may be asked for its next item -/
structure GRun (X : Cx) (pins : List (Addr × Obj)) (σ : L2.St) (a g : Nat) (cs : List Addr) (L : List V → Heap → Prop) (Go : V → Prop) (N : Nat) (Yd : List V → V → Hp → Prop) (Qe : List V → Hp → Prop) (A : Around) (n : Nat) (s : Shared) : Prop where
  isGen : s.heap.IsGen a g
  lim : s.heap.NoLimit
  own : ∀ b ∈ cs, ∃ o, s.heap.get? b = some o ∧ ∀ v, o.data ≠ .cell v
  goes : ∃ gs, s.gens[g]? = some gs ∧ gs.Goes (model X.prog X.w) A (RX X pins σ a g cs L N Qe) (YX X pins σ a g cs L Go N Yd) n (.send .none) (s.setGen g .running)
section
variable {X : Cx} {pins : List (Addr × Obj)} {σ : L2.St} {a g : Nat} {cs : List Addr} {L : List V → Heap → Prop} {Go : V → Prop} {N k : Nat} {Yd : List V → V → Hp → Prop} {Qe : List V → Hp → Prop}
theorem GReady.run {u : Value} {s' : Shared} (h : GReady X pins σ k Go N Yd Qe u s') : ∃ (a g : Nat) (H' : Hp), u = .ref a ∧ a < s'.heap.objs.size ∧ s'.heap.IsGen a g ∧ Inv X pins σ H' s' ∧
    ∀ (A : Around) (cs : List Addr) (L : List V → Heap → Prop) (s2 : Shared), Room k A → A.frames = some X.stack → (∀ b ∈ cs, s'.heap.objs.size ≤ b ∧ ∃ o, s2.heap.get? b = some o ∧ ∀ v, o.data ≠ .cell v) →
      (∀ b o, s'.heap.get? b = some o → s2.heap.get? b = some o) → s2.os = s'.os → s2.gens = s'.gens → L [] s2.heap → GRun X pins σ a g cs L Go N Yd Qe A N s2 := by
  obtain ⟨a, g, c, H', rfl, h1, h2, h3, I, wake⟩ := h
  refine ⟨a, g, H', rfl, h1, h2, I, fun A cs L s2 hr hf hcs kp os gs hL => ?_⟩
  refine ⟨h2.keeps kp, I.nolimit.keeps kp, fun b hb => (hcs b hb).2, .fresh c, by rw [gs]; exact h3, rfl, ?_⟩
  refine seg_imp (fun n s₀ r s1 ⟨hr, q⟩ => .inl ⟨.inr hr, q⟩) (fun n s₀ v s1 kap kap' hkk ⟨ys, x, H', hn', rv, gi, hL, yd, z⟩ => ⟨ys, x, H', hn', rv, gi, hL, yd, fun s' sl hl2 hgo => hkk _ _ (z s' sl hl2 hgo)⟩) N
    (wake A cs L (s2.setGen g .running) hr hf hcs kp os (allBare_setGen (by rw [gs]; exact I.bare) rfl) hL)
theorem run_next {A : Around} {n : Nat} {s : Shared} {E : Value → Shared → Prop} {Q : Option Value → Shared → Prop} (hh : A.handled = none) (hd : A.depth < recursionLimit) (ha : a ∉ cs) (hcS : cStatics ∉ cs) (R : GRun X pins σ a g cs L Go N Yd Qe A.in1 n s)
    (hY : ∀ v s1 ys x H', n - 1 + 1 + ys.length = N → RelV x v → Inv X pins σ H' s1 → (∀ b ∈ cs, s1.heap.get? b = s.heap.get? b ∧ H' b = none) → L ys s.heap → Yd ys x H' → (∀ s2, Slept cs s1 s2 → s2.gens = s1.gens → L (ys ++ [x]) s2.heap → Go x → ∃ n', n = n' + 1 ∧ GRun X pins σ a g cs L Go N Yd Qe A.in1 n' s2) → Q (some v) s1)
    (hN : ∀ s1 ys H', n + ys.length = N → Inv X pins σ H' s1 → (∀ b ∈ cs, s1.heap.get? b = s.heap.get? b ∧ H' b = none) → L ys s.heap → Qe ys H' → Q none s1) :
    wpAny (model X.prog X.w) A (pyNext (.ref a)) Q E s := by
  obtain ⟨hg, hl, hown, gs, hgs, hgo⟩ := R
  have hgl : g < s.gens.size := (Array.getElem?_eq_some_iff.mp hgs).1
  have goes : gs.Goes (model X.prog X.w) A.in1 (fun n s₀ r s₁ => ((r = .ok (.ret .none) ∨ r = .ok .next) ∧ ∃ ys H', n + ys.length = N ∧ GUp X pins σ a g cs H' s₀ s₁ ∧ L ys s₀.heap ∧ Qe ys H') ∨ ∃ e, r = .error e ∧ (fun (_ : Value) (_ : Shared) => False) e s₁) (YX X pins σ a g cs L Go N Yd) n (.send .none) (s.setGen g .running) := hgo
  have regen : ∀ {H' : Hp} {s1 : Shared} {x : GenState}, Inv X pins σ H' s1 → x.bare = true → Inv X pins σ H' (s1.setGen g x) := fun {H' s1 x} I hb => I.call' (s' := s1.setGen g x) (ch := []) rfl (Un.kept fun _ _ e => e) I.hok (allBare_setGen I.bare hb) fun b z => by simp at z
  refine wpAny_gsz (n := g + 1) hgl (next_genG hh hl hd hg hgs goes (fun v s₁ gs' hbare hv => ?_) (fun s₁ hp h' hk => ?_) fun e s₁ he => False.elim he)
  · intro hsz
    obtain ⟨ys, x, H', hn, rv, ⟨I, hg1, hcs⟩, hL, yd, kap⟩ := hv
    have own1 : ∀ b ∈ cs, ∃ o, s₁.heap.get? b = some o ∧ ∀ v, o.data ≠ .cell v := fun b hb => by
      obtain ⟨o, e1, e2⟩ := hown b hb
      exact ⟨o, (hcs b hb).1.trans e1, e2⟩
    refine hY v _ ys x H' hn rv (regen I hbare) hcs hL yd fun s2 sl eg hl2 hgo => ?_
    have kap2 := kap (s2.setGen g .running) ⟨sl.os, allBare_setGen sl.bare rfl, sl.keep, sl.own⟩ hl2 hgo
    cases n with
    | zero => exact kap2.elim
    | succ m =>
      have hsz1 : g < s₁.gens.size := by
        have q : (s₁.setGen g gs').gens.size = s₁.gens.size := setGen_size _ _ _
        have hsz' : g + 1 ≤ (s₁.setGen g gs').gens.size := hsz
        omega
      refine ⟨m, rfl, ?_, ?_, sl.own, gs', ?_, kap2⟩
      · obtain ⟨o, nm, qn, ho, r⟩ := hg1
        exact ⟨o, nm, qn, sl.keep a o ha ho, r⟩
      · obtain ⟨mc, hns, hnn⟩ := I.nolimit
        exact ⟨mc, hns.at' fun o e => sl.keep _ o hcS e, hnn⟩
      · rw [eg]
        exact setGen_at hsz1
  · intro hsz
    obtain ⟨ys, H', hn, ⟨I, hg1, hcs⟩, hL, q⟩ := hp
    have I2 := regen (x := .finished) I rfl
    refine hN _ ys H' hn (I2.call' (ch := []) rfl (Un.kept hk) (I2.hok.kept hk) I2.bare fun b z => by simp at z) (fun b hb => ⟨?_, (hcs b hb).2⟩) hL q
    obtain ⟨o, e1, e2⟩ := hown b hb
    have e3 : s₁.heap.get? b = some o := (hcs b hb).1.trans e1
    exact (hk b o e3).trans e1.symm
/-- any, all: asked item by item -/
def AnyY (stop : Bool) (Qv : Bool → Hp → Prop) : List V → V → Hp → Prop := fun _ x H' => ∃ b, x = .bl b ∧ (b = stop → Qv stop H')
theorem code_anyG {A : Around} {R : Result → Shared → Prop} {Qv : Bool → Hp → Prop} (hh : A.handled = none) (hd : A.depth < recursionLimit)
    (hR : ∀ b s' H', Inv X pins σ H' s' → Qv b H' → R (.ok (.ret (.bool b))) s') : ∀ (n : Nat) (s : Shared), GRun X pins σ a g [] (fun _ _ => True) (fun x => x = .bl false) N (AnyY true Qv) (fun _ => Qv false) A.in1.in1 n s →
    codeAny (model X.prog X.w) A (.builtin "any.loop" ⟨[.ref a], []⟩) R s := by
  intro n
  induction n with
  | zero =>
    intro s G
    refine codeAny_builtin F.entry_any_loop ?_
    rw [Around.under_plainId F.plain_any_loop _]
    show wpAny _ A.in1 (pyNext (.ref a) >>= _) _ _ s
    refine wpAny_bind (run_next (A := A.in1) hh hd (by simp) (by simp) G (fun v s1 ys x H' hn rv I hcs _ yd next => ?_) fun s1 ys H' hn I hcs _ q => ?_)
    · obtain ⟨b, rfl, hb⟩ := yd
      have ev : v = .bool b := rv
      subst ev
      refine wpAny_bind (wpAny_holding (wpAny_truthy_bool ?_))
      refine wpAny_bind (wpAny_letGo ?_)
      cases b with
      | false =>
        simp only [Bool.false_eq_true, if_false]
        obtain ⟨n', e, G'⟩ := next _ ⟨rfl, I.bare, fun _ _ _ e => e, fun b hb => by simp at hb⟩ rfl trivial rfl
        exact absurd e (by omega)
      | true =>
        simp only [if_true]
        exact wpAny_bind (wpAny_rule (wpAny_pure (hR true s1 H' I (hb rfl))))
    · exact wpAny_bind (wpAny_rule (wpAny_pure (hR false s1 H' I q)))
  | succ m ih =>
    intro s G
    refine codeAny_builtin F.entry_any_loop ?_
    rw [Around.under_plainId F.plain_any_loop _]
    show wpAny _ A.in1 (pyNext (.ref a) >>= _) _ _ s
    refine wpAny_bind (run_next (A := A.in1) hh hd (by simp) (by simp) G (fun v s1 ys x H' hn rv I hcs _ yd next => ?_) fun s1 ys H' hn I hcs _ q => ?_)
    · obtain ⟨b, rfl, hb⟩ := yd
      have ev : v = .bool b := rv
      subst ev
      refine wpAny_bind (wpAny_holding (wpAny_truthy_bool ?_))
      refine wpAny_bind (wpAny_letGo ?_)
      cases b with
      | false =>
        simp only [Bool.false_eq_true, if_false]
        obtain ⟨n', e, G'⟩ := next _ ⟨rfl, I.bare, fun _ _ _ e => e, fun b hb => by simp at hb⟩ rfl trivial rfl
        cases e
        exact wpAny_pure ⟨plainId_quiet F.plain_any_loop _, ih _ G'⟩
      | true =>
        simp only [if_true]
        exact wpAny_bind (wpAny_rule (wpAny_pure (hR true s1 H' I (hb rfl))))
    · exact wpAny_bind (wpAny_rule (wpAny_pure (hR false s1 H' I q)))
theorem code_allG {A : Around} {R : Result → Shared → Prop} {Qv : Bool → Hp → Prop} (hh : A.handled = none) (hd : A.depth < recursionLimit)
    (hR : ∀ b s' H', Inv X pins σ H' s' → Qv b H' → R (.ok (.ret (.bool b))) s') : ∀ (n : Nat) (s : Shared), GRun X pins σ a g [] (fun _ _ => True) (fun x => x = .bl true) N (AnyY false Qv) (fun _ => Qv true) A.in1.in1 n s →
    codeAny (model X.prog X.w) A (.builtin "all.loop" ⟨[.ref a], []⟩) R s := by
  intro n
  induction n with
  | zero =>
    intro s G
    refine codeAny_builtin F.entry_all_loop ?_
    rw [Around.under_plainId F.plain_all_loop _]
    show wpAny _ A.in1 (pyNext (.ref a) >>= _) _ _ s
    refine wpAny_bind (run_next (A := A.in1) hh hd (by simp) (by simp) G (fun v s1 ys x H' hn rv I hcs _ yd next => ?_) fun s1 ys H' hn I hcs _ q => ?_)
    · obtain ⟨b, rfl, hb⟩ := yd
      have ev : v = .bool b := rv
      subst ev
      refine wpAny_bind (wpAny_holding (wpAny_truthy_bool ?_))
      refine wpAny_bind (wpAny_letGo ?_)
      cases b with
      | true =>
        simp only [if_true]
        obtain ⟨n', e, G'⟩ := next _ ⟨rfl, I.bare, fun _ _ _ e => e, fun b hb => by simp at hb⟩ rfl trivial rfl
        exact absurd e (by omega)
      | false =>
        simp only [Bool.false_eq_true, if_false]
        exact wpAny_bind (wpAny_rule (wpAny_pure (hR false s1 H' I (hb rfl))))
    · exact wpAny_bind (wpAny_rule (wpAny_pure (hR true s1 H' I q)))
  | succ m ih =>
    intro s G
    refine codeAny_builtin F.entry_all_loop ?_
    rw [Around.under_plainId F.plain_all_loop _]
    show wpAny _ A.in1 (pyNext (.ref a) >>= _) _ _ s
    refine wpAny_bind (run_next (A := A.in1) hh hd (by simp) (by simp) G (fun v s1 ys x H' hn rv I hcs _ yd next => ?_) fun s1 ys H' hn I hcs _ q => ?_)
    · obtain ⟨b, rfl, hb⟩ := yd
      have ev : v = .bool b := rv
      subst ev
      refine wpAny_bind (wpAny_holding (wpAny_truthy_bool ?_))
      refine wpAny_bind (wpAny_letGo ?_)
      cases b with
      | true =>
        simp only [if_true]
        obtain ⟨n', e, G'⟩ := next _ ⟨rfl, I.bare, fun _ _ _ e => e, fun b hb => by simp at hb⟩ rfl trivial rfl
        cases e
        exact wpAny_pure ⟨plainId_quiet F.plain_all_loop _, ih _ G'⟩
      | false =>
        simp only [Bool.false_eq_true, if_false]
        exact wpAny_bind (wpAny_rule (wpAny_pure (hR false s1 H' I (hb rfl))))
    · exact wpAny_bind (wpAny_rule (wpAny_pure (hR true s1 H' I q)))
end
end GenX

set_option Elab.async false
set_option linter.all false
set_option maxRecDepth 100000
set_option maxHeartbeats 1000000
namespace GenX
open PySem PySem.Spec PyProof.Rows L2 GenW
/-! ### all items collected -/
def LS (S : Addr) : List V → Heap → Prop := fun ys h => ∃ (acc : Array Value) (c : Nat), h.get? S = some (lstObj acc c) ∧ Vals ys acc.toList
section
variable {X : Cx} {pins : List (Addr × Obj)} {σ : L2.St} {a g S : Nat} {Go : V → Prop} {N k : Nat} {Yd : List V → V → Hp → Prop} {Qe : List V → Hp → Prop}
theorem code_extendG {A : Around} {R : Result → Shared → Prop} {res : Value} (hh : A.handled = none) (hd : A.depth < recursionLimit) (haS : a ≠ S) (hcS : cStatics ≠ S) (hN : N ≤ sizeLine) (hgo : ∀ x, Go x)
    (hR : ∀ s' H' ys acc c, Inv X pins σ H' s' → s'.heap.get? S = some (lstObj acc c) → H' S = none → Vals ys acc.toList → ys.length ≤ N → Qe ys H' → R (.ok (.ret res)) s') : ∀ (n : Nat) (s : Shared), GRun X pins σ a g [S] (LS S) Go N Yd Qe A.in1.in1 n s →
    (∃ acc c, s.heap.get? S = some (lstObj acc c) ∧ acc.size + n = N) → codeAny (model X.prog X.w) A (.builtin "list.extend.loop" ⟨[.ref S, .ref a, res], []⟩) R s := by
  have szOf : ∀ {ys : List V} {acc : Array Value}, Vals ys acc.toList → acc.size = ys.length := fun {ys acc} r => by
    have e1 := r.length
    have e2 : acc.toList.length = acc.size := by simp
    omega
  intro n
  induction n with
  | zero =>
    intro s G ⟨acc, c, hS, hz⟩
    refine codeAny_builtin F.entry_extend_loop ?_
    rw [Around.under_plainId F.plain_extend_loop _]
    show wpAny _ A.in1 (pyNext (.ref a) >>= _) _ _ s
    refine wpAny_bind (run_next (A := A.in1) hh hd (by simpa using haS) (by simpa using hcS) G (fun v s1 ys x H' hn rv I hcs ⟨acc', c', h1, h2⟩ yd next => ?_) fun s1 ys H' hn I hcs ⟨acc', c', h1, h2⟩ q => ?_)
    · rw [hS] at h1
      cases h1
      have := szOf h2
      omega
    · rw [hS] at h1
      cases h1
      obtain ⟨k1, k2⟩ := hcs S (by simp)
      exact wpAny_pure (hR s1 H' ys acc c I (k1.trans hS) k2 h2 (by omega) q)
  | succ m ih =>
    intro s G ⟨acc, c, hS, hz⟩
    refine codeAny_builtin F.entry_extend_loop ?_
    rw [Around.under_plainId F.plain_extend_loop _]
    show wpAny _ A.in1 (pyNext (.ref a) >>= _) _ _ s
    refine wpAny_bind (run_next (A := A.in1) hh hd (by simpa using haS) (by simpa using hcS) G (fun v s1 ys x H' hn rv I hcs ⟨acc', c', h1, h2⟩ yd next => ?_) fun s1 ys H' hn I hcs ⟨acc', c', h1, h2⟩ q => ?_)
    · rw [hS] at h1
      cases h1
      obtain ⟨k1, k2⟩ := hcs S (by simp)
      have hS1 : s1.heap.get? S = some (lstObj acc c) := k1.trans hS
      have hlt : acc.size < sizeLine := by omega
      show wpAny _ A.in1 (updateSeq S (·.push v) >>= _) _ _ _
      refine wpAny_bind ?_
      have hS2 : (s1.heap.update S (Obj.mapSeq (·.push v))).get? S = some (lstObj (acc.push v) (if acc.size + 1 ≤ c then c else (acc.size + 1) + (acc.size + 1) / 8 + 6)) ∨ True := .inr trivial
      obtain ⟨c2, hS3⟩ : ∃ c2, (s1.heap.update S (Obj.mapSeq (·.push v))).get? S = some (lstObj (acc.push v) c2) := ⟨_, Heap.get?_update_self _ hS1 rfl⟩
      have own2 : ∀ b ∈ [S], ∃ o, (s1.heap.update S (Obj.mapSeq (·.push v))).get? b = some o ∧ ∀ v, o.data ≠ .cell v := fun b hb => by
        have e : b = S := by simpa using hb
        rw [e]
        exact ⟨_, hS3, fun v q => by cases q⟩
      have hv2 : Vals (ys ++ [x]) (acc.push v).toList := by
        rw [Array.toList_push]
        exact h2.append (.cons rv .nil)
      obtain ⟨n', e, G'⟩ := next { s1 with heap := s1.heap.update S (Obj.mapSeq (·.push v)) } ⟨rfl, I.bare, fun b o hb e => (Heap.get?_update_other _ _ (fun z => hb (by simp [z]))).trans e, own2⟩ rfl ⟨acc.push v, c2, hS3, hv2⟩ (hgo x)
      cases e
      exact wpAny_updateSeq hS1 rfl (wpAny_pure ⟨plainId_quiet F.plain_extend_loop _, ih _ G' ⟨acc.push v, c2, hS3, by rw [Array.size_push]; omega⟩⟩) (Nat.le_of_lt hlt) (by show (acc.push v).size ≤ sizeLine + 1; rw [Array.size_push]; omega)
    · rw [hS] at h1
      cases h1
      obtain ⟨k1, k2⟩ := hcs S (by simp)
      exact wpAny_pure (hR s1 H' ys acc c I (k1.trans hS) k2 h2 (by omega) q)
theorem collectG {A : Around} {u : Value} {s : Shared} {E : Value → Shared → Prop} {Q : List Value → Shared → Prop} (hr : Room (k + 4) A) (hf : A.frames = some X.stack) (hN : N ≤ sizeLine) (hgo : ∀ x, Go x) (h : GReady X pins σ (k + 1) Go N Yd Qe u s)
    (hQ : ∀ ys vs s' H', Inv X pins σ H' s' → Vals ys vs → ys.length ≤ N → Qe ys H' → Q vs s') : wpAny (model X.prog X.w) A (collect u) Q E s := by
  obtain ⟨a, g, H0, rfl, hlt, hg, I0, run⟩ := h.run
  have hSa : s.heap.objs.size ≠ a := Nat.ne_of_gt hlt
  have hcl : cStatics < s.heap.objs.size := let ⟨_, hn, _⟩ := I0.nolimit; hn.lt
  unfold collect
  refine wpAny_bind (wpAny_runValue (codeAny_builtin F.entry_proto_collect ?_))
  rw [Around.under_plainId F.plain_proto_collect _]
  show wpAny _ A.in1 (newList [] >>= fun l => again (.builtin "list.__iadd__" ⟨[l, .ref a], []⟩)) _ _ s
  refine wpAny_bind (wpAny_newObj_type ?_)
  refine wpAny_pure ⟨plainId_quiet F.plain_list_iadd _, codeAny_builtin F.entry_list_iadd ?_⟩
  rw [Around.under_plainId F.plain_list_iadd _]
  have g1 : (s.heap.push { cls := .type "list", data := .seq ([] : List Value).toArray }).IsGen a g := hg.keeps fun b o e => Heap.get?_push_of_some _ e
  show wpAny _ A.in1 (Builtin.List.listExtendWith (.ref s.heap.objs.size) (.ref a) (.ref s.heap.objs.size)) _ _ _
  unfold Builtin.List.listExtendWith
  refine wpAny_bind (wpAny_typeOf (Heap.IsGen.typeIs (s := { s with heap := _ }) g1) ?_)
  have h1 : Builtin.List.listSameRef (.ref s.heap.objs.size) (.ref a) = false := by simp [Builtin.List.listSameRef, hSa]
  have h2 : (Value.type "generator" == Value.type "list") = false := by decide
  have h3 : (Value.type "generator" == Value.type "tuple") = false := by decide
  simp only [h1, h2, h3, Bool.or_false, Bool.false_eq_true, if_false]
  refine wpAny_bind (wpAny_pyIter_gen (s := { s with heap := _ }) g1 ?_)
  refine wpAny_bind (wpAny_holding ?_)
  unfold Builtin.List.listLengthHint
  refine wpAny_bind (wpAny_specialOf (Heap.IsGen.typeIs (s := { s with heap := _ }) g1) F.gen_no_len ?_)
  show wpAny _ A.in1 (specialOf (Value.ref a) (Str.ofString "__length_hint__") >>= _) _ _ _
  refine wpAny_bind (wpAny_specialOf (Heap.IsGen.typeIs (s := { s with heap := _ }) g1) F.gen_no_hint ?_)
  refine wpAny_pure ?_
  show wpAny _ A.in1 (rule "list.extend.makes-room" >>= fun _ => Builtin.List.listTouch (.ref s.heap.objs.size) >>= fun _ =>
    again (.builtin "list.extend.loop" ⟨[.ref s.heap.objs.size, .ref a, .ref s.heap.objs.size], []⟩)) _ _ _
  refine wpAny_bind (wpAny_rule ?_)
  have hS₁ : (s.heap.push { cls := .type "list", data := .seq ([] : List Value).toArray }).get? s.heap.objs.size = some { cls := .type "list", data := .seq ([] : List Value).toArray } := Heap.get?_push_size _ rfl
  refine wpAny_bind ?_
  show wpAny _ A.in1 (updateSeq s.heap.objs.size (·.push .none) >>= fun _ => updateSeq s.heap.objs.size (·.pop)) _ _ _
  refine wpAny_bind (wpAny_updateSeq hS₁ rfl ?_)
  have hS₂ := Heap.get?_update_self (Obj.mapSeq (·.push Value.none)) hS₁ rfl
  refine wpAny_updateSeq hS₂ rfl ?_
  have hS₃ := Heap.get?_update_self (Obj.mapSeq (·.pop)) hS₂ rfl
  have oth : ∀ b o, s.heap.get? b = some o →
      (((s.heap.push { cls := .type "list", data := .seq ([] : List Value).toArray }).update s.heap.objs.size (Obj.mapSeq (·.push Value.none))).update s.heap.objs.size (Obj.mapSeq (·.pop))).get? b = some o :=
    fun b o e => have hb : b ≠ s.heap.objs.size := Nat.ne_of_lt (Heap.lt_size e)
      (Heap.get?_update_other _ _ (Ne.symm hb)).trans ((Heap.get?_update_other _ _ (Ne.symm hb)).trans (Heap.get?_push_of_some _ e))
  refine wpAny_pure ⟨plainId_quiet F.plain_extend_loop _, code_extendG (X := X) (pins := pins) (σ := σ) (g := g) (Go := Go) (N := N) (Yd := Yd) (Qe := Qe) hr.hd (by have := hr.dp; omega) (Ne.symm hSa) (Nat.ne_of_lt hcl) hN hgo (fun s' H' ys acc c I hS hn hv hle q => ?_) N _
    (run A.in1.in1 [s.heap.objs.size] (LS s.heap.objs.size) _ ((hr.in1).in1.mono (by omega)) hf (fun b hb => ?_) oth rfl rfl ⟨_, _, hS₃, .nil⟩) ⟨_, _, hS₃, ?_⟩⟩
  · show wpAny _ A (load s.heap.objs.size >>= _) _ _ s'
    refine wpAny_bind (wpAny_load hS ?_)
    exact wpAny_pure (hQ ys acc.toList s' H' I hv hle q)
  · have e : b = s.heap.objs.size := by simpa using hb
    subst e
    exact ⟨Nat.le_refl _, _, hS₃, fun v q => by cases q⟩
  · exact Nat.zero_add _
end
end GenX

set_option Elab.async false
set_option linter.all false
set_option maxRecDepth 100000
set_option maxHeartbeats 1000000
namespace GenX
open PySem PySem.Spec PyProof.Rows L2 GenW
/-! ### any(..), all(..), tuple(..) of a generator expression -/
section
variable {X : Cx} {pins : List (Addr × Obj)} {σ : L2.St} {N k : Nat}
theorem call_anyG {A : Around} {u : Value} {s : Shared} {E : Value → Shared → Prop} {Q : Value → Shared → Prop} {Qv : Bool → Hp → Prop} (hr : Room (k + 4) A) (hf : A.frames = some X.stack) (h : GReady X pins σ (k + 1) (fun x => x = .bl false) N (AnyY true Qv) (fun _ => Qv false) u s)
    (hQ : ∀ b s' H', Inv X pins σ H' s' → Qv b H' → Q (.bool b) s') : wpAny (model X.prog X.w) A (call (.builtin "any") [u]) Q E s := by
  obtain ⟨a, g, H0, rfl, hlt, hg, I0, run⟩ := h.run
  refine call_function_tree F.kind_any F.plain_any F.entry_any (F.args_any1 _) ?_
  unfold Builtin.«any»
  refine wpAny_bind (m := oneArg "any" _) (wpAny_pure ?_)
  refine wpAny_bind (wpAny_pyIter_gen hg ?_)
  exact wpAny_pure ⟨plainId_quiet F.plain_any_loop _, code_anyG (X := X) (pins := pins) (σ := σ) (g := g) (N := N) (Qv := Qv) hr.hd (by have := hr.dp; omega) (fun b s' H' I q => hQ b s' H' I q) N _
    (run A.in1.in1 [] (fun _ _ => True) _ ((hr.in1).in1.mono (by omega)) hf (fun b hb => by simp at hb) (fun _ _ e => e) rfl rfl trivial)⟩
theorem call_allG {A : Around} {u : Value} {s : Shared} {E : Value → Shared → Prop} {Q : Value → Shared → Prop} {Qv : Bool → Hp → Prop} (hr : Room (k + 4) A) (hf : A.frames = some X.stack) (h : GReady X pins σ (k + 1) (fun x => x = .bl true) N (AnyY false Qv) (fun _ => Qv true) u s)
    (hQ : ∀ b s' H', Inv X pins σ H' s' → Qv b H' → Q (.bool b) s') : wpAny (model X.prog X.w) A (call (.builtin "all") [u]) Q E s := by
  obtain ⟨a, g, H0, rfl, hlt, hg, I0, run⟩ := h.run
  refine call_function_tree F.kind_all F.plain_all F.entry_all (F.args_all1 _) ?_
  unfold Builtin.«all»
  refine wpAny_bind (m := oneArg "all" _) (wpAny_pure ?_)
  refine wpAny_bind (wpAny_pyIter_gen hg ?_)
  exact wpAny_pure ⟨plainId_quiet F.plain_all_loop _, code_allG (X := X) (pins := pins) (σ := σ) (g := g) (N := N) (Qv := Qv) hr.hd (by have := hr.dp; omega) (fun b s' H' I q => hQ b s' H' I q) N _
    (run A.in1.in1 [] (fun _ _ => True) _ ((hr.in1).in1.mono (by omega)) hf (fun b hb => by simp at hb) (fun _ _ e => e) rfl rfl trivial)⟩
end
end GenX

set_option Elab.async false
set_option linter.all false
set_option maxRecDepth 100000
set_option maxHeartbeats 1000000
namespace GenX
open PySem PySem.Spec PyProof.Rows L2 GenW
section
variable {X : Cx} {pins : List (Addr × Obj)} {σ : L2.St} {Go : V → Prop} {N k : Nat} {Yd : List V → V → Hp → Prop} {Qe : List V → Hp → Prop}
theorem code_tuple_newG {A : Around} {u : Value} {s : Shared} {E : Value → Shared → Prop} {Q₁ : Value → Shared → Prop} (hr : Room (k + 5) A) (hf : A.frames = some X.stack) (hN : N ≤ sizeLine) (hgo : ∀ x, Go x) (h : GReady X pins σ (k + 1) Go N Yd Qe u s)
    (hQ : ∀ ys vs s' H', Inv X pins σ H' s' → Vals ys vs → ys.length ≤ N → Qe ys H' → Q₁ (.ref s'.heap.objs.size) { s' with heap := s'.heap.push { cls := .type "tuple", data := .seq vs.toArray } }) :
    codeAny (model X.prog X.w) A (.call (.builtin "tuple.__new__") ⟨[.type "tuple", u], []⟩) (wants Q₁ E) s := by
  obtain ⟨a, g, H0, eu, hlt, hg, I0, run⟩ := _root_.id h.run
  subst eu
  refine codeAny_of_tree ?_
  show wpAny _ A.in1 (do checkBuiltinCall "tuple.__new__" ⟨[.type "tuple", .ref a], []⟩; again (.builtin "tuple.__new__" ⟨[.type "tuple", .ref a], []⟩)) _ _ s
  refine wpAny_bind (wpAny_of_eq (F.newCall_tuple_1 _) (wpAny_pure ⟨plainId_quiet F.plain_tuple_new _, codeAny_builtin F.entry_tuple_new ?_⟩))
  rw [Around.under_plainId F.plain_tuple_new _]
  have hsub := sub_tuple_self
  have hinit := init_tuple_lookup
  have hmh := madeHere_tuple
  have hTI := hg.typeIs
  have col : ∀ {E' : Value → Shared → Prop} {Q' : List Value → Shared → Prop}, (∀ ys vs s' H', Inv X pins σ H' s' → Vals ys vs → ys.length ≤ N → Qe ys H' → Q' vs s') → wpAny (model X.prog X.w) A.in1 (collect (.ref a)) Q' E' s := fun {E' Q'} hq =>
    collectG (k := k) (hr.in1) hf hN hgo h hq
  wp_walk using wpAny_typeOf hTI, col
  intro ys vs s' H' I hv hle q
  show wpAny _ _ (Builtin.Tuple.tupleExact vs.toArray >>= fun v => ret v) _ _ _
  unfold Builtin.Tuple.tupleExact
  have e1 := hv.length
  refine wpAny_bind (wpAny_newObj_type ?_ (by show vs.toArray.size ≤ sizeLine; rw [List.size_toArray]; omega))
  exact wpAny_pure (hQ ys vs s' H' I hv hle q)
theorem call_tupleG {A : Around} {u : Value} {s : Shared} {E : Value → Shared → Prop} {Q : Value → Shared → Prop} (hr : Room (k + 6) A) (hf : A.frames = some X.stack) (hN : N ≤ sizeLine) (hgo : ∀ x, Go x) (h : GReady X pins σ (k + 1) Go N Yd Qe u s)
    (hQ : ∀ l ys s' H', H' l = none → Inv X pins σ (upd H' l (.tup ys)) s' → Qe ys H' → Q (.ref l) s') :
    wpAny (model X.prog X.w) A (call (.type "tuple") [u]) Q E s := by
  obtain ⟨a, g, H0, eu, hlt, hg, I0, run⟩ := _root_.id h.run
  subst eu
  refine callType_codes (Q₁ := fun obj s₁ => s₁.TypeIs obj "tuple" ∧ Q obj s₁) F.called_tuple (F.typeCall_tuple_1 _) F.entry_object_init
    (code_tuple_newG (k := k) (hr.in1) hf hN hgo h fun ys vs s' H' I hv hle q => ⟨⟨_, Heap.get?_push_size _ rfl, rfl⟩, ?_⟩) fun obj s₁ h₁ => ?_
  · have e1 := hv.length
    exact hQ _ ys _ H' (I.hok.fresh (Nat.le_refl _)) (I.laid (t' := s'.toks) (fun b o e => Heap.get?_push_of_some _ e) (Nat.le_refl _) (show ObjOk X.prog X.w _ _ _ (.tup ys) from ⟨by omega, vs, hv, IsTup.new _ _⟩)) q
  · exact ⟨h₁.1, F.args_object_init_2 obj _, object_init_meets F.called_tuple.init.lookup F.called_tuple.made (by decide) X.prog X.w A.in1 _ s₁ ⟨h₁.1, rfl, h₁.2⟩⟩
end
end GenX

set_option Elab.async false
set_option linter.all false
set_option maxRecDepth 100000
set_option maxHeartbeats 1000000
namespace GenX
open PySem PySem.Spec PyProof.Rows L2 GenW
/-! ### as expressions -/
/-- an expression that makes such a generator; t: by what is wanted at each item and at the end -/
def GMk (X : Cx) (e : Expr) (k : Nat) (t : (V → Prop) → (List V → V → Hp → Prop) → (List V → Hp → Prop) → L2.St → Hp → Prop) : Prop :=
  ∀ (pins : List (Addr × Obj)) (s : Shared) (σ : L2.St) (H : Hp) (Go : V → Prop) (Yd : List V → V → Hp → Prop) (Qe : List V → Hp → Prop) (Q : Value → Shared → Prop), Inv X pins σ H s → t Go Yd Qe σ H → (∀ N u s', N ≤ sizeLine → GReady X pins σ (k + 1) Go N Yd Qe u s' → Q u s') → wpAny (model X.prog X.w) X.A (eval e X.env) Q X.xe s
section
variable {X : Cx} {e : Expr} {k : Nat} {t : (V → Prop) → (List V → V → Hp → Prop) → (List V → Hp → Prop) → L2.St → Hp → Prop} {p pos : Pos}
theorem GMk.imp {t' : (V → Prop) → (List V → V → Hp → Prop) → (List V → Hp → Prop) → L2.St → Hp → Prop} (h : GMk X e k t) (i : ∀ Go Yd Qe σ H, t' Go Yd Qe σ H → t Go Yd Qe σ H) : GMk X e k t' := fun pins s σ H Go Yd Qe Q I q f => h pins s σ H Go Yd Qe Q I (i _ _ _ _ _ q) f
theorem gmk_of {T : List (Addr × Str)} {c P : Addr} {elt tg iter : Expr} {ifs : List Expr} {scope : Scope} {own : List (Str × Nat)} {wi : TI} {g : TG} {tt : TT} {te : TE} {kx : Nat}
    (hrx : Room kx X.A) (hc : X.calm = true) (hN : X.N.Nodup) (hi : PI X tg iter wi) (ok : BlkOk X.N X.env.scope scope own) (gx : GScp scope)
    (TB : LamX.TabB X.base X.mg c P) (hcode : X.env.code = .ref c) (hm : (P, X.env.qual ++ "<genexpr>") ∈ T) (hu : ∀ p ∈ T, p.1 = P → p.2 = X.env.qual ++ "<genexpr>")
    (hb : ∀ (A : Around) (s : Shared) (H : Hp) (L : Addr) (code : Value) (fp : List Addr) (pn : List (Addr × Obj)), Room k (A.deeper (genEnv scope (cloFrom X.env.cells scope.names []) L code builtinsNs X.env)) →
      PG (gY X (A.deeper (genEnv scope (cloFrom X.env.cells scope.names []) L code builtinsNs X.env)) s H (genEnv scope (cloFrom X.env.cells scope.names []) L code builtinsNs X.env) fp pn) tg g ∧
      PTs (gY X (A.deeper (genEnv scope (cloFrom X.env.cells scope.names []) L code builtinsNs X.env)) s H (genEnv scope (cloFrom X.env.cells scope.names []) L code builtinsNs X.env) fp pn) ifs tt ∧
      PE (gY X (A.deeper (genEnv scope (cloFrom X.env.cells scope.names []) L code builtinsNs X.env)) s H (genEnv scope (cloFrom X.env.cells scope.names []) L code builtinsNs X.env) fp pn) elt te)
    (hs : ∀ x, genFold iter X.env x = pure x := by intro _; rfl) :
    GMk X (.GeneratorExp elt [⟨tg, iter, ifs, 0⟩] scope pos) k (fun Go Yd Qe => tGen T wi g tt te (own.map (·.2)) Go Yd Qe) := fun pins s σ H Go Yd Qe Q I h f =>
  gen_make hrx hc hN I hi ok gx TB hcode hm hu (fun A s H L code fp pn r => (hb A s H L code fp pn r).1) (fun A s H L code fp pn r => (hb A s H L code fp pn r).2.1) (fun A s H L code fp pn r => (hb A s H L code fp pn r).2.2) h f hs
theorem pe_anyG (m : GMk X e k t) (hr : Room (k + 6) X.A) (hg : Gl X "any" := by rfl) (hm : X.mg "any" = none := by rfl) (he : starEach [e] X.env = (false, eval e X.env) :: starEach [] X.env := by rfl) :
    PE X (.Call (.Name "any" p) [e] [] pos) (fun σ H Q => t (fun x => x = .bl false) (AnyY true fun b H' => Q (.bl b) H') (fun _ H' => Q (.bl false) H') σ H) := by
  refine ⟨fun pins s σ H Q I h => ?_⟩
  refine wpAny_Call_Name_kw (ld_blt I hg hm boot_any ?_)
  refine PyProof.Rows.callWith_builtin1 ?_ he (by rfl)
  rw [he]
  show wpAny _ _ (spliced ((false, eval e X.env) :: backTo pos (starEach [] X.env))) _ _ s
  refine Calls.spliced_cons (m pins s σ H _ _ _ _ I h fun N u s' hN hG => Calls.spliced_nil ?_)
  exact call_anyG (k := k) (Qv := fun b H' => Q (.bl b) H') (hr.mono (by omega)) I.ok.frames hG fun b s2 H' I' q => ⟨.bl b, H', I', rfl, q⟩
theorem pe_allG (m : GMk X e k t) (hr : Room (k + 6) X.A) (hg : Gl X "all" := by rfl) (hm : X.mg "all" = none := by rfl) (hb : bootBuiltins "all" = some (.builtin "all") := by rfl) (he : starEach [e] X.env = (false, eval e X.env) :: starEach [] X.env := by rfl) :
    PE X (.Call (.Name "all" p) [e] [] pos) (fun σ H Q => t (fun x => x = .bl true) (AnyY false fun b H' => Q (.bl b) H') (fun _ H' => Q (.bl true) H') σ H) := by
  refine ⟨fun pins s σ H Q I h => ?_⟩
  refine wpAny_Call_Name_kw (ld_blt I hg hm hb ?_)
  refine PyProof.Rows.callWith_builtin1 ?_ he (by rfl)
  rw [he]
  show wpAny _ _ (spliced ((false, eval e X.env) :: backTo pos (starEach [] X.env))) _ _ s
  refine Calls.spliced_cons (m pins s σ H _ _ _ _ I h fun N u s' hN hG => Calls.spliced_nil ?_)
  exact call_allG (k := k) (Qv := fun b H' => Q (.bl b) H') (hr.mono (by omega)) I.ok.frames hG fun b s2 H' I' q => ⟨.bl b, H', I', rfl, q⟩
theorem pe_tupleG (m : GMk X e k t) (hr : Room (k + 6) X.A) (hg : Gl X "tuple" := by rfl) (hm : X.mg "tuple" = none := by rfl) (hb : bootBuiltins "tuple" = some (.type "tuple") := by rfl) (he : starEach [e] X.env = (false, eval e X.env) :: starEach [] X.env := by rfl) :
    PE X (.Call (.Name "tuple" p) [e] [] pos) (fun σ H Q => t (fun _ => True) (fun _ _ _ => True) (fun ys H' => ∀ l, H' l = none → Q (.ref l) (upd H' l (.tup ys))) σ H) := by
  refine ⟨fun pins s σ H Q I h => ?_⟩
  refine wpAny_Call_Name_kw (ld_blt I hg hm hb ?_)
  refine PyProof.Rows.callWith_type1 ?_ he (by rfl)
  rw [he]
  show wpAny _ _ (spliced ((false, eval e X.env) :: backTo pos (starEach [] X.env))) _ _ s
  refine Calls.spliced_cons (m pins s σ H _ _ _ _ I h fun N u s' hN hG => Calls.spliced_nil ?_)
  exact call_tupleG (k := k) hr I.ok.frames hN (fun _ => trivial) hG fun l ys s2 H' hl I' q => ⟨.ref l, _, I', rfl, q l hl⟩
end
end GenX

set_option Elab.async false
set_option linter.all false
set_option maxRecDepth 100000
namespace Ev
open PySem L2
/-! ### tuple(..) of a generator expression, told by environments -/
def tupGx (vs : List Nat) (fi : Env → Rs (List R)) (t : R → Env → Option Env) (tc : Env → Rs Bool) (fe : Env → Rs R) : Env → Rs R := bnd fi fun rs e => match lcL vs t tc fe rs [] (wipE vs e) with
  | .ok acc e2 => .ok (.d (.tuple acc)) (reE vs e e2)
  | _ => .stk
section
variable {X : Cx} {C : Cf} {w : WX} {is : List Nat} {fi : Env → Rs (List R)} {t : R → Env → Option Env} {tc : Env → Rs Bool} {fe : Env → Rs R}
theorem pi_noneO {W : List Addr} {σ : L2.St} {H : Hp} {e : Env} {Q : It → Hp → Prop} {g : List R → Env → Rs R} {Q' : VK} (k : Ok C W e σ H) (h : pO C w σ W H Q' (bnd fi g e))
    (n : ∀ J rs W' e' H', Ext W H W' H' → Ok C W' e' σ H' → ItOk C J W' H' rs → pO C w σ W' H' Q' (g rs e') → Q J H') : iOf C w fi σ H Q := by
  refine ⟨W, e, k, ?_⟩
  unfold bnd at h
  cases q : fi e with
  | ok rs e' => rw [q] at h; exact fun J W' H' x k' it => n J rs W' e' H' x k' it (pO.ext h x)
  | err c e' => rw [q] at h; exact h
  | stk => rw [q] at h; exact h
theorem tup_t {vs : List Nat} (his : ∀ i ∈ is, i ∈ vs) : ∀ σ H Q, tOf C w (tupGx vs fi t tc fe) σ H Q →
    GenX.tGen C.T (iOf C w fi) (tgOf C is t) (ttOf C w0 tc) (tOf C w0 fe) vs (fun _ => True) (fun _ _ _ => True) (fun ys H' => ∀ l, H' l = none → Q (.ref l) (upd H' l (.tup ys))) σ H := fun σ H Q ⟨W, e, k, h⟩ => by
  refine pi_noneO (Q' := Q) k h fun J rs W1 e1 H1 x1 k1 it h1 => ⟨k1.tabs, fun H2 n t2 => ?_⟩
  obtain ⟨k2, x2⟩ := k1.extN n t2
  replace h1 := pO.ext h1 x2
  refine ⟨sizeLine, fun i m ys H' => m = rs.length - i ∧ i ≤ rs.length ∧ ∃ W' e2 aD, Ext W1 H2 W' H' ∧ Ok C W' e2 (wipe σ vs) H' ∧ FzAll C.K (msk W' H') ys aD ∧
    pO C w σ W' H' Q (match lcL vs t tc fe (rs.drop i) aD e2 with
      | .ok acc e3 => .ok (.d (.tuple acc)) (reE vs e1 e3)
      | _ => .stk), Nat.le_refl _, ⟨rs.length, rfl, Nat.zero_le _, W1, wipE vs e1, [], Ext.refl, k2.wip vs, .nil, h1⟩, ?_⟩
  rintro i m ys H3 ⟨rfl, hi, W3, e3, aD, x3, k3, f3, h3⟩
  by_cases hlt : i < rs.length
  · refine .inr ⟨it.go i W3 H3 (x2.trans x3) hlt, fun ys' H' => ∃ W' e2 aD', Ext W1 H2 W' H' ∧ Ok C W' e2 (wipe σ vs) H' ∧ FzAll C.K (msk W' H') ys' aD' ∧
      pO C w σ W' H' Q (match lcL vs t tc fe (rs.drop (i + 1)) aD' e2 with
        | .ok acc e3 => .ok (.d (.tuple acc)) (reE vs e1 e3)
        | _ => .stk), fun ys' H' z => ⟨rs.length - (i + 1), by omega, rfl, hlt, z⟩, fun x H4 y => ?_⟩
    obtain ⟨W4, x4, k4, hv⟩ := it.yld C rfl rfl i rs[i] W3 e3 _ H3 x H4 (x2.trans x3) k3 (List.getElem?_eq_getElem hlt) y
    rw [List.drop_eq_getElem_cons hlt] at h3
    simp only [lcL] at h3
    cases q4 : t rs[i] e3 with
    | none => rw [q4] at h3; exact h3.elim
    | some e4 =>
      rw [q4] at h3
      dsimp only at h3
      refine ⟨W4, e3, rs[i], e4, k4, hv, q4, fun σ5 W5 H5 x5 k5 b5 => ?_⟩
      have sw : wipe σ5 vs = wipe σ vs := by rw [wipe_but his b5, wipe_wipe]
      refine ⟨sw, W5, e4, k5, ?_⟩
      have x45 : Ext W3 H3 W5 H5 := x4.trans x5
      cases q5 : tc e4 with
      | stk => rw [q5] at h3; exact h3.elim
      | err c e' => rw [q5] at h3; exact h3.elim
      | ok b e5 =>
        rw [q5] at h3
        try dsimp only at h3
        intro W6 H6 x6 k6
        cases b with
        | false => exact iteF ⟨W6, wipE vs e5, aD, x3.trans (x45.trans x6), sw ▸ k6.wip vs, Fz.subAll (x45.trans x6) _ _ f3, pO.ext h3 (x45.trans x6)⟩
        | true =>
          try dsimp only at h3
          refine iteT ⟨W6, e5, k6, ?_⟩
          cases q6 : fe e5 with
          | stk => rw [q6] at h3; exact h3.elim
          | err c e' => rw [q6] at h3; exact h3.elim
          | ok r e6 =>
            rw [q6] at h3
            try dsimp only at h3
            cases r with
            | loc j => exact h3.elim
            | hnd j => exact h3.elim
            | clo j => exact h3.elim
            | clos j => exact h3.elim
            | scr j => exact h3.elim
            | d y =>
              intro v W7 H7 x7 k7 hv7
              have hv7 : Fz C.K (msk W7 H7) v y := hv7
              have xx : Ext W3 H3 W7 H7 := x45.trans (x6.trans x7)
              try dsimp only at h3
              by_cases hz : aD.length < sizeLine
              · rw [if_pos hz] at h3
                exact ⟨by rw [f3.length]; exact hz, trivial, fun _ => ⟨W7, wipE vs e6, aD ++ [y], x3.trans xx, sw ▸ k7.wip vs, (Fz.subAll xx _ _ f3).append (.cons hv7 .nil), pO.ext h3 xx⟩⟩
              · rw [if_neg hz] at h3
                exact h3.elim
  · have e0 : i = rs.length := by omega
    subst e0
    rw [List.drop_length] at h3
    exact .inl ⟨it.stop W3 H3 (x2.trans x3), fun l hl => new_tup (Ok.unwip k2 x3 k3) hl f3 h3⟩
end
end Ev

set_option Elab.async false
set_option linter.all false
set_option maxRecDepth 100000
namespace Ev
open PySem L2
/-! ### any(..), all(..) of a generator expression, told by environments; stop: true for any, false for all -/
def anL (stop : Bool) (vs : List Nat) (t : R → Env → Option Env) (tc : Env → Rs Bool) (fe : Env → Rs R) : List R → Env → Rs Bool
  | [], e => .ok (!stop) e
  | r :: rs, e => match t r e with
    | none => .stk
    | some e1 => match tc e1 with
      | .ok true e2 => match fe e2 with
        | .ok (.d (.bool b)) e3 => if b = stop then .ok stop (wipE vs e3) else anL stop vs t tc fe rs (wipE vs e3)
        | _ => .stk
      | .ok false e2 => anL stop vs t tc fe rs (wipE vs e2)
      | _ => .stk
def anyGx (stop : Bool) (vs : List Nat) (fi : Env → Rs (List R)) (t : R → Env → Option Env) (tc : Env → Rs Bool) (fe : Env → Rs R) : Env → Rs R := bnd fi fun rs e => if rs.length ≤ sizeLine then match anL stop vs t tc fe rs (wipE vs e) with
  | .ok b e2 => .ok (.d (.bool b)) (reE vs e e2)
  | _ => .stk
  else .stk
section
variable {X : Cx} {C : Cf} {w : WX} {is : List Nat} {fi : Env → Rs (List R)} {t : R → Env → Option Env} {tc : Env → Rs Bool} {fe : Env → Rs R} {stop : Bool}
theorem any_t {vs : List Nat} (his : ∀ i ∈ is, i ∈ vs) : ∀ σ H Q, tOf C w (anyGx stop vs fi t tc fe) σ H Q →
    GenX.tGen C.T (iOf C w fi) (tgOf C is t) (ttOf C w0 tc) (tOf C w0 fe) vs (fun x => x = .bl (!stop)) (GenX.AnyY stop fun b H' => Q (.bl b) H') (fun _ H' => Q (.bl (!stop)) H') σ H := fun σ H Q ⟨W, e, k, h⟩ => by
  refine pi_noneO (Q' := Q) k h fun J rs W1 e1 H1 x1 k1 it h1 => ⟨k1.tabs, fun H2 n t2 => ?_⟩
  obtain ⟨k2, x2⟩ := k1.extN n t2
  replace h1 := pO.ext h1 x2
  by_cases hz : rs.length ≤ sizeLine
  · rw [if_pos hz] at h1
    refine ⟨rs.length, fun i m ys H' => m = rs.length - i ∧ i ≤ rs.length ∧ ys.length ≤ i ∧ ∃ W' e2, Ext W1 H2 W' H' ∧ Ok C W' e2 (wipe σ vs) H' ∧
      pO C w σ W' H' Q (match anL stop vs t tc fe (rs.drop i) e2 with
        | .ok b e3 => .ok (.d (.bool b)) (reE vs e1 e3)
        | _ => .stk), hz, ⟨rs.length, rfl, Nat.zero_le _, Nat.le_refl _, W1, wipE vs e1, Ext.refl, k2.wip vs, h1⟩, ?_⟩
    rintro i m ys H3 ⟨rfl, hi, hys, W3, e3, x3, k3, h3⟩
    by_cases hlt : i < rs.length
    · refine .inr ⟨it.go i W3 H3 (x2.trans x3) hlt, fun ys' H' => ys'.length ≤ i + 1 ∧ ∃ W' e2, Ext W1 H2 W' H' ∧ Ok C W' e2 (wipe σ vs) H' ∧
        ((pO C w σ W' H' Q (match anL stop vs t tc fe (rs.drop (i + 1)) e2 with
          | .ok b e3 => .ok (.d (.bool b)) (reE vs e1 e3)
          | _ => .stk))), fun ys' H' z => ⟨rs.length - (i + 1), by omega, rfl, hlt, z⟩, fun x H4 y => ?_⟩
      obtain ⟨W4, x4, k4, hv⟩ := it.yld C rfl rfl i rs[i] W3 e3 _ H3 x H4 (x2.trans x3) k3 (List.getElem?_eq_getElem hlt) y
      rw [List.drop_eq_getElem_cons hlt] at h3
      simp only [anL] at h3
      cases q4 : t rs[i] e3 with
      | none => rw [q4] at h3; exact h3.elim
      | some e4 =>
        rw [q4] at h3
        dsimp only at h3
        refine ⟨W4, e3, rs[i], e4, k4, hv, q4, fun σ5 W5 H5 x5 k5 b5 => ?_⟩
        have sw : wipe σ5 vs = wipe σ vs := by rw [wipe_but his b5, wipe_wipe]
        refine ⟨sw, W5, e4, k5, ?_⟩
        have x45 : Ext W3 H3 W5 H5 := x4.trans x5
        cases q5 : tc e4 with
        | stk => rw [q5] at h3; exact h3.elim
        | err c e' => rw [q5] at h3; exact h3.elim
        | ok b e5 =>
          rw [q5] at h3
          try dsimp only at h3
          intro W6 H6 x6 k6
          cases b with
          | false => exact iteF ⟨by omega, W6, wipE vs e5, x3.trans (x45.trans x6), sw ▸ k6.wip vs, pO.ext h3 (x45.trans x6)⟩
          | true =>
            try dsimp only at h3
            refine iteT ⟨W6, e5, k6, ?_⟩
            cases q6 : fe e5 with
            | stk => rw [q6] at h3; exact h3.elim
            | err c e' => rw [q6] at h3; exact h3.elim
            | ok r e6 =>
              rw [q6] at h3
              try dsimp only at h3
              cases r with
              | loc j => exact h3.elim
              | hnd j => exact h3.elim
              | clo j => exact h3.elim
              | clos j => exact h3.elim
              | scr j => exact h3.elim
              | d y =>
                cases y with
                | bool b =>
                  intro v W7 H7 x7 k7 hv7
                  have hv7 : Fz C.K (msk W7 H7) v (.bool b) := hv7
                  have xx : Ext W3 H3 W7 H7 := x45.trans (x6.trans x7)
                  have kw : Ok C W7 (wipE vs e6) (wipe σ vs) H7 := sw ▸ k7.wip vs
                  have hvb : v = .bl b := by cases hv7; rfl
                  subst hvb
                  try dsimp only at h3
                  by_cases hb : b = stop
                  · rw [if_pos hb] at h3
                    refine ⟨by omega, ⟨b, rfl, fun _ => ?_⟩, fun z => ?_⟩
                    · have h4 := h3 (.bl stop) W7 H7 xx (Ok.unwip k2 (x3.trans xx) kw) (by constructor)
                      exact h4
                    · subst hb
                      exact absurd (V.bl.inj z) (by cases b <;> decide)
                  · rw [if_neg hb] at h3
                    exact ⟨by omega, ⟨b, rfl, fun z => absurd z hb⟩, fun _ => ⟨by rw [List.length_append, List.length_singleton]; omega, W7, wipE vs e6, x3.trans xx, kw, pO.ext h3 xx⟩⟩
                | _ => exact h3.elim
    · have e0 : i = rs.length := by omega
      subst e0
      rw [List.drop_length] at h3
      exact .inl ⟨it.stop W3 H3 (x2.trans x3), h3 (.bl (!stop)) W3 H3 Ext.refl (Ok.unwip k2 x3 k3) (by constructor)⟩
  · rw [if_neg hz] at h1
    exact h1.elim
end
end Ev

set_option Elab.async false
set_option linter.all false
set_option maxRecDepth 100000
namespace Ev
open PySem L2
/-- what a def that makes generator expressions asks -/
structure Lg (X : Cx) (C : Cf) : Prop where
  ex : ∃ c P, LamX.TabB X.base X.mg c P ∧ X.env.code = .ref c ∧ (P, X.env.qual ++ "<genexpr>") ∈ C.T ∧ ∀ p ∈ C.T, p.1 = P → p.2 = X.env.qual ++ "<genexpr>"
theorem Ct.gen {X : Cx} {C : Cf} {w : WX} {k : Nat} (ct : Ct X C w) {A : Around} {s : Shared} {H : Hp} {ce : PySem.Env} {fp : List Addr} {pn : List (Addr × Obj)} (hr : Room k A) : Ct (GenX.gY X A s H ce fp pn) C w0 :=
  { K := ct.K, un := by have := hr.un; show A.units + 64 < cLine; omega, un65 := by have := hr.un; show A.units + 65 < cLine; omega, calm := ct.calm, nd := ct.nd, tk := fun _ _ x => by
      obtain ⟨_, _, _, _, _, _, _, _, _, _, _, _, _, _, _, _, z⟩ := x
      exact z.elim }
abbrev gEnv (X : Cx) (scope : Scope) (L : Addr) (code : Value) : PySem.Env := genEnv scope (cloFrom X.env.cells scope.names []) L code builtinsNs X.env
def GBk (X : Cx) (C : Cf) (scope : Scope) (k : Nat) (tg : Expr) (ifs : List Expr) (elt : Expr) (is : List Nat) (t : R → Env → Option Env) (tc : Env → Rs Bool) (fe : Env → Rs R) : Prop :=
  ∀ (A : Around) (s : Shared) (H : Hp) (L : Addr) (code : Value) (fp : List Addr) (pn : List (Addr × Obj)), Room k (A.deeper (gEnv X scope L code)) → Ct (GenX.gY X (A.deeper (gEnv X scope L code)) s H (gEnv X scope L code) fp pn) C w0 →
    PG (GenX.gY X (A.deeper (gEnv X scope L code)) s H (gEnv X scope L code) fp pn) tg (tgOf C is t) ∧ PTs (GenX.gY X (A.deeper (gEnv X scope L code)) s H (gEnv X scope L code) fp pn) ifs (ttOf C w0 tc) ∧ PE (GenX.gY X (A.deeper (gEnv X scope L code)) s H (gEnv X scope L code) fp pn) elt (tOf C w0 fe)
section
variable {X : Cx} {C : Cf} {w : WX} {elt tg iter : Expr} {ifs : List Expr} {scope : Scope} {own : List (Str × Nat)} {p pos gpos : Pos} {is : List Nat} {fi : Env → Rs (List R)} {t : R → Env → Option Env} {tc : Env → Rs Bool} {fe : Env → Rs R} {k : Nat}
theorem ev_gmk (ct : Ct X C w) (lg : Lg X C) (hr : Room (k + 6) X.A) (ok : BlkOk X.N X.env.scope scope own) (gx : GenX.GScp scope) (hi : PI X tg iter (iOf C w fi)) (hb : GBk X C scope k tg ifs elt is t tc fe) (hs : ∀ x, genFold iter X.env x = pure x) :
    GenX.GMk X (.GeneratorExp elt [⟨tg, iter, ifs, 0⟩] scope gpos) k (fun Go Yd Qe => GenX.tGen C.T (iOf C w fi) (tgOf C is t) (ttOf C w0 tc) (tOf C w0 fe) (own.map (·.2)) Go Yd Qe) := by
  obtain ⟨c, P, TB, hcode, hm, hu⟩ := lg.ex
  exact GenX.gmk_of hr ct.calm ct.nd hi ok gx TB hcode hm hu (fun A s H L code fp pn r => hb A s H L code fp pn r (ct.gen r)) hs
theorem ev_tupG (ct : Ct X C w) (lg : Lg X C) (hr : Room (k + 6) X.A) (ok : BlkOk X.N X.env.scope scope own) (gx : GenX.GScp scope) (hi : PI X tg iter (iOf C w fi)) (hb : GBk X C scope k tg ifs elt is t tc fe) (his : ∀ i ∈ is, i ∈ own.map (·.2) := by decide) (hg : Gl X "tuple" := by rfl) (hm : X.mg "tuple" = none := by rfl)
    (hbt : bootBuiltins "tuple" = some (.type "tuple") := by rfl) (hs : ∀ x, genFold iter X.env x = pure x := by intro _; rfl) (he : starEach [.GeneratorExp elt [⟨tg, iter, ifs, 0⟩] scope gpos] X.env = (false, eval (.GeneratorExp elt [⟨tg, iter, ifs, 0⟩] scope gpos) X.env) :: starEach [] X.env := by rfl) :
    PE X (.Call (.Name "tuple" p) [.GeneratorExp elt [⟨tg, iter, ifs, 0⟩] scope gpos] [] pos) (tOf C w (tupGx (own.map (·.2)) fi t tc fe)) :=
  PE.imp (GenX.pe_tupleG (ev_gmk ct lg hr ok gx hi hb hs) hr hg hm hbt he) (tup_t his)
theorem ev_anyG (ct : Ct X C w) (lg : Lg X C) (hr : Room (k + 6) X.A) (ok : BlkOk X.N X.env.scope scope own) (gx : GenX.GScp scope) (hi : PI X tg iter (iOf C w fi)) (hb : GBk X C scope k tg ifs elt is t tc fe) (his : ∀ i ∈ is, i ∈ own.map (·.2) := by decide) (hg : Gl X "any" := by rfl) (hm : X.mg "any" = none := by rfl)
    (hs : ∀ x, genFold iter X.env x = pure x := by intro _; rfl) (he : starEach [.GeneratorExp elt [⟨tg, iter, ifs, 0⟩] scope gpos] X.env = (false, eval (.GeneratorExp elt [⟨tg, iter, ifs, 0⟩] scope gpos) X.env) :: starEach [] X.env := by rfl) :
    PE X (.Call (.Name "any" p) [.GeneratorExp elt [⟨tg, iter, ifs, 0⟩] scope gpos] [] pos) (tOf C w (anyGx true (own.map (·.2)) fi t tc fe)) :=
  PE.imp (GenX.pe_anyG (ev_gmk ct lg hr ok gx hi hb hs) hr hg hm he) (any_t (stop := true) his)
theorem ev_allG (ct : Ct X C w) (lg : Lg X C) (hr : Room (k + 6) X.A) (ok : BlkOk X.N X.env.scope scope own) (gx : GenX.GScp scope) (hi : PI X tg iter (iOf C w fi)) (hb : GBk X C scope k tg ifs elt is t tc fe) (his : ∀ i ∈ is, i ∈ own.map (·.2) := by decide) (hg : Gl X "all" := by rfl) (hm : X.mg "all" = none := by rfl)
    (hba : bootBuiltins "all" = some (.builtin "all") := by rfl) (hs : ∀ x, genFold iter X.env x = pure x := by intro _; rfl) (he : starEach [.GeneratorExp elt [⟨tg, iter, ifs, 0⟩] scope gpos] X.env = (false, eval (.GeneratorExp elt [⟨tg, iter, ifs, 0⟩] scope gpos) X.env) :: starEach [] X.env := by rfl) :
    PE X (.Call (.Name "all" p) [.GeneratorExp elt [⟨tg, iter, ifs, 0⟩] scope gpos] [] pos) (tOf C w (anyGx false (own.map (·.2)) fi t tc fe)) :=
  PE.imp (GenX.pe_allG (ev_gmk ct lg hr ok gx hi hb hs) hr hg hm hba he) (any_t (stop := false) his)
end
end Ev

set_option Elab.async false
set_option linter.all false
set_option maxRecDepth 100000
namespace Ev
open PySem L2 LamX
def gScpB (scope : Scope) : Bool := !scope.isCoroutine && scope.names.all (fun y => !decide (y.2 = .cell)) && decide (scope.names.lookup (".0" : Str) = some NameKind.local)
theorem gScp_by {scope : Scope} (h : gScpB scope = true) : GenX.GScp scope := by
  unfold gScpB at h
  simp only [Bool.and_eq_true, Bool.not_eq_true', decide_eq_true_eq, decide_eq_false_iff_not, List.all_eq_true] at h
  exact ⟨h.1.1, fun y hy => h.1.2 y hy, h.2⟩
/-- a def that makes generator expressions -/
theorem fn_mkG {P : Program} {w : World} {K : PySem.W.Frag} {mg : Str → Option Value} {base : Heap} {x qual : Str} {st : Stmt} {f : Addr} {fd : FuncData} {c Pt : Addr} {N ps : List Str} {k n nN : Nat} {T : List (Addr × Str)} {cls : Nat → Addr} {clo : Nat → ClD} {g : Env → Sr} {m : Mf} (F : FunC K x qual st f fd c) (S : FnScope N ps (defScope st)) (hn : ps.length = n) (hN : N.length = nN) (hm : m = mOf nN g)
    (TB : TabB base mg c Pt) (hT : (Pt, qual ++ ".<locals>." ++ "<genexpr>") ∈ T) (hu : ∀ p ∈ T, p.1 = Pt → p.2 = qual ++ ".<locals>." ++ "<genexpr>")
    (hbody : ∀ (W as : List Addr) (A : Around) (outer : List PySem.Env) (s : Shared) (H : Hp) (E : XK), Room k (A.deeper (PyProof.Rows.envOfC qual (defScope st) s.heap.objs.size f (.ref c))) → Cs (cxOf (L2.CX P w) P w K mg base N qual (defScope st) f (.ref c) A outer s H E) (inCf K T cls clo H W as) (wOf E) → Lg (cxOf (L2.CX P w) P w K mg base N qual (defScope st) f (.ref c) A outer s H E) (inCf K T cls clo H W as) →
      PSs (cxOf (L2.CX P w) P w K mg base N qual (defScope st) f (.ref c) A outer s H E) (defBody st) (tsOf (inCf K T cls clo H W as) (wOf E) g)) :
    FnOk P w K mg base (L2.CX P w) (k + 1) f fd ps (spM K T cls clo n m) := by
  subst hn hN hm
  obtain ⟨oc, od, kV, doc, pm, an, ct', osl, rfl, lk, hcd⟩ := F.ex
  refine fn_of lk hcd S (sp := spM K T cls clo ps.length (mOf N.length g)) (fun vs H Q E h => h.1) fun A outer s H vs Q E hr h => ?_
  obtain ⟨hl, W, as, hs, rs, ok, hv, hp⟩ := h
  have ct : Cs (cxOf (L2.CX P w) P w K mg base N qual (defScope st) f (.ref c) A outer s H E) (inCf K T cls clo H W as) (wOf E) :=
    { K := rfl, un := by have := hr.un; show (A.deeper _).units + 64 < cLine; omega, un65 := by have := hr.un; show (A.deeper _).units + 65 < cLine; omega, calm := rfl, nd := S.nd, tk := takes_of rfl rfl rfl rfl, hp := passes_of rfl }
  refine ⟨_, hbody W as A outer s H E hr ct ⟨c, Pt, TB, rfl, hT, hu⟩, W, inE N.length rs hs, ok.enter hv, ?_⟩
  unfold mOf at hp
  cases q : g (inE N.length rs hs) with
  | nx e => rw [q] at hp; exact fun σ' W' H' x k' => hp _ _ _ x k'.bare .non
  | ret r e =>
    rw [q] at hp
    intro v σ' W' H' x k' hv
    cases r with
    | loc i => exact hp.elim
    | d y => exact hp _ _ _ x k'.bare (hv.any fun i y => nomatch y)
    | hnd y => exact hp _ _ _ x k'.bare (hv.any fun i y => nomatch y)
    | clo y => exact hp _ _ _ x k'.bare (hv.any fun i y => nomatch y)
    | clos y => exact hp _ _ _ x k'.bare (hv.any fun i y => nomatch y)
    | scr y => exact hp _ _ _ x k'.bare (hv.any fun i y => nomatch y)
  | rto b o e => rw [q] at hp; exact hp.elim
  | err c e => rw [q] at hp; exact fun σ' W' H' x k' => hp _ _ x k'.bare
  | bk e => rw [q] at hp; exact hp.elim
  | ct e => rw [q] at hp; exact hp.elim
  | stk => rw [q] at hp; exact hp.elim
end Ev

set_option Elab.async false
set_option linter.all false
set_option maxRecDepth 100000
set_option maxHeartbeats 2000000
/-! ### comprehensions that an exception may leave -/
namespace CmpX
open PySem PySem.Spec PyProof.Rows L2
theorem note_same {x : Value} {a b : PySem.Env} (h : a.frame = b.frame) : noteFrame x a = noteFrame x b := by
  unfold noteFrame PySem.frameOf
  rw [h]
/-- what is wanted at a block's end; ce: its own environment -/
def Bend (M : Model) (A : Around) (E : Value → Shared → Prop) (use : Option (Value → Sem Unit)) (Q : Value → Shared → Prop) (acc : Value) (ce : PySem.Env) : Result → Shared → Prop
  | .ok f, s' => compPost M A E use Q acc ce.locals (.ok f) s'
  | .error x, s' => ∃ m, s'.heap.Ns ce.locals m ∧ ∀ h', Heap.SameBut ce.locals s'.heap h' → wpAny M A (PySem.passOn "comprehension.variables-let-go" x ce : Sem Value) (fun _ _ => False) E { s' with heap := h' }
section
variable {M : Model} {A : Around} {E : Value → Shared → Prop} {s : Shared} {env : PySem.Env}
theorem comp_free {e : Expr} {scope : Scope} {pos : Pos} {newAcc first : Sem Value} {g : Comprehension} {gs : List Comprehension} {cl : List (Str × Addr)} {use : Option (Value → Sem Unit)} {Q : Value → Shared → Prop}
    (hcl : clausesOf e = g :: gs) (hs : ∀ x, foldedSetIterable g.iter env x = pure x) (hclos : closureFor scope env = pure cl) (hkind : scope.kind = .function) (hnames : ∀ x ∈ scope.names, x.2 = .local → scope.names.lookup x.1 = some .local)
    (h : wpAny M A first (fun x s1 => wpAny M A (pyIter x) (fun it s2 => wpAny M A newAcc (fun acc s3 => wpAny M A (newFunctionEnv scope env.globals cl [] env.qual none .none (some env)) (fun ce s4 =>
        codeAny M A (.compStart e 0 it acc { ce with scope := relabel scope env }) (Bend M A E use Q acc { ce with scope := relabel scope env }) s4) E s3) E s2) E s1) E s) :
    wpAny M A (comprehension e scope env pos newAcc false first use) Q E s := by
  unfold comprehension
  rw [hclos, hcl]
  refine wpAny_bind (wpAny_mono h (fun x s1 h1 => wpAny_bind (wpAny_standAt (wpAny_bind (wpAny_of_eq (hs x) (wpAny_bind (wpAny_holding (wpAny_mono h1 (fun it s2 h2 => wpAny_standIf (wpAny_bind (wpAny_mono h2 (fun acc s3 h3 => wpAny_bind (wpAny_pure (wpAny_bind (wpAny_mono h3 (fun ce s4 h4 => ?_) fun _ _ z => z)))) fun _ _ z => z))) fun _ _ z => z))))))) fun _ _ z => z)
  dsimp only
  have loc : ∀ x ∈ (scope.names.filter fun x => (x.2 == .local || x.2 == .cell) && x.1 != (".0" : Str)).reverse, x.2 = .local → Env.kindOf { ce with scope := relabel scope env } x.1 = some .local := fun x hx hl =>
    lookup_relabel_local (hnames x (List.mem_filter.mp (List.mem_reverse.mp hx)).1 hl)
  have loc' : ∀ x ∈ (scope.names.filter fun x => (x.2 == .local || x.2 == .cell) && x.1 != (".0" : Str)).reverse.drop 1 ++ (scope.names.filter fun x => (x.2 == .local || x.2 == .cell) && x.1 != (".0" : Str)).reverse.take 1,
      x.2 = .local → Env.kindOf { ce with scope := relabel scope env } x.1 = some .local := fun x hx hl => by
    rcases List.mem_append.mp hx with z | z
    · exact loc x (List.mem_of_mem_drop z) hl
    · exact loc x (List.mem_of_mem_take z) hl
  refine wpAny_holding (wpAny_bind (wpAny_attempt (wpAny_holding (wpAny_run (codeAny_mono h4 fun r s5 hr => ?_)))))
  cases r with
  | ok f =>
    cases use with
    | none =>
      obtain ⟨m, hn, hr⟩ := hr
      exact wpAny_bind (wpAny_holding (wpAny_comp_letGo (cenv := { ce with scope := relabel scope env }) hkind _ s5 m loc hn fun h' m' _ sb => wpAny_pure (hr h' sb)))
    | some u =>
      refine wpAny_bind (wpAny_rule (wpAny_bind (wpAny_holding (wpAny_mono hr (fun _ s6 hr' => ?_) fun _ _ z => z))))
      obtain ⟨m, hn, hr'⟩ := hr'
      exact wpAny_bind (wpAny_comp_letGo (cenv := { ce with scope := relabel scope env }) hkind _ s6 m loc' hn fun h' m' _ sb => wpAny_pure (hr' h' sb))
  | error x =>
    have hr' : ∃ m, s5.heap.Ns ce.locals m ∧ ∀ h', Heap.SameBut ce.locals s5.heap h' → wpAny M A (PySem.passOn "comprehension.variables-let-go" x { ce with scope := relabel scope env } : Sem Value) (fun _ _ => False) E { s5 with heap := h' } := hr
    obtain ⟨m, hn, hr⟩ := hr'
    have fin : wpAny M A (do holding [x] (comprehension.letGo { ce with scope := relabel scope env } (fun vs => vs.flatMap fun (n, k) => if k == .cell then (({ ce with scope := relabel scope env } : PySem.Env).cells.lookup n |>.map Value.ref).toList else []) (scope.names.filter fun x => (x.2 == .local || x.2 == .cell) && x.1 != (".0" : Str)).reverse); PySem.passOn "comprehension.variables-let-go" x { ce with scope := relabel scope env } : Sem Value) Q E s5 :=
      wpAny_bind (wpAny_holding (wpAny_comp_letGo (cenv := { ce with scope := relabel scope env }) hkind _ s5 m loc hn fun h' m' _ sb => wpAny_mono (hr h' sb) (fun _ _ f => f.elim) fun _ _ y => y))
    cases use <;> exact fin
end
/-! the frame notes it, whatever was noted ahead -/
section
variable {M : Model} {A : Around} {E : Value → Shared → Prop} {s : Shared} {Z : Obj → Prop} {base : Heap} {env : PySem.Env} {outer : List PySem.Env} {L e L' : Addr}
theorem look_held {Q : Unit → Shared → Prop} (hZ : HandSPX.Steady Z) (hfr : A.frames = some (env :: outer)) (hf : env.frame = some L) (hfl : HandSPX.HeldZ base (env :: outer) e Z L' s.heap)
    (hQ : ∀ h', HandSPX.HeldZ base (env :: outer) e Z L h' → s.heap.UpToSlots h' → Q () { s with heap := h' }) : wpAny M A (noteFrame (.ref e) env) Q E s := by
  by_cases q : L' = L
  · subst q
    exact HandSPX.againZ hf hfl.2.2.2 (hQ s.heap hfl fun b o h _ => ⟨o.slots, h⟩)
  obtain ⟨hkb, hen, hl, oe, vs, T, oT, ts, he, hz, hd, h1, hnT, hTe, hT, hdT, h3⟩ := hfl
  have ne : ¬ ((rawInt L' == rawInt L) = true) := by
    intro z
    have z := eq_of_beq z
    simp only [rawInt, Value.int.injEq, Int.ofNat_inj] at z
    exact q z.1
  unfold noteFrame
  simp only [hf]
  refine wpAny_bind (wpAny_field he hd h1 ?_)
  rw [if_pos (show (Value.ref T != Value.none) = true from by simp)]
  refine wpAny_bind (wpAny_field hT hdT h3 ?_)
  rw [if_neg ne]
  refine wpAny_bind (wpAny_setField hT hdT (Array.getElem?_eq_some_iff.mp h3).1 ?_)
  have oth : ∀ b, b ≠ T → (s.heap.update T (Obj.mapFields (·.setIfInBounds 3 Value.none))).get? b = s.heap.get? b := fun b hb => Heap.get?_update_other _ _ (Ne.symm hb)
  have nr : ∀ b o, s.heap.get? b = some o → (∀ vs, o.data ≠ .fields vs) → b ≠ T := fun b o hb hnf q => by
    rw [q, hT] at hb; cases hb; exact hnf ts hdT
  refine HandSPX.wpAny_entryZ hZ hfr (hl.of_keeps fun b o hb hnf => ⟨o, (oth b (nr b o hb hnf)).trans hb, rfl⟩) hf ((oth e (Ne.symm hTe)).trans he)
    (fun b o hbo => (oth b fun q => by rw [q, hnT] at hbo; cases hbo).trans (hkb b o hbo)) hen hd (Array.getElem?_eq_some_iff.mp h1).1 hz fun h' hN => ?_
  obtain ⟨x1, x2, x3, x4⟩ := hN
  exact hQ h' ⟨x1, hen, x2, x3⟩ fun b o hb hnf => x4 b o ((oth b (nr b o hb hnf)).trans hb) hnf
theorem look_any {Q : Unit → Shared → Prop} (hZ : HandSPX.Steady Z) (hfr : A.frames = some (env :: outer)) (hf : env.frame = some L) (hfl : Sky base (env :: outer) e Z L' s.heap)
    (hQ : ∀ h', HandSPX.HeldZ base (env :: outer) e Z L h' → s.heap.UpToSlots h' → Q () { s with heap := h' }) : wpAny M A (noteFrame (.ref e) env) Q E s := by
  rcases hfl with ⟨hB, hn, hl, oe, vs, he, hz, hd, h1⟩ | fl | hh
  · exact HandSPX.look_newZ hZ hfr hl hf he hB hn hd h1 hz hQ
  · exact HandSPX.looks_onZ hZ hfr hf fl hQ
  · exact look_held hZ hfr hf hh hQ
theorem pass_held {α : Type} {what : String} {ce : PySem.Env} {Q : α → Shared → Prop} (hf : ce.frame = some L) (hh : HandSPX.HeldZ base outer e Z L s.heap) (hE : ∀ h', HandSPX.HeldZ base outer e Z L h' → s.heap.UpToSlots h' → E (.ref e) { s with heap := h' }) :
    wpAny M A (PySem.passOn what (.ref e) ce : Sem α) Q E s := by
  have hh' := hh
  obtain ⟨hkb, hen, hl, oe, vs, T, oT, ts, he, hz, hd, h1, _⟩ := hh'
  unfold PySem.passOn
  refine wpAny_bind (wpAny_field he hd h1 ?_)
  rw [if_neg (by simp)]
  rw [hf]
  refine wpAny_bind (HandSPX.setFlight_onZ hh fun h' h1 h2 => ?_)
  exact wpAny_throw (hE h' h1 h2)
end
end CmpX

set_option Elab.async false
set_option linter.all false
set_option maxRecDepth 100000
set_option maxHeartbeats 2000000
namespace CmpX
open PySem PySem.Spec PyProof.Rows L2
/-- a block's context, its wish about exceptions by the def -/
abbrev blkE (X : Cx) (s : Shared) (H : Hp) (scope : Scope) (ce : PySem.Env) (fp : List Addr) (xe : Value → Shared → Prop) : Cx := { X.blk s H scope ce fp with xe := xe }
theorem inv_xe {X : Cx} {pins : List (Addr × Obj)} {σ : L2.St} {H : Hp} {s : Shared} {xe : Value → Shared → Prop} (I : Inv X pins σ H s) : Inv { X with xe := xe } pins σ H s :=
  ⟨⟨I.ok.mod, I.ok.kind, I.ok.glob, I.ok.blt, I.ok.above, I.ok.inj, I.ok.has, I.ok.cab, I.ok.hd, I.ok.frames, I.ok.stk, I.ok.exf, I.ok.bs, I.ok.bsz, I.ok.noex, I.ok.exfs, I.ok.funs, I.ok.frf⟩, I.os, I.bare, I.base, I.loc, I.cell, I.free, I.freeC, I.pin, I.hok, I.len⟩
/-- the wish in a block: the def's own slots stay as they were -/
def wB (w : WX) (σ : L2.St) : WX := fun c d _ H => w c d σ H
theorem funs_but {B h h' : Heap} {C : Addr} (sb : ∀ b, b ≠ C → h'.get? b = h.get? b) : ∀ {l : List PySem.Env}, h.FunFrames B l → C ∉ frs l → h'.FunFrames B l
  | [], _, _ => trivial
  | env :: l, ⟨hk, ⟨L, o, hf, hn, ho, hd⟩, hr⟩, hC => by
    have e : frs (env :: l) = L :: frs l := by simp [frs, hf]
    rw [e] at hC
    exact ⟨hk, ⟨L, o, hf, hn, by rw [sb L (fun z => hC (by rw [z]; exact List.mem_cons_self))]; exact ho, hd⟩, funs_but sb hr fun z => hC (List.mem_cons_of_mem _ z)⟩
theorem hide1_get {h : Heap} {C b : Addr} {o : Obj} (e : h.get? b = some o) (n : b ≠ C) : (PySem.W.hideAll h [C]).get? b = some o := PySem.W.hideAll_get _ e (by simpa using n)
theorem of_hide1 {h : Heap} {C b : Addr} {o : Obj} (e : (PySem.W.hideAll h [C]).get? b = some o) : b ≠ C ∧ h.get? b = some o := by
  refine ⟨fun z => ?_, PySem.W.of_hideAll _ e⟩
  rw [PySem.W.hideAll_none [C] (by simp [z])] at e; cases e
theorem hide1_none {h : Heap} {C b : Addr} (e : h.get? b = none) : (PySem.W.hideAll h [C]).get? b = none := by
  cases q : (PySem.W.hideAll h [C]).get? b with
  | none => rfl
  | some o =>
    have z := (of_hide1 q).2
    rw [e] at z; cases z
theorem held_but {B h h' : Heap} {l : List PySem.Env} {a L C : Addr} {Z : Obj → Prop} {oC : Obj} (x : HandSPX.HeldZ B l a Z L h) (hC : B.get? C = some oC) (sb : Heap.SameBut C h h') : HandSPX.HeldZ (PySem.W.hideAll B [C]) l a Z L h' := by
  obtain ⟨hkb, hen, hl, oe, vs, T, oT, ts, he, hz, hd, h1, hnT, hTe, hT, hdT, h3⟩ := x
  have ne : ∀ b, B.get? b = none → b ≠ C := fun b e z => by rw [z, hC] at e; cases e
  have cl : C ∉ frs l := fun z => absurd rfl (ne C (hl.mem z).1)
  refine ⟨fun b o e => ?_, hide1_none hen, ?_, oe, vs, T, oT, ts, ?_, hz, hd, h1, hide1_none hnT, hTe, ?_, hdT, h3⟩
  · obtain ⟨n, e⟩ := of_hide1 e
    rw [sb.2 b n]; exact hkb b o e
  · refine funFrames_none (funs_but sb.2 hl cl) fun b hb => hide1_none (hl.mem hb).1
  · rw [sb.2 a (ne a hen)]; exact he
  · rw [sb.2 T (ne T hnT)]; exact hT
section
variable {X : Cx} {w : WX} {pins : List (Addr × Obj)} {σ : L2.St} {H3 : Hp} {s3 : Shared} {fp : List Addr} {scope : Scope} {ce : PySem.Env} {use : Option (Value → Sem Unit)} {Qf : Value → Shared → Prop} {acc : Value}
theorem takes_blk (tk : Takes X w) (hst : X.stack = X.env :: X.outer) (hf : X.env.frame = some X.env.locals) (hce : ce.frame = X.env.frame) (hC : ce.locals = s3.heap.objs.size) (I3 : Inv X pins σ H3 s3) (f3 : ∀ b ∈ fp, FpOk X pins H3 b ∧ b < s3.heap.objs.size) :
    Takes (blkE X s3 H3 scope ce fp (notedBy (model X.prog X.w) X.A ce fun e s' => Bend (model X.prog X.w) X.A X.xe use Qf acc ce (.error e) s')) (wB w σ) := by
  rintro u s' ⟨a, B, sI, pins', σ', H', cls, d, rfl, I', nb, up, sky, na, os, ag, hw⟩
  have nb : ∀ b o, sI.heap.get? b = some o → b ∉ frs X.stack → B.get? b = some o := nb
  have hfr : X.A.frames = some (X.env :: X.outer) := by rw [I3.ok.frames, hst]
  have I7 : Inv X pins σ H' sI := I3.call' (ch := fp) I'.os I'.base I'.hok I'.bare fun b hb => let z := (f3 b hb).1; ⟨z.2.2.2.1, z.2.1, z.2.2.2.2.1, z.2.2.2.2.2⟩
  obtain ⟨m, hn, _⟩ := I'.loc
  have hn : sI.heap.Ns ce.locals m := hn
  have nC : H' ce.locals = none := I'.free
  have fC : FpOk X pins H' ce.locals := by
    rw [hC] at nC ⊢
    exact I3.fpOk (Nat.le_refl _) nC
  have cF : ce.locals ∉ frs X.stack := fun z => by
    obtain ⟨_, o, e, _⟩ := I3.stack.mem z
    have := Heap.lt_size e
    rw [hC] at this; exact absurd this (Nat.lt_irrefl _)
  obtain ⟨oC, es, ep, eC, rC⟩ := hn
  have bC : B.get? ce.locals = some oC := nb _ _ eC cF
  have sky : Sky B (X.env :: X.outer) a (Zc cls d) ce.locals s'.heap := by rw [← hst]; exact sky
  show wpAny _ _ (noteFrame (.ref a) ce) _ _ s'
  rw [note_same hce]
  refine look_any Zc.steady hfr hf sky fun h1 hh up1 => ?_
  refine ⟨m, ⟨oC, es, ep, hh.1 _ _ bC, rC⟩, fun h2 sb => ?_⟩
  refine pass_held (base := PySem.W.hideAll B [ce.locals]) (outer := X.env :: X.outer) (by rw [hce]; exact hf) (held_but hh bC sb) fun h4 hh4 up4 => ?_
  refine tk _ _ ⟨a, PySem.W.hideAll B [ce.locals], { sI with heap := PySem.W.hideAll sI.heap [ce.locals] }, pins, σ, H', cls, d, rfl, ?_, fun b o e hb => ?_, fun b o e hnf => ?_, ?_, na, os, ag, hw⟩
  · exact I7.turned (t' := sI.toks) (fun b o hb e => hide1_get e hb) fC.1 fC.2.1 fC.2.2.2.1 fC.2.2.2.2.1 fC.2.2.2.2.2
  · obtain ⟨n, e⟩ := of_hide1 e
    exact hide1_get (nb b o e hb) n
  · obtain ⟨n, e⟩ := of_hide1 e
    obtain ⟨sl, e1⟩ := up b o e hnf
    obtain ⟨sl2, e2⟩ := up1 b _ e1 hnf
    have e3 : h2.get? b = _ := (sb.2 b n).trans e2
    obtain ⟨sl4, e4⟩ := up4 b _ e3 hnf
    exact ⟨sl4, e4⟩
  · rw [hst]
    exact .inr (.inr hh4)
end
/-- a comprehension as a reading; o0: what is made, tl: a turn's end -/
def tCm (o0 : HO) (wi : TI) (g : TG) (tt : TT) (tl : Addr → L2.St → Hp → (Hp → Prop) → Prop) (vs : List Nat) : TE := fun σ H Q => wi σ H fun J H1 => ∀ D, H1 D = none → ∃ W : Nat → Nat → Hp → Prop, (∃ m, W 0 m (upd H1 D o0)) ∧ ∀ i m H, W i m H →
  (J.stop i H ∧ Q (.ref D) H) ∨ (J.go i H ∧ ∃ Nx : Hp → Prop, (∀ H', Nx H' → ∃ m', m' < m ∧ W (i + 1) m' H') ∧ ∀ x H', J.yld i H x H' → g x (wipe σ vs) H' fun σ2 H2 => wipe σ2 vs = wipe σ vs ∧ tt σ2 H2 fun b H3 => if b = true then tl D σ2 H3 Nx else Nx H3)
section
variable {X : Cx} {w : WX} {pins : List (Addr × Obj)} {σ : L2.St} {H : Hp} {s : Shared} {Q : VK} {e tg iter : Expr} {ifs : List Expr} {scope : Scope} {own : List (Str × Nat)} {pos' : Pos} {newAcc : Sem Value} {ob : Obj} {o0 : HO} {wi : TI} {g : TG} {tt : TT} {tl : Addr → L2.St → Hp → (Hp → Prop) → Prop}
  {Tl : Addr → PySem.Env → (Shared → Prop) → (Value → Shared → Prop) → Shared → Prop} {use : Option (Value → Sem Unit)} {Qf : Value → Shared → Prop}
theorem core (tk : Takes X w) (hst : X.stack = X.env :: X.outer) (hf : X.env.frame = some X.env.locals) (hc : X.calm = true) (hN : X.N.Nodup) (I : Inv X pins σ H s) (hi : PI X tg iter wi) (ok : BlkOk X.N X.env.scope scope own) (hcl : clausesOf e = [⟨tg, iter, ifs, 0⟩])
    (hacc : ∀ (Q : Value → Shared → Prop) (E : Value → Shared → Prop) (s : Shared), Q (.ref s.heap.objs.size) { s with heap := s.heap.push ob } → wpAny (model X.prog X.w) X.A newAcc Q E s)
    (hnew : ∀ (H : Hp) (s : Shared), Inv X pins σ H s → Inv X pins σ (upd H s.heap.objs.size o0) { s with heap := s.heap.push ob }) (hob : ob.isFreed = false)
    (hloop : ∀ (ce : PySem.Env) (it : Value) (D : Addr) (R : Result → Shared → Prop) (J : Nat → Shared → Prop), (∀ n s, J n s → wpAny (model X.prog X.w) X.A (pyNext it) (fun r s1 => match r with
      | none => R (.ok .next) s1
      | some v => wpAny (model X.prog X.w) X.A (letOwnedTupleGo tg it v) (fun _ s1' => wpAny (model X.prog X.w) X.A (assign tg ce v) (fun _ s2 =>
          wpAny (model X.prog X.w) X.A (forIn ifs true fun c r => if r = true then do let ok ← isTrue c ce (eval c ce); pure (ForInStep.yield ok) else pure (ForInStep.yield r)) (fun ok s3 =>
            if ok = true then Tl D ce (fun s => ∃ m, m < n ∧ J m s) (notedBy (model X.prog X.w) X.A ce fun e s' => R (.error e) s') s3
            else ∃ m, m < n ∧ J m s3) (notedBy (model X.prog X.w) X.A ce fun e s' => R (.error e) s') s2) (notedBy (model X.prog X.w) X.A ce fun e s' => R (.error e) s') s1') (notedBy (model X.prog X.w) X.A ce fun e s' => R (.error e) s') s1) (notedBy (model X.prog X.w) X.A ce fun e s' => R (.error e) s') s) →
      ∀ n s, J n s → codeAny (model X.prog X.w) X.A (.compLoop e 0 it (.ref D) ce) R s)
    (hstart : ∀ (ce : PySem.Env) (it : Value) (D : Addr) (R : Result → Shared → Prop) (s : Shared), codeAny (model X.prog X.w) X.A (.compLoop e 0 it (.ref D) ce) R s → wpAny (model X.prog X.w) X.A (pyIter it) (fun it' s' => codeAny (model X.prog X.w) X.A (.compLoop e 0 it' (.ref D) ce) R s') (notedBy (model X.prog X.w) X.A ce fun x s' => R (.error x) s') s →
      codeAny (model X.prog X.w) X.A (.compStart e 0 it (.ref D) ce) R s)
    (hb : ∀ (s : Shared) (H : Hp) (C : Addr) (cl : List (Str × Addr)) (fp : List Addr) (xe : Value → Shared → Prop), Takes (blkE X s H scope (compEnvC scope cl C X.env) fp xe) (wB w σ) →
      PG (blkE X s H scope (compEnvC scope cl C X.env) fp xe) tg g ∧ PTs (blkE X s H scope (compEnvC scope cl C X.env) fp xe) ifs tt ∧
      ∀ (D : Addr) (pins' : List (Addr × Obj)) (σ' : L2.St) (H' : Hp) (s' : Shared) (Nx : Hp → Prop) (Qn : Shared → Prop), Inv (blkE X s H scope (compEnvC scope cl C X.env) fp xe) pins' σ' H' s' → tl D σ' H' Nx →
        (∀ H'' s'', Inv (blkE X s H scope (compEnvC scope cl C X.env) fp xe) pins' σ' H'' s'' → Nx H'' → Qn s'') → Tl D (compEnvC scope cl C X.env) Qn xe s')
    (hs : ∀ x, foldedSetIterable iter X.env x = pure x) (h : tCm o0 wi g tt tl (own.map (·.2)) σ H Q)
    (hRR : ∀ D C s' m H', Inv X pins σ H' s' → Q (.ref D) H' → s'.heap.Ns C m → FpOk X pins H' C → compPost (model X.prog X.w) X.A X.xe use Qf (.ref D) C (.ok .next) s') :
    wpAny (model X.prog X.w) X.A (comprehension e scope X.env pos' newAcc false (eval iter X.env) use) Qf X.xe s := by
  have hfree : ∀ y ∈ scope.names, y.2 = .free → ∃ c, X.env.cells.lookup y.1 = some c := fun y hy z => (ok.free y hy z).elim (fun k => I.ok.has _ (.inl k)) fun k => I.ok.has _ (.inr k)
  refine comp_free (use := use) hcl hs (closure_ok hfree) ok.kind (fun y hy z => by rw [ok.uniq y hy, z]) (thn (hi.run pins s σ H _ I h) fun xv s1 hx => thn hx fun itv s2 h2 => ?_)
  obtain ⟨it, fp, tn, J, H2, ei, I2, T, st2, f2, q⟩ := h2
  subst ei
  refine hacc _ _ _ (newEnv_comp ?_)
  have I3 := hnew H2 s2 I2
  have hDn : H2 s2.heap.objs.size = none := I2.hok.fresh (Nat.le_refl _)
  obtain ⟨W, ⟨m0, w0⟩, turn⟩ := q _ hDn
  generalize hD : s2.heap.objs.size = D at I3 hDn w0 turn ⊢
  generalize hs3 : ({ s2 with heap := s2.heap.push ob } : Shared) = s3 at I3 ⊢
  have h3 : s3.heap = s2.heap.push ob := by rw [← hs3]
  have f3 : ∀ b ∈ fp, FpOk X pins (upd H2 D o0) b ∧ b < s3.heap.objs.size := fun b hb => by
    obtain ⟨o, z, _⟩ := T.obj _ _ st2 b hb
    have hlt := Heap.lt_size z
    refine ⟨⟨?_, (f2 b hb).2⟩, by rw [h3, Heap.size_push]; exact Nat.lt_succ_of_lt hlt⟩
    rw [upd_ne (by rw [← hD]; exact Nat.ne_of_lt hlt)]
    exact (f2 b hb).1
  have st3 : tn 0 s3.heap := T.keep _ _ _ st2 fun b _ o z => by rw [h3]; exact Heap.get?_push_of_some _ z
  have I4 := block_start I3 ok hN f3
  have nfp : ∀ b ∈ fp, (upd H2 D o0) b = none := fun b hb => (f3 b hb).1.1
  generalize hH3 : upd H2 D o0 = H3 at I3 I4 w0 nfp f3
  generalize hcl0 : cellsFrom (s3.heap.objs.size + 1) scope.names (cloFrom X.env.cells scope.names []) = cl at I4 ⊢
  have tkB := takes_blk (scope := scope) (ce := compEnvC scope cl s3.heap.objs.size X.env) (use := use) (Qf := Qf) (acc := .ref D) tk hst hf rfl rfl I3 f3
  show codeAny _ _ (.compStart e 0 (.ref it) (.ref D) (compEnvC scope cl s3.heap.objs.size X.env)) (Bend (model X.prog X.w) X.A X.xe use Qf (.ref D) (compEnvC scope cl s3.heap.objs.size X.env)) { s3 with heap := pushCells (s3.heap.push { cls := .type "dict", data := .dict #[] }) scope.names }
  obtain ⟨pg, pt, pe⟩ := hb s3 H3 s3.heap.objs.size cl fp _ tkB
  generalize hce : compEnvC scope cl s3.heap.objs.size X.env = ce at I4 pg pt pe ⊢
  have cL : ce.locals = s3.heap.objs.size := by subst hce; rfl
  generalize hxe : (notedBy (model X.prog X.w) X.A ce fun e s' => Bend (model X.prog X.w) X.A X.xe use Qf (.ref D) ce (.error e) s') = xe at pg pt pe
  have I4 : Inv (blkE X s3 H3 scope ce fp xe) [] (wipe σ (own.map (·.2))) H3 { s3 with heap := pushCells (s3.heap.push { cls := .type "dict", data := .dict #[] }) scope.names } := inv_xe I4
  generalize hs4 : ({ s3 with heap := pushCells (s3.heap.push { cls := .type "dict", data := .dict #[] }) scope.names } : Shared) = s4 at I4 ⊢
  have st4 : tn 0 s4.heap := T.keep _ _ _ st3 fun b _ o z => by rw [← hs4]; exact pushCells_keeps _ _ _ _ (Heap.get?_push_of_some _ z)
  have stat : ∀ {σ' : L2.St} {H' : Hp} {s' : Shared}, Inv (blkE X s3 H3 scope ce fp xe) [] σ' H' s' → (∀ b ∈ fp, H' b = none) → ∀ b ∈ fp, FpOk (blkE X s3 H3 scope ce fp xe) [] H' b := fun {σ' H' s'} I' hn b hb =>
    ⟨hn b hb, (I'.ok.exf b hb).1, I'.ok.exfs b hb, .inl hb, fun x c z => (I'.ok.exf b hb).2 x c z, fun p hp => absurd (show p ∈ ([] : List (Addr × Obj)) ++ [] from hp) (by simp)⟩
  have loop : codeAny (model X.prog X.w) X.A (.compLoop e 0 (.ref it) (.ref D) ce) (Bend (model X.prog X.w) X.A X.xe use Qf (.ref D) ce) s4 := by
    refine hloop ce (.ref it) D _ (fun n s' => ∃ i H', Inv (blkE X s3 H3 scope ce fp xe) [] (wipe σ (own.map (·.2))) H' s' ∧ tn i s'.heap ∧ (∀ b ∈ fp, H' b = none) ∧ W i n H') ?_ m0 s4 ⟨0, H3, I4, st4, nfp, w0⟩
    rw [hxe]
    rintro n s5 ⟨i, H5, I5, st5, n5, w5⟩
    rcases turn i n H5 w5 with ⟨stop, qq⟩ | ⟨go, Nx, hNx, step⟩
    · refine thn (T.done (blkE X s3 H3 scope ce fp xe) rfl rfl rfl hc i [] s5 _ H5 xe I5 (stat I5 n5) st5 stop) fun r s6 ⟨hr, I6⟩ => ?_
      subst hr
      have I7 : Inv X pins σ H5 s6 := I3.call' (ch := fp) I6.os I6.base I6.hok I6.bare fun b hb => let z := (f3 b hb).1; ⟨z.2.2.2.1, z.2.1, z.2.2.2.2.1, z.2.2.2.2.2⟩
      have nC : H5 ce.locals = none := I6.free
      obtain ⟨m, hn, _⟩ := I6.loc
      have hn : s6.heap.Ns ce.locals m := hn
      refine hRR D ce.locals s6 m H5 I7 qq hn ?_
      rw [cL] at nC ⊢
      exact I3.fpOk (Nat.le_refl _) nC
    · refine thn (T.item (blkE X s3 H3 scope ce fp xe) rfl rfl rfl hc i [] s5 _ H5 xe I5 (stat I5 n5) st5 go) fun r s6 ⟨u, hr, h6⟩ => ?_
      subst hr
      refine thn h6 fun _ s7 ⟨x, H7, I7, r7, y7, st7, n7⟩ => ?_
      have I7' := I7.pinned (stat I7 n7) (T.obj _ _ st7)
      refine thn (pg.run _ s7 _ H7 x u _ I7' r7 (step x H7 y7)) fun _ s8 ⟨σ8, H8, I8, hw8, q8⟩ => ?_
      refine thn (pt.run _ s8 σ8 H8 _ I8 q8) fun b s9 ⟨H9, I9, q9⟩ => ?_
      have fin : ∀ {s' : Shared} {H' : Hp}, Inv (blkE X s3 H3 scope ce fp xe) ([] ++ pinsAt fp s7.heap) σ8 H' s' → Nx H' → ∃ m, m < n ∧ ∃ i H', Inv (blkE X s3 H3 scope ce fp xe) [] (wipe σ (own.map (·.2))) H' s' ∧ tn i s'.heap ∧ (∀ b ∈ fp, H' b = none) ∧ W i m H' := fun {s' H'} I' nx => by
        obtain ⟨m', hm, w'⟩ := hNx H' nx
        have pin : ∀ b ∈ fp, ∀ o, s7.heap.get? b = some o → s'.heap.get? b = some o ∧ H' b = none := fun b hb o z =>
          let y := I'.pin (b, o) (List.mem_append_right _ (List.mem_append_right _ (mem_pinsAt hb z)))
          ⟨y.1, y.2.1⟩
        have hl : (wipe σ (own.map (·.2))).length = σ8.length := by rw [← hw8, wipe_length]
        refine ⟨m', hm, i + 1, H', (I'.unpinned (pins := [])).weak hl (fun j v z => ?_), T.keep _ _ _ st7 fun b hb o z => (pin b hb o z).1, fun b hb => ?_, w'⟩
        · rw [← hw8] at z
          exact (wipe_some z).1
        · obtain ⟨o, z, _⟩ := T.obj _ _ st7 b hb
          exact (pin b hb o z).2
      cases b with
      | false =>
        simp only [Bool.false_eq_true, if_false] at q9 ⊢
        exact fin I9 q9
      | true =>
        simp only [if_true] at q9 ⊢
        exact pe D _ σ8 H9 s9 Nx _ I9 q9 fun H'' s'' I' nx => fin I' nx
  exact hstart ce (.ref it) D _ s4 loop (T.self X.A 0 _ _ _ st4 loop)
end
end CmpX

set_option Elab.async false
set_option linter.all false
set_option maxRecDepth 100000
set_option maxHeartbeats 1000000
namespace GenX
open PySem PySem.Spec PyProof.Rows L2 GenW
/-! ### sum(..) of a generator expression of ints -/
def intV : V → Int
  | .int i => i
  | _ => 0
def sumV (ys : List V) : Int := (ys.map intV).sum
theorem sumV_snoc (ys : List V) (i : Int) : sumV (ys ++ [.int i]) = sumV ys + i := by simp [sumV, intV]
abbrev smObj (z : Int) (t : Tok) (c : Nat) : Obj := { cls := .type "list", dict := none, data := .seq #[.int z t] c, slots := #[] }
def LM (S : Addr) : List V → Heap → Prop := fun ys h => ∃ (t : Tok) (c : Nat), h.get? S = some (smObj (sumV ys) t c)
def IntY : List V → V → Hp → Prop := fun _ x _ => ∃ i, x = .int i
section
variable {X : Cx} {pins : List (Addr × Obj)} {σ : L2.St} {a g S : Nat} {N k : Nat} {Qe : List V → Hp → Prop}
theorem code_sumG {A : Around} {R : Result → Shared → Prop} (hh : A.handled = none) (hd : A.depth < recursionLimit) (haS : a ≠ S) (hcS : cStatics ≠ S)
    (hR : ∀ t s' H' ys, Inv X pins σ H' s' → Qe ys H' → R (.ok (.ret (.int (sumV ys) t))) s') : ∀ (n : Nat) (s : Shared) (st : Int), st = 0 ∨ st = 2 → GRun X pins σ a g [S] (LM S) (fun _ => True) N IntY Qe A.in1.in1 n s →
    (∃ z t c, s.heap.get? S = some (smObj z t c)) → codeAny (model X.prog X.w) A (.builtin "sum.loop" ⟨[.ref a, .ref S, rawInt st, rawInt 0], []⟩) R s := by
  intro n
  induction n with
  | zero =>
    intro s st hst G ⟨z, t, c, hS⟩
    refine codeAny_builtin F.entry_sum_loop ?_
    rw [Around.under_plainId F.plain_sum_loop _]
    show wpAny _ A.in1 (seqItems? (.ref S) >>= _) _ _ s
    refine wpAny_bind (wpAny_seqItems hS rfl ?_)
    show wpAny _ A.in1 (tryCatch (pyNext (.ref a)) _ >>= _) _ _ s
    refine wpAny_bind (wpAny_tryCatch (run_next (A := A.in1) hh hd (by simpa using haS) (by simpa using hcS) G (fun v s1 ys x H' hn rv I hcs hL yd next => ?_) fun s1 ys H' hn I hcs ⟨t', c', h1⟩ q => ?_))
    · exfalso
      obtain ⟨i, rfl⟩ := yd
      obtain ⟨t', c', h1⟩ := hL
      rw [hS] at h1
      obtain ⟨k1, k2⟩ := hcs S (by simp)
      have hS1 : s1.heap.get? S = some (smObj z t c) := k1.trans hS
      have hS3 : (s1.heap.update S (Obj.mapSeq fun _ => #[Value.int (sumV (ys ++ [.int i])) t])).get? S = some (smObj (sumV (ys ++ [.int i])) t _) := Heap.get?_update_self _ hS1 rfl
      obtain ⟨n', e, _⟩ := next { s1 with heap := s1.heap.update S (Obj.mapSeq fun _ => #[Value.int (sumV (ys ++ [.int i])) t]) } ⟨rfl, I.bare, fun b o hb e => (Heap.get?_update_other _ _ (fun z => hb (by simp [z]))).trans e, fun b hb => by
        have e : b = S := by simpa using hb
        rw [e]
        exact ⟨_, hS3, fun v q => by cases q⟩⟩ rfl ⟨t, _, hS3⟩ trivial
      omega
    · rw [hS] at h1
      have e : z = sumV ys := by
        have := Option.some.inj h1
        simp only [smObj, Obj.mk.injEq, Data.seq.injEq, true_and, and_true] at this
        have h2 := this.1
        simp at h2
        exact h2.1
      subst e
      exact wpAny_pure (hR t s1 H' ys I q)
  | succ m ih =>
    intro s st hst G ⟨z, t, c, hS⟩
    refine codeAny_builtin F.entry_sum_loop ?_
    rw [Around.under_plainId F.plain_sum_loop _]
    show wpAny _ A.in1 (seqItems? (.ref S) >>= _) _ _ s
    refine wpAny_bind (wpAny_seqItems hS rfl ?_)
    show wpAny _ A.in1 (tryCatch (pyNext (.ref a)) _ >>= _) _ _ s
    refine wpAny_bind (wpAny_tryCatch (run_next (A := A.in1) hh hd (by simpa using haS) (by simpa using hcS) G (fun v s1 ys x H' hn rv I hcs ⟨t', c', h1⟩ yd next => ?_) fun s1 ys H' hn I hcs ⟨t', c', h1⟩ q => ?_))
    · obtain ⟨i, rfl⟩ := yd
      obtain ⟨u, rfl⟩ := rv
      rw [hS] at h1
      have e : z = sumV ys := by
        have := Option.some.inj h1
        simp only [smObj, Obj.mk.injEq, Data.seq.injEq, true_and, and_true] at this
        have h2 := this.1
        simp at h2
        exact h2.1
      subst e
      obtain ⟨k1, k2⟩ := hcs S (by simp)
      have hS1 : s1.heap.get? S = some (smObj (sumV ys) t c) := k1.trans hS
      have go : ∀ (h : Heap) (st' : Int), st' = 0 ∨ st' = 2 → (∀ b, b ≠ S → h.get? b = s1.heap.get? b) → (∃ c3, h.get? S = some (smObj (sumV ys + i) s1.toks c3)) → ∀ tk, codeAny (model X.prog X.w) A (.builtin "sum.loop" ⟨[.ref a, .ref S, rawInt st', rawInt 0], []⟩) R { s1 with heap := h, toks := tk } := fun h st' hst' oth ⟨c3, h3⟩ tk => by
        obtain ⟨n', e, G'⟩ := next { s1 with heap := h, toks := tk } ⟨rfl, I.bare, fun b o hb e => (oth b (fun z => hb (by simp [z]))).trans e, fun b hb => by
          have e : b = S := by simpa using hb
          rw [e]
          exact ⟨_, h3, fun v q => by cases q⟩⟩ rfl ⟨s1.toks, c3, by rw [sumV_snoc]; exact h3⟩ trivial
        cases e
        exact ih _ st' hst' G' ⟨_, _, c3, h3⟩
      have oth1 : ∀ (f : Obj → Obj) b, b ≠ S → (s1.heap.update S f).get? b = s1.heap.get? b := fun f b hb => Heap.get?_update_other _ _ (Ne.symm hb)
      rcases hst with rfl | rfl
      · show wpAny _ A.in1 (if (_ : Bool) = true then (mkInt (sumV ys + i) >>= _) else _) _ _ _
        split
        · refine wpAny_bind (wpAny_mkInt ?_)
          show wpAny _ A.in1 (updateSeq S (fun _ => #[.int (sumV ys + i) s1.toks]) >>= _) _ _ _
          refine wpAny_bind ?_
          exact wpAny_updateSeq hS1 rfl (wpAny_pure ⟨plainId_quiet F.plain_sum_loop _, go _ 0 (.inl rfl) (oth1 _) ⟨_, Heap.get?_update_self _ hS1 rfl⟩ _⟩)
        · refine wpAny_bind (wpAny_rule ?_)
          refine wpAny_bind (wpAny_attempt (wpAny_holding (wpAny_add_int ?_)))
          show wpAny _ A.in1 (updateSeq S (fun _ => #[.int (sumV ys + i) s1.toks]) >>= _) _ _ _
          refine wpAny_bind (wpAny_updateSeq hS1 rfl ?_)
          have hS2 := Heap.get?_update_self (Obj.mapSeq fun _ => #[Value.int (sumV ys + i) s1.toks]) hS1 rfl
          refine wpAny_bind (wpAny_letGo ?_)
          exact wpAny_bind (wpAny_updateSeq hS2 rfl (wpAny_pure ⟨plainId_quiet F.plain_sum_loop _, go _ 2 (.inr rfl) (fun b hb => (Heap.get?_update_other _ _ (Ne.symm hb)).trans (oth1 _ b hb)) ⟨_, Heap.get?_update_self _ hS2 rfl⟩ _⟩))
      · show wpAny _ A.in1 ((holding [Value.int i u] (binaryOp .Add (.int (sumV ys) t) (.int i u))).attempt >>= _) _ _ _
        refine wpAny_bind (wpAny_attempt (wpAny_holding (wpAny_add_int ?_)))
        show wpAny _ A.in1 (updateSeq S (fun _ => #[.int (sumV ys + i) s1.toks]) >>= _) _ _ _
        refine wpAny_bind (wpAny_updateSeq hS1 rfl ?_)
        have hS2 := Heap.get?_update_self (Obj.mapSeq fun _ => #[Value.int (sumV ys + i) s1.toks]) hS1 rfl
        refine wpAny_bind (wpAny_letGo ?_)
        exact wpAny_bind (wpAny_updateSeq hS2 rfl (wpAny_pure ⟨plainId_quiet F.plain_sum_loop _, go _ 2 (.inr rfl) (fun b hb => (Heap.get?_update_other _ _ (Ne.symm hb)).trans (oth1 _ b hb)) ⟨_, Heap.get?_update_self _ hS2 rfl⟩ _⟩))
    · rw [hS] at h1
      have e : z = sumV ys := by
        have := Option.some.inj h1
        simp only [smObj, Obj.mk.injEq, Data.seq.injEq, true_and, and_true] at this
        have h2 := this.1
        simp at h2
        exact h2.1
      subst e
      exact wpAny_pure (hR t s1 H' ys I q)
theorem call_sumG {A : Around} {u : Value} {s : Shared} {E : Value → Shared → Prop} {Q : Value → Shared → Prop} (hr : Room (k + 4) A) (hf : A.frames = some X.stack) (h : GReady X pins σ (k + 1) (fun _ => True) N IntY Qe u s)
    (hQ : ∀ t s' H' ys, Inv X pins σ H' s' → Qe ys H' → Q (.int (sumV ys) t) s') : wpAny (model X.prog X.w) A (call (.builtin "sum") [u]) Q E s := by
  obtain ⟨a, g, H0, rfl, hlt, hg, I0, run⟩ := h.run
  have hcl : cStatics < s.heap.objs.size := let ⟨_, hn, _⟩ := I0.nolimit; hn.lt
  refine call_function_tree F.kind_sum F.plain_sum F.entry_sum (F.args_sum1 _) ?_
  unfold Builtin.«sum»
  simp only [List.length_cons, List.length_nil]
  rw [if_neg (by decide)]
  refine wpAny_bind (wpAny_of_eq (show Builtin.Builtins.bindParams "sum" ["start"] 0 { } = pure [none] from rfl) ?_)
  refine wpAny_bind (wpAny_pyIter_gen hg ?_)
  refine wpAny_bind (wpAny_mkInt ?_)
  refine wpAny_bind (wpAny_pure ?_)
  simp only [List.forIn_cons, List.forIn_nil]
  refine wpAny_bind (wpAny_bind (wpAny_bind (wpAny_isInstance (T := "int") (b := false) (typeIs_int _ _ _) PyProof.Rows.sub_int_str ?_)))
  simp only [Bool.false_eq_true, if_false]
  refine wpAny_pure (wpAny_bind (wpAny_bind (wpAny_isInstance (T := "int") (b := false) (typeIs_int _ _ _) PySem.sub_int_bytes ?_)))
  simp only [Bool.false_eq_true, if_false]
  refine wpAny_pure (wpAny_bind (wpAny_bind (wpAny_isInstance (T := "int") (b := false) (typeIs_int _ _ _) PySem.sub_int_bytearray ?_)))
  simp only [Bool.false_eq_true, if_false]
  refine wpAny_pure (wpAny_pure ?_)
  refine wpAny_bind (wpAny_newObj_type ?_)
  have hS : (s.heap.push { cls := .type "list", data := .seq [Value.int 0 s.toks].toArray }).get? s.heap.objs.size = some (smObj 0 s.toks 0) := Heap.get?_push_size _ rfl
  refine wpAny_pure ⟨plainId_quiet F.plain_sum_loop _, code_sumG (X := X) (pins := pins) (σ := σ) (g := g) (N := N) (Qe := Qe) hr.hd (by have := hr.dp; omega) (Nat.ne_of_lt hlt) (Nat.ne_of_lt hcl) (fun t s' H' ys I q => hQ t s' H' ys I q) N _ 0 (.inl rfl)
    (run A.in1.in1 [s.heap.objs.size] (LM s.heap.objs.size) _ ((hr.in1).in1.mono (by omega)) hf (fun b hb => ?_) (fun b o e => Heap.get?_push_of_some _ e) rfl rfl ⟨_, _, hS⟩) ⟨_, _, _, hS⟩⟩
  have e : b = s.heap.objs.size := by simpa using hb
  subst e
  exact ⟨Nat.le_refl _, _, hS, fun v q => by cases q⟩
end
end GenX

set_option Elab.async false
set_option linter.all false
set_option maxRecDepth 100000
set_option maxHeartbeats 1000000
namespace Ev
open PySem L2 CmpX
/-! ### dict comprehensions; an exception may leave them -/
def dcL (vs : List Nat) (t : R → Env → Option Env) (tc : Env → Rs Bool) (fk fv : Env → Rs R) : List R → List (Key × Dt) → Env → Rs (List (Key × Dt))
  | [], acc, e => .ok acc e
  | r :: rs, acc, e => match t r e with
    | none => .stk
    | some e1 => match tc e1 with
      | .ok true e2 => match fk e2 with
        | .ok x e3 => match keyR x with
          | some k => match fv e3 with
            | .ok (.d d) e4 => if acc.length < sizeLine then dcL vs t tc fk fv rs (putD acc k d) (wipE vs e4) else .stk
            | .err c e' => .err c (wipE vs e')
            | _ => .stk
          | none => .stk
        | .err c e' => .err c (wipE vs e')
        | .stk => .stk
      | .ok false e2 => dcL vs t tc fk fv rs acc (wipE vs e2)
      | .err c e' => .err c (wipE vs e')
      | .stk => .stk
def dcN (vs : List Nat) (fi : Env → Rs (List R)) (t : R → Env → Option Env) (tc : Env → Rs Bool) (fk fv : Env → Rs R) : Env → Rs Ob := bnd fi fun rs e => match dcL vs t tc fk fv rs [] (wipE vs e) with
  | .ok acc e2 => .ok (.dic acc) (reE vs e e2)
  | .err c e2 => .err c (reE vs e e2)
  | .stk => .stk
def tOfW (C : Cf) (w : WX) (f : Env → Rs R) : TE := fun σ H Q => ∃ D o, tOf (C.gd D o) w f σ H Q
def ttOfW (C : Cf) (w : WX) (f : Env → Rs Bool) : TT := fun σ H Q => ∃ D o, ttOf (C.gd D o) w f σ H Q
def tlD (tk tv : TE) (D : Addr) (σ : L2.St) (H : Hp) (Nx : Hp → Prop) : Prop := tk σ H fun y H4 => tv σ H4 fun z H5 => ∃ kvs k, y = kV k ∧ H5 D = some (.dK kvs) ∧ kvs.length < sizeLine ∧ Nx (upd H5 D (.dK (putK kvs k z)))
section
variable {X : Cx} {C : Cf} {w : WX} {kx vx tg iter : Expr} {ifs : List Expr} {scope : Scope} {own : List (Str × Nat)} {pos : Pos} {is : List Nat} {fi : Env → Rs (List R)} {t : R → Env → Option Env} {tc : Env → Rs Bool} {fk fv : Env → Rs R}
theorem dc_t {vs : List Nat} (his : ∀ i ∈ is, i ∈ vs) : ∀ σ H Q, tNew C w (dcN vs fi t tc fk fv) σ H Q → tCm (.dK []) (iOf C w fi) (tgOfG C is t) (ttOfW C (wB w σ) tc) (tlD (tOfW C (wB w σ) fk) (tOfW C (wB w σ) fv)) vs σ H Q := fun σ H Q ⟨W, e, k, h⟩ => by
  refine pi_none (Q' := Q) k h fun J rs W1 e1 H1 x1 k1 it h1 D hD => ?_
  obtain ⟨kD, xD⟩ := k1.newRoot (.dK []) rk_dK hD
  have dW := k1.notnone hD
  have d0 : D ∉ C.W0 := fun z => dW (k1.sub D z)
  have h0 : Nw C.H0 D := by
    rcases kD.fresh D List.mem_cons_self with z | z
    · exact absurd z d0
    · exact z
  have da : D ∉ C.as := fun z => d0 (k1.has D z)
  have lD : Lone C (D :: W1) e1 σ D := ⟨List.mem_cons_self, d0, fun i oi g1 g2 => by
    obtain ⟨v, f1, a, f2, f3, _⟩ := k1.slot i _ g1
    rw [g2] at f1; cases f1; cases f2
    exact dW f3⟩
  refine ⟨fun i m H' => m = rs.length - i ∧ i ≤ rs.length ∧ ∃ W' e2 vD aD, Ext W1 H1 W' H' ∧ Ok C W' e2 (wipe σ vs) H' ∧ Lone C W' e2 (wipe σ vs) D ∧ H' D = some (.dK vD) ∧ DpK C.K (msk W' H') vD aD ∧
    pN C w σ W' H' Q (match dcL vs t tc fk fv (rs.drop i) aD e2 with
      | .ok acc e3 => .ok (.dic acc) (reE vs e1 e3)
      | .err c e3 => .err c (reE vs e1 e3)
      | .stk => .stk), ⟨rs.length, rfl, Nat.zero_le _, D :: W1, wipE vs e1, [], [], xD, kD.wip vs, ⟨List.mem_cons_self, d0, fun i oi g1 g2 => ?_⟩, upd_same, .nil, pN.ext h1 xD⟩, ?_⟩
  · obtain ⟨g1, z⟩ := wip_some g1
    rw [wipe_get z] at g2
    exact lD.2.2 i oi g1 g2
  rintro i m H2 ⟨rfl, hi, W2, e2, vD, aD, x2, k2, l2, hd2, f2, h2⟩
  by_cases hlt : i < rs.length
  · refine .inr ⟨it.go i W2 H2 x2 hlt, fun H' => ∃ W' e2 vD aD, Ext W1 H1 W' H' ∧ Ok C W' e2 (wipe σ vs) H' ∧ Lone C W' e2 (wipe σ vs) D ∧ H' D = some (.dK vD) ∧ DpK C.K (msk W' H') vD aD ∧
      pN C w σ W' H' Q (match dcL vs t tc fk fv (rs.drop (i + 1)) aD e2 with
        | .ok acc e3 => .ok (.dic acc) (reE vs e1 e3)
        | .err c e3 => .err c (reE vs e1 e3)
        | .stk => .stk), fun H' z => ⟨rs.length - (i + 1), by omega, rfl, hlt, z⟩, fun x H3 y => ?_⟩
    have kG := k2.guard l2 hd2 da
    obtain ⟨W3, x3, k3, hv⟩ := it.yld (C.gd D (.dK vD)) rfl rfl i rs[i] W2 e2 _ H2 x H3 x2 kG (List.getElem?_eq_getElem hlt) y
    rw [List.drop_eq_getElem_cons hlt] at h2
    simp only [dcL] at h2
    cases q4 : t rs[i] e2 with
    | none => rw [q4] at h2; exact h2.elim
    | some e4 =>
      rw [q4] at h2
      dsimp only at h2
      refine ⟨D, .dK vD, W3, e2, rs[i], e4, k3, hv, q4, fun σ5 W5 H5 x5 k5 b5 => ?_⟩
      have sw : wipe σ5 vs = wipe σ vs := by rw [wipe_but his b5, wipe_wipe]
      refine ⟨sw, D, .dK vD, W5, e4, k5, ?_⟩
      have next : ∀ {W6 : List Addr} {e6 : Env} {H6 : Hp}, Ext W5 H5 W6 H6 → Ok (C.gd D (.dK vD)) W6 e6 σ5 H6 → Ok C W6 (wipE vs e6) (wipe σ vs) H6 ∧ Lone C W6 (wipE vs e6) (wipe σ vs) D ∧ H6 D = some (.dK vD) ∧ DpK C.K (msk W6 H6) vD aD ∧ Ext W2 H2 W6 H6 := fun {W6 e6 H6} x6 k6 => by
        have xx : Ext W2 H2 W6 H6 := (x3.trans x5).trans x6
        obtain ⟨u1, u2⟩ := k6.unguard h0 d0 k.has
        refine ⟨sw ▸ u1.wip vs, ⟨u2.1, u2.2.1, fun i oi g1 g2 => ?_⟩, k6.keep D _ upd_same da ne_tbl_dK, DpK.sub xx f2, xx⟩
        obtain ⟨g1, z⟩ := wip_some g1
        rw [← sw, wipe_get z] at g2
        exact u2.2.2 i oi g1 g2
      have out : ∀ {c : Nat} {e6 : Env} {W6 : List Addr} {H6 : Hp}, Ext W5 H5 W6 H6 → pN C w σ W2 H2 Q (.err c (reE vs e1 (wipE vs e6))) → Wx (C.gd D (.dK vD)) (wB w σ) c e6 W6 σ5 H6 := fun {c e6 W6 H6} x6 h W7 H7 x7 k7 => by
        obtain ⟨n1, n2, n3, n4, n5⟩ := next (x6.trans x7) k7
        exact h W7 H7 n5 (Ok.unwip k1 (x2.trans n5) n1)
      cases q5 : tc e4 with
      | stk => rw [q5] at h2; exact h2.elim
      | err c e' => rw [q5] at h2; exact out Ext.refl h2
      | ok b e5 =>
        rw [q5] at h2
        try dsimp only at h2
        intro W6 H6 x6 k6
        cases b with
        | false =>
          obtain ⟨n1, n2, n3, n4, n5⟩ := next x6 k6
          exact iteF ⟨W6, wipE vs e5, vD, aD, x2.trans n5, n1, n2, n3, n4, pN.ext h2 n5⟩
        | true =>
          try dsimp only at h2
          refine iteT ⟨D, .dK vD, W6, e5, k6, ?_⟩
          cases q6 : fk e5 with
          | stk => rw [q6] at h2; exact h2.elim
          | err c e' => rw [q6] at h2; exact out x6 h2
          | ok r e6 =>
            rw [q6] at h2
            try dsimp only at h2
            cases qk : keyR r with
            | none => rw [qk] at h2; exact h2.elim
            | some kk =>
              rw [qk] at h2
              try dsimp only at h2
              intro vk W7 H7 x7 k7 hv7
              have ek := key_ok hv7 qk
              refine ⟨D, .dK vD, W7, e6, k7, ?_⟩
              cases q8 : fv e6 with
              | stk => rw [q8] at h2; exact h2.elim
              | err c e' => rw [q8] at h2; exact out (x6.trans x7) h2
              | ok r e8 =>
                rw [q8] at h2
                try dsimp only at h2
                cases r with
                | loc j => exact h2.elim
                | hnd j => exact h2.elim
                | clo j => exact h2.elim
                | clos j => exact h2.elim
                | scr j => exact h2.elim
                | d y =>
                  intro v W8 H8 x8 k8 hv8
                  obtain ⟨n1, n2, n3, n4, n5⟩ := next ((x6.trans x7).trans x8) k8
                  have hv8 : Fz C.K (msk W8 H8) v y := hv8
                  try dsimp only at h2
                  by_cases hz : aD.length < sizeLine
                  · rw [if_pos hz] at h2
                    obtain ⟨k9, x9⟩ := n1.lone (o := .dK (putK vD kk v)) n2 rk_dK (fun q z => by rw [n3] at z; cases z)
                    refine ⟨vD, kk, ek, n3, by rw [f2.length]; exact hz, W8, wipE vs e8, putK vD kk v, putD aD kk y, (x2.trans n5).trans x9, k9, n2, upd_same, DpK.sub x9 (DpK.put hv8 n4), pN.ext (pN.ext h2 n5) x9⟩
                  · rw [if_neg hz] at h2
                    exact h2.elim
  · have e0 : i = rs.length := by omega
    subst e0
    rw [List.drop_length] at h2
    exact .inl ⟨it.stop W2 H2 x2, h2 D W2 H2 Ext.refl (Ok.unwip k1 x2 k2) ⟨l2.1, l2.2.1, fun i oi g1 g2 => by
      rcases re_some g1 with ⟨_, r, z, _⟩ | ⟨z, g1⟩
      · cases z
      · exact l2.2.2 i oi g1 (by rw [wipe_get z]; exact g2)⟩ ⟨vD, hd2, f2⟩⟩
/-- a block's derivations; exceptions may leave it -/
def BlkD (X : Cx) (C : Cf) (w : WX) (scope : Scope) (tg : Expr) (ifs : List Expr) (kx vx : Expr) (is : List Nat) (t : R → Env → Option Env) (tc : Env → Rs Bool) (fk fv : Env → Rs R) : Prop :=
  ∀ (σ : L2.St) (s : Shared) (H : Hp) (A : Addr) (cl : List (Str × Addr)) (fp : List Addr) (xe : Value → Shared → Prop) (D : Addr) (o : HO), Ct (blkE X s H scope (compEnvC scope cl A X.env) fp xe) (C.gd D o) (wB w σ) →
    PG (blkE X s H scope (compEnvC scope cl A X.env) fp xe) tg (tgOf (C.gd D o) is t) ∧ PTs (blkE X s H scope (compEnvC scope cl A X.env) fp xe) ifs (ttOf (C.gd D o) (wB w σ) tc) ∧
    PE (blkE X s H scope (compEnvC scope cl A X.env) fp xe) kx (tOf (C.gd D o) (wB w σ) fk) ∧ PE (blkE X s H scope (compEnvC scope cl A X.env) fp xe) vx (tOf (C.gd D o) (wB w σ) fv)
theorem Ct.blkE (ct : Ct X C w) {σ : L2.St} {s : Shared} {H : Hp} {ce : PySem.Env} {fp : List Addr} {xe : Value → Shared → Prop} {D : Addr} {o : HO} (tk : Takes (CmpX.blkE X s H scope ce fp xe) (wB w σ)) : Ct (CmpX.blkE X s H scope ce fp xe) (C.gd D o) (wB w σ) :=
  { K := ct.K, un := ct.un, un65 := ct.un65, calm := ct.calm, nd := ct.nd, tk := tk }
theorem dc_core {pins : List (Addr × Obj)} {s : Shared} {σ : L2.St} {H : Hp} {Q : VK} {pos' : Pos} {use : Option (Value → Sem Unit)} {Qf : Value → Shared → Prop} (ct : Ct X C w) (hst : X.stack = X.env :: X.outer) (hf : X.env.frame = some X.env.locals) (I : Inv X pins σ H s) (ok : BlkOk X.N X.env.scope scope own) (hi : PI X tg iter (iOf C w fi)) (hb : BlkD X C w scope tg ifs kx vx is t tc fk fv)
    (his : ∀ i ∈ is, i ∈ own.map (·.2)) (hs : ∀ x, foldedSetIterable iter X.env x = pure x) (h : tNew C w (dcN (own.map (·.2)) fi t tc fk fv) σ H Q)
    (hRR : ∀ D A s' m H', Inv X pins σ H' s' → Q (.ref D) H' → s'.heap.Ns A m → FpOk X pins H' A → compPost (model X.prog X.w) X.A X.xe use Qf (.ref D) A (.ok .next) s') :
    wpAny (model X.prog X.w) X.A (comprehension (.DictComp kx vx [⟨tg, iter, ifs, 0⟩] scope pos) scope X.env pos' newDict false (eval iter X.env) use) Qf X.xe s := by
  refine CmpX.core (w := w) (e := .DictComp kx vx [⟨tg, iter, ifs, 0⟩] scope pos) (ob := { cls := .type "dict", data := .dict #[] }) (o0 := .dK []) (Tl := fun D ce Qn E s => wpAny (model X.prog X.w) X.A (eval kx ce) (fun kv s4 => wpAny (model X.prog X.w) X.A (eval vx ce) (fun vv s5 => wpAny (model X.prog X.w) X.A (dictSet D kv vv) (fun _ s6 => Qn s6) E s5) E s4) E s)
    (g := tgOfG C is t) (tt := ttOfW C (wB w σ) tc) (tl := tlD (tOfW C (wB w σ) fk) (tOfW C (wB w σ) fv)) ct.tk hst hf ct.calm ct.nd I hi ok rfl (fun Q E s h => wpAny_newObj_type h) (fun H s I => I.laid (t' := s.toks) (fun b o z => Heap.get?_push_of_some _ z) (Nat.le_refl _) (dk_empty s.heap I.big)) rfl
    (fun ce it D R J turn n s h => compLoop_anyD J turn n h) (fun ce it D R s h1 h2 => codeAny_compStart_dict h1 h2) (fun s H A cl fp xe tk => ⟨?_, ?_, ?_⟩) hs (dc_t his σ H Q h) hRR
  · exact ⟨fun pins s' σ' H' v u Q I r ⟨D, o, q⟩ => (hb σ s H A cl fp xe D o (ct.blkE tk)).1.run pins s' σ' H' v u Q I r q⟩
  · exact ⟨fun pins s' σ' H' Q I ⟨D, o, q⟩ => (hb σ s H A cl fp xe D o (ct.blkE tk)).2.1.run pins s' σ' H' Q I q⟩
  · intro D pins' σ' H' s' Nx Qn I ⟨D1, o1, q⟩ fin
    refine thn ((hb σ s H A cl fp xe D1 o1 (ct.blkE tk)).2.2.1.run pins' s' σ' H' _ I q) fun z s10 ⟨yk, H10, I10, r10, D2, o2, q10⟩ => ?_
    refine thn ((hb σ s H A cl fp xe D2 o2 (ct.blkE tk)).2.2.2.run pins' s10 σ' H10 _ I10 q10) fun z2 s11 ⟨yv, H11, I11, r11, kvs, k, ek, hD11, hz11, nx⟩ => ?_
    subst ek
    exact d_dictSet (X := blkE X s H scope (compEnvC scope cl A X.env) fp xe) I11 hD11 hz11 r10 r11 fun s12 I12 => fin _ _ I12 nx
/-- name = {..} on one line -/
theorem es_dcN {i : Nat} {y : Str} {py spos : Pos} (ct : Ct X C w) (ok : BlkOk X.N X.env.scope scope own) (hi : PI X tg iter (iOf C w fi)) (hb : BlkD X C w scope tg ifs kx vx is t tc fk fv) (his : ∀ i ∈ is, i ∈ own.map (·.2) := by decide) (hst : X.stack = X.env :: X.outer := by rfl) (hf : X.env.frame = some X.env.locals := by rfl)
    (hy : X.N[i]? = some y := by rfl) (hyl : X.env.scope.names.lookup y = some .local := by rfl) (hsw : swapsWith (.DictComp kx vx [⟨tg, iter, ifs, 0⟩] scope pos) (some (.Name y py)) spos.line X.env = pure true := by rfl) (hs : ∀ x, foldedSetIterable iter X.env x = pure x := by intro _; rfl) :
    PS X (.Assign [.Name y py] (.DictComp kx vx [⟨tg, iter, ifs, 0⟩] scope pos) spos) (tsOf C w (anS i (dcN (own.map (·.2)) fi t tc fk fv))) := by
  refine PS.imp (t := tAsg (tNew C w (dcN (own.map (·.2)) fi t tc fk fv)) (gName i)) ⟨fun pins s σ H D I h => ?_⟩ fun D σ H ⟨W, e, k, h⟩ => tNew_bS k h fun p o W1 e1 H1 x1 k1 hl ho h1 => by
    split at h1
    · rename_i hi
      exact h1 _ _ _ Ext.refl (k1.setOwn hl.1 hl.2.1 hl.2.2 ho (by rw [k1.len]; exact hi))
    · exact h1.elim
  rw [exec_Assign_Name_used _ _ _ _ hsw]
  refine wpAny_bind (wpAny_standAt (wpAny_bind ?_))
  show wpAny _ X.A (do let _ ← comprehension (.DictComp kx vx [⟨tg, iter, ifs, 0⟩] scope pos) scope X.env (firstIterPos [⟨tg, iter, ifs, 0⟩] pos) newDict false (eval iter X.env) (some (assign (.Name y py) X.env))) _ _ s
  have h : tNew C w (dcN (own.map (·.2)) fi t tc fk fv) σ H (fun x H1 => gName i x σ H1 D.nx) := h
  refine wpAny_bind (thn (dc_core (Qf := fun _ s' => SP X pins D .next s') ct hst hf I ok hi hb his hs h fun L A s' m H' I' q hn f => ?_) fun _ s' hq => wpAny_pure (wpAny_pure hq))
  show wpAny _ _ (assign (.Name y py) X.env (.ref L)) _ _ _
  refine wpAny_assign_Name (store_ok2 (v := V.ref L) I' ct.nd hy (.inl hyl) rfl (fun s2 I2 ⟨a, sb, ha⟩ => ?_) (.inr hyl))
  obtain ⟨f0, f1, f2, f3, f4, f5⟩ := f
  have haC : A ≠ a := by
    rcases ha with z | z
    · rw [z]; exact f1
    · exact fun e => f4 y a z e.symm
  refine ⟨m, hn.sameBut sb haC, fun h3 sb3 => ?_⟩
  exact ⟨_, H', I2.turned (t' := s2.toks) (fun b o hb e => (sb3.2 b hb).trans e) f0 f1 f3 f4 f5, q⟩
end
end Ev

set_option Elab.async false
set_option linter.all false
set_option maxRecDepth 100000
set_option maxHeartbeats 1000000
/-! ### sorted(..) of data -/
namespace Ev
open PySem L2 PySem.W PyProof.Rows
abbrev srtD (ds : List Dt) : List Dt := ds.mergeSort (dataLe false (id : Dt → Dt))
def tupB : Dt → Bool
  | .tuple (_ :: _) => true
  | _ => false
def atomB : Dt → Bool
  | .none => false
  | .tuple _ => false
  | _ => true
def srtB (ds : List Dt) : Bool := ds.all (fun d => ds.all fun d' => alike d d') && (ds.all tupB || ds.all atomB) && ds.all (fun d => decide (d.depth ≤ 50)) && decide (ds.length ≤ sizeLine)
theorem srtB_iff {ds : List Dt} (h : srtB ds = true) : AllAlike ds ∧ Sortable ds ∧ (∀ d ∈ ds, d.depth ≤ 50) ∧ ds.length ≤ sizeLine := by
  unfold srtB at h
  simp only [Bool.and_eq_true, Bool.or_eq_true, List.all_eq_true, decide_eq_true_eq] at h
  obtain ⟨⟨⟨h1, h2⟩, h3⟩, h4⟩ := h
  refine ⟨fun d hd d' hd' => h1 d hd d' hd', ?_, h3, h4⟩
  rcases h2 with h2 | h2
  · refine .inl fun d hd => ?_
    have := h2 d hd
    unfold tupB at this
    split at this
    · exact ⟨_, _, rfl⟩
    · cases this
  · refine .inr fun d hd => ?_
    have := h2 d hd
    unfold atomB at this
    split at this
    · cases this
    · cases this
    · rename_i n1 n2
      exact ⟨fun z => n1 z, fun xs z => n2 xs z⟩
theorem each_reads {h : Heap} : ∀ {vs : List Value} {ds : List Dt} {as : List Addr}, ReadsAll h vs ds as → EachIs (fun v d => ∃ as, Reads h v d as) vs ds
  | [], [], _, .nil => .nil
  | _ :: _, _ :: _, _, .cons r t => .cons ⟨_, r⟩ (each_reads t)
theorem each_fz {K : PySem.W.Frag} {G : Hp} : ∀ {xs : List V} {us : List Value} {ds : List Dt}, Vals xs us → FzAll K G xs ds → EachIs (fun u d => ∃ x, RelV x u ∧ Fz K G x d) us ds
  | [], _, _, r, .nil => by cases r; exact .nil
  | _ :: _, _, _, r, .cons f t => by
    cases r with
    | cons r1 r2 => exact .cons ⟨_, r1, f⟩ (each_fz r2 t)
theorem fz_each {K : PySem.W.Frag} {G : Hp} : ∀ {us : List Value} {ds : List Dt}, EachIs (fun u d => ∃ x, RelV x u ∧ Fz K G x d) us ds → ∃ xs : List V, Vals xs us ∧ FzAll K G xs ds
  | [], [], .nil => ⟨[], .nil, .nil⟩
  | _ :: _, _ :: _, .cons ⟨x, r, f⟩ t => by
    obtain ⟨xs, h1, h2⟩ := fz_each t
    exact ⟨x :: xs, .cons r h1, .cons f h2⟩
section
variable {X : Cx} {pins : List (Addr × Obj)} {σ : L2.St} {H : Hp} {s : Shared}
/-- what sorting gives, as values -/
theorem sorts_of {A : Around} {xs : List V} {us : List Value} {ds : List Dt} {G : Hp} {h2 : Heap} (I : Inv X pins σ H s) (rv : Vals xs us) (f : FzAll X.K G xs ds) (sb : Sub G H) (hb : srtB ds = true) (hu : A.units + 60 < cLine) (kp : ∀ b o, s.heap.get? b = some o → h2.get? b = some o) :
    SortsAt X.prog X.w A { s with heap := h2 } (dataKind h2 ds) us ∧ ∃ zs : List V, Vals zs (sortVals (dataKind h2 ds) false us us) ∧ FzAll X.K G zs (srtD ds) ∧ zs.length = xs.length := by
  obtain ⟨h1, h3, h4, h5⟩ := srtB_iff hb
  have I2 : Inv X pins σ H { s with heap := h2 } := I.kept (t' := s.toks) kp
  obtain ⟨as, ra⟩ := Dp.readsAll I2 ds xs us (Fz.dpAll ds _ (Fz.subAll sb _ _ f)) rv
  have er := each_reads ra
  refine ⟨SortsAt.data (s := { s with heap := h2 }) er h1 h3 fun d hd => by have := h4 d hd; omega, ?_⟩
  have ko : KeyedOut false (ds.map id) us (sortVals (dataKind h2 ds) false us us) := by
    rw [List.map_id]
    exact ⟨h2, us, h1, rfl, er⟩
  have out := keyedOut_each (R := fun u d => ∃ x, RelV x u ∧ Fz X.K G x d) (id : Dt → Dt) ko (each_fz rv f)
  obtain ⟨zs, z1, z2⟩ := fz_each out
  refine ⟨zs, z1, z2, ?_⟩
  rw [z2.length, f.length, List.length_mergeSort]
def rSortedD (K : PySem.W.Frag) : List V → Hp → VK → Prop := fun vs H Q => ∃ (a : Addr) (xs : List V) (ds : List Dt) (G : Hp), vs = [V.ref a] ∧ SqL K H a xs ∧ FzAll K G xs ds ∧ Sub G H ∧ srtB ds = true ∧ ∀ zs p, FzAll K G zs (srtD ds) → H p = none → Q (.ref p) (upd H p (.lst zs))
theorem cr_sortedD (hu : X.A.units + 64 < cLine) : CallR X (.builtin "sorted") (rSortedD X.K) := by
  intro pins s σ H vs us Q I r h
  obtain ⟨a, xs, ds, G, rfl, hs, f, sb, hb, q⟩ := h
  obtain ⟨its, rv, hl, hz⟩ := I.list hs
  rw [Vals.ref1 r]
  obtain ⟨S, zs, z1, z2, z3⟩ := sorts_of (A := X.A.in1.in1) (h2 := sortingHeap (copyHeap s.heap its) (s.heap.objs.size + 1) its) I rv f sb hb (by show X.A.units + 1 + 1 + 60 < cLine; omega) (fun b o e => sorting_copy_old e)
  have hzi : its.length ≤ sizeLine := by rw [← rv.length]; exact hz
  refine sorted_vals (s := s) hl.isList S hzi ?_
  obtain ⟨ep, he⟩ := sortedAll_at s.heap its (sortVals (dataKind (sortingHeap (copyHeap s.heap its) (s.heap.objs.size + 1) its) ds) false its its).toArray
  exact ⟨.ref _, upd H (s.heap.objs.size + 1) (.lst zs), I.laid (t' := s.toks) (fun _ _ => sortedAll_old) (Nat.le_succ _) ⟨by rw [z3]; exact hz, _, ep, by simpa using z1, he⟩, rfl, q zs _ z2 (I.hok.fresh (Nat.le_succ _))⟩
end
end Ev
namespace GenX
open PySem PySem.Spec PyProof.Rows L2 GenW PySem.W
section
variable {X : Cx} {pins : List (Addr × Obj)} {σ : L2.St} {Go : V → Prop} {N k : Nat} {Yd : List V → V → Hp → Prop} {Qe : List V → Hp → Prop}
theorem call_sortedG {A : Around} {u : Value} {s : Shared} {E : Value → Shared → Prop} {Q : Value → Shared → Prop} (hr : Room (k + 6) A) (hf : A.frames = some X.stack) (hN : N ≤ sizeLine) (hgo : ∀ x, Go x) (h : GReady X pins σ (k + 1) Go N Yd Qe u s)
    (hQ : ∀ ys s1 H1, Inv X pins σ H1 s1 → Qe ys H1 → ∃ ds G, Ev.FzAll X.K G ys ds ∧ Ev.Sub G H1 ∧ Ev.srtB ds = true ∧ ∀ zs l s', H1 l = none → Inv X pins σ (upd H1 l (.lst zs)) s' → Ev.FzAll X.K G zs (Ev.srtD ds) → Q (.ref l) s') :
    wpAny (model X.prog X.w) A (call (.builtin "sorted") [u]) Q E s := by
  refine call_function_entry_kw kind_sorted plain_sorted entry_sorted (args_sorted1 _) ?_
  unfold Builtin.«sorted»
  refine wpAny_bind (m := checkCount "sorted" 1 1 _) (wpAny_pure ?_)
  refine wpAny_bind (collectG (X := X) (A := A.in1) (k := k) (hr.in1.mono (by omega)) hf hN hgo h fun ys vs s1 H1 I1 rv hle q => ?_)
  have hzv : vs.length ≤ sizeLine := by rw [← rv.length]; omega
  obtain ⟨ds, G, f, sb, hb, fin⟩ := hQ ys s1 H1 I1 q
  refine wpAny_bind (wpAny_newList ?_ hzv)
  have hoL : (s1.heap.push (seqObj "list" vs.toArray 0)).get? s1.heap.objs.size = some (seqObj "list" vs.toArray 0) := Heap.get?_push_size _ rfl
  have ne : ∀ b o, s1.heap.get? b = some o → b ≠ s1.heap.objs.size := fun b o e => Nat.ne_of_lt (Heap.lt_size e)
  obtain ⟨S, zs, z1, z2, z3⟩ := Ev.sorts_of (A := A.in1.in1) (h2 := sortingHeap (s1.heap.push (seqObj "list" vs.toArray 0)) s1.heap.objs.size vs) I1 rv f sb hb (by have := hr.un; show A.units + 1 + 1 + 60 < cLine; omega) (fun b o e => sortingHeap_old (ne b o e) (Heap.get?_push_of_some _ e))
  show wpAny _ _ _ _ _ { s1 with heap := s1.heap.push (seqObj "list" vs.toArray 0) }
  refine wpAny_bind (wpAny_holding (wpAny_call_entry_kw slot_list_sort ⟨_, hoL, rfl⟩ entry_list_sort ?body (args_list_sort _)))
  case body =>
    refine list_sort_vals (s := { s1 with heap := s1.heap.push (seqObj "list" vs.toArray 0) }) hoL S hzv ?_
    refine ⟨_, rfl, wpAny_pure ⟨_, rfl, ?_⟩⟩
    obtain ⟨ep, he⟩ := sortedHeap_at (out := (sortVals (dataKind (sortingHeap (s1.heap.push (seqObj "list" vs.toArray 0)) s1.heap.objs.size vs) ds) false vs vs).toArray) hoL
    refine fin zs _ _ (I1.hok.fresh (Nat.le_refl _)) (I1.laid (t' := s1.toks) (fun b o e => ?_) (Nat.le_refl _) ⟨by rw [z3]; omega, _, ep, by simpa using z1, he⟩) z2
    rw [sortedHeap_old (ne b o e) (by rw [Heap.size_push]; exact Nat.lt_succ_of_lt (Heap.lt_size e))]
    exact Heap.get?_push_of_some _ e
theorem pe_sortedG {e : Expr} {t : (V → Prop) → (List V → V → Hp → Prop) → (List V → Hp → Prop) → L2.St → Hp → Prop} {p pos : Pos} (m : GMk X e k t) (hr : Room (k + 6) X.A) (hg : Gl X "sorted" := by rfl) (hm : X.mg "sorted" = none := by rfl) (hb : bootBuiltins "sorted" = some (.builtin "sorted") := by rfl) (he : starEach [e] X.env = (false, eval e X.env) :: starEach [] X.env := by rfl) :
    PE X (.Call (.Name "sorted" p) [e] [] pos) (fun σ H Q => t (fun _ => True) (fun _ _ _ => True) (fun ys H' => ∃ ds G, Ev.FzAll X.K G ys ds ∧ Ev.Sub G H' ∧ Ev.srtB ds = true ∧ ∀ zs l, H' l = none → Ev.FzAll X.K G zs (Ev.srtD ds) → Q (.ref l) (upd H' l (.lst zs))) σ H) := by
  refine ⟨fun pins s σ H Q I h => ?_⟩
  refine wpAny_Call_Name_kw (ld_blt I hg hm hb ?_)
  refine PyProof.Rows.callWith_builtin1 ?_ he (by rfl)
  rw [he]
  show wpAny _ _ (spliced ((false, eval e X.env) :: backTo pos (starEach [] X.env))) _ _ s
  refine Calls.spliced_cons (m pins s σ H _ _ _ _ I h fun N u s' hN hG => Calls.spliced_nil ?_)
  exact call_sortedG (k := k) hr I.ok.frames hN (fun _ => trivial) hG fun ys s1 H1 I1 ⟨ds, G, f, sb, hb, q⟩ => ⟨ds, G, f, sb, hb, fun zs l s' hl I' z => ⟨.ref l, _, I', rfl, q zs l hl z⟩⟩
theorem pe_sumG {e : Expr} {t : (V → Prop) → (List V → V → Hp → Prop) → (List V → Hp → Prop) → L2.St → Hp → Prop} {p pos : Pos} (m : GMk X e k t) (hr : Room (k + 6) X.A) (hg : Gl X "sum" := by rfl) (hm : X.mg "sum" = none := by rfl) (hb : bootBuiltins "sum" = some (.builtin "sum") := by rfl) (he : starEach [e] X.env = (false, eval e X.env) :: starEach [] X.env := by rfl) :
    PE X (.Call (.Name "sum" p) [e] [] pos) (fun σ H Q => t (fun _ => True) IntY (fun ys H' => Q (.int (sumV ys)) H') σ H) := by
  refine ⟨fun pins s σ H Q I h => ?_⟩
  refine wpAny_Call_Name_kw (ld_blt I hg hm hb ?_)
  refine PyProof.Rows.callWith_builtin1 ?_ he (by rfl)
  rw [he]
  show wpAny _ _ (spliced ((false, eval e X.env) :: backTo pos (starEach [] X.env))) _ _ s
  refine Calls.spliced_cons (m pins s σ H _ _ _ _ I h fun N u s' hN hG => Calls.spliced_nil ?_)
  exact call_sumG (k := k) (hr.mono (by omega)) I.ok.frames hG fun t s' H' ys I' q => ⟨.int _, H', I', ⟨_, rfl⟩, q⟩
end
end GenX

set_option Elab.async false
set_option linter.all false
set_option maxRecDepth 100000
namespace Ev
open PySem L2
/-! ### all items of a generator expression, then fin -/
def colGx (vs : List Nat) (fi : Env → Rs (List R)) (t : R → Env → Option Env) (tc : Env → Rs Bool) (fe : Env → Rs R) (fin : List Dt → Env → Rs R) : Env → Rs R := bnd fi fun rs e => match lcL vs t tc fe rs [] (wipE vs e) with
  | .ok acc e2 => fin acc (reE vs e e2)
  | _ => .stk
section
variable {X : Cx} {C : Cf} {w : WX} {is : List Nat} {fi : Env → Rs (List R)} {t : R → Env → Option Env} {tc : Env → Rs Bool} {fe : Env → Rs R} {fin : List Dt → Env → Rs R}
theorem col_t {vs : List Nat} (his : ∀ i ∈ is, i ∈ vs) {P : V → Prop} (hP : ∀ e r e', fe e = .ok r e' → ∀ (C' : Cf) v W σ H, Vl C' W σ H v r → P v) : ∀ (σ : L2.St) (H : Hp) (Q : VK) (Qe : List V → Hp → Prop), (∀ ys W' e' ds H', Ok C W' e' σ H' → FzAll C.K (msk W' H') ys ds → pO C w σ W' H' Q (fin ds e') → Qe ys H') → tOf C w (colGx vs fi t tc fe fin) σ H Q →
    GenX.tGen C.T (iOf C w fi) (tgOf C is t) (ttOf C w0 tc) (tOf C w0 fe) vs (fun _ => True) (fun _ x _ => P x) Qe σ H := fun σ H Q Qe hQe ⟨W, e, k, h⟩ => by
  refine pi_noneO (Q' := Q) k h fun J rs W1 e1 H1 x1 k1 it h1 => ⟨k1.tabs, fun H2 n t2 => ?_⟩
  obtain ⟨k2, x2⟩ := k1.extN n t2
  replace h1 := pO.ext h1 x2
  refine ⟨sizeLine, fun i m ys H' => m = rs.length - i ∧ i ≤ rs.length ∧ ∃ W' e2 aD, Ext W1 H2 W' H' ∧ Ok C W' e2 (wipe σ vs) H' ∧ FzAll C.K (msk W' H') ys aD ∧
    pO C w σ W' H' Q (match lcL vs t tc fe (rs.drop i) aD e2 with
      | .ok acc e3 => fin acc (reE vs e1 e3)
      | _ => .stk), Nat.le_refl _, ⟨rs.length, rfl, Nat.zero_le _, W1, wipE vs e1, [], Ext.refl, k2.wip vs, .nil, h1⟩, ?_⟩
  rintro i m ys H3 ⟨rfl, hi, W3, e3, aD, x3, k3, f3, h3⟩
  by_cases hlt : i < rs.length
  · refine .inr ⟨it.go i W3 H3 (x2.trans x3) hlt, fun ys' H' => ∃ W' e2 aD', Ext W1 H2 W' H' ∧ Ok C W' e2 (wipe σ vs) H' ∧ FzAll C.K (msk W' H') ys' aD' ∧
      pO C w σ W' H' Q (match lcL vs t tc fe (rs.drop (i + 1)) aD' e2 with
        | .ok acc e3 => fin acc (reE vs e1 e3)
        | _ => .stk), fun ys' H' z => ⟨rs.length - (i + 1), by omega, rfl, hlt, z⟩, fun x H4 y => ?_⟩
    obtain ⟨W4, x4, k4, hv⟩ := it.yld C rfl rfl i rs[i] W3 e3 _ H3 x H4 (x2.trans x3) k3 (List.getElem?_eq_getElem hlt) y
    rw [List.drop_eq_getElem_cons hlt] at h3
    simp only [lcL] at h3
    cases q4 : t rs[i] e3 with
    | none => rw [q4] at h3; exact h3.elim
    | some e4 =>
      rw [q4] at h3
      dsimp only at h3
      refine ⟨W4, e3, rs[i], e4, k4, hv, q4, fun σ5 W5 H5 x5 k5 b5 => ?_⟩
      have sw : wipe σ5 vs = wipe σ vs := by rw [wipe_but his b5, wipe_wipe]
      refine ⟨sw, W5, e4, k5, ?_⟩
      have x45 : Ext W3 H3 W5 H5 := x4.trans x5
      cases q5 : tc e4 with
      | stk => rw [q5] at h3; exact h3.elim
      | err c e' => rw [q5] at h3; exact h3.elim
      | ok b e5 =>
        rw [q5] at h3
        try dsimp only at h3
        intro W6 H6 x6 k6
        cases b with
        | false => exact iteF ⟨W6, wipE vs e5, aD, x3.trans (x45.trans x6), sw ▸ k6.wip vs, Fz.subAll (x45.trans x6) _ _ f3, pO.ext h3 (x45.trans x6)⟩
        | true =>
          try dsimp only at h3
          refine iteT ⟨W6, e5, k6, ?_⟩
          cases q6 : fe e5 with
          | stk => rw [q6] at h3; exact h3.elim
          | err c e' => rw [q6] at h3; exact h3.elim
          | ok r e6 =>
            rw [q6] at h3
            try dsimp only at h3
            cases r with
            | loc j => exact h3.elim
            | hnd j => exact h3.elim
            | clo j => exact h3.elim
            | clos j => exact h3.elim
            | scr j => exact h3.elim
            | d y =>
              intro v W7 H7 x7 k7 hv7
              have hp := hP _ _ _ q6 _ _ _ _ _ hv7
              have hv7 : Fz C.K (msk W7 H7) v y := hv7
              have xx : Ext W3 H3 W7 H7 := x45.trans (x6.trans x7)
              try dsimp only at h3
              by_cases hz : aD.length < sizeLine
              · rw [if_pos hz] at h3
                exact ⟨by rw [f3.length]; exact hz, hp, fun _ => ⟨W7, wipE vs e6, aD ++ [y], x3.trans xx, sw ▸ k7.wip vs, (Fz.subAll xx _ _ f3).append (.cons hv7 .nil), pO.ext h3 xx⟩⟩
              · rw [if_neg hz] at h3
                exact h3.elim
  · have e0 : i = rs.length := by omega
    subst e0
    rw [List.drop_length] at h3
    exact .inl ⟨it.stop W3 H3 (x2.trans x3), hQe _ _ _ _ _ (Ok.unwip k2 x3 k3) f3 h3⟩
def intF (fe : Env → Rs R) : Env → Rs R := bnd fe fun r e => match r with
  | .d (.int i) => .ok (.d (.int i)) e
  | _ => .stk
theorem intF_imp : ∀ σ H Q, tOf C w (intF fe) σ H Q → tOf C w fe σ H Q := fun σ H Q ⟨W, e, k, h⟩ => by
  refine ⟨W, e, k, ?_⟩
  unfold intF bnd at h
  cases q : fe e with
  | stk => rw [q] at h; exact h
  | err c e' => rw [q] at h; exact h
  | ok r e' =>
    rw [q] at h
    dsimp only at h
    split at h
    · exact h
    · exact h.elim
theorem intF_ok {e e' : Env} {r : R} (h : intF fe e = .ok r e') : ∃ i, r = .d (.int i) := by
  unfold intF bnd at h
  split at h
  · dsimp only at h
    split at h
    · cases h; exact ⟨_, rfl⟩
    · cases h
  · cases h
  · cases h
def sumGx (vs : List Nat) (fi : Env → Rs (List R)) (t : R → Env → Option Env) (tc : Env → Rs Bool) (fe : Env → Rs R) : Env → Rs R := colGx vs fi t tc (intF fe) fun acc e => match intsOf acc with
  | some l => .ok (.d (.int l.sum)) e
  | none => .stk
def srtGx (vs : List Nat) (fi : Env → Rs (List R)) (t : R → Env → Option Env) (tc : Env → Rs Bool) (fe : Env → Rs R) : Env → Rs R := colGx vs fi t tc fe fun acc e => if srtB acc = true then .ok (.d (.list (srtD acc))) e else .stk
theorem sumV_ints (l : List Int) : GenX.sumV (l.map V.int) = l.sum := by
  unfold GenX.sumV
  rw [List.map_map]
  congr 1
  induction l with
  | nil => rfl
  | cons a l ih => simp [ih, GenX.intV]
end
section
variable {X : Cx} {C : Cf} {w : WX} {elt tg iter : Expr} {ifs : List Expr} {scope : Scope} {own : List (Str × Nat)} {p pos gpos : Pos} {is : List Nat} {fi : Env → Rs (List R)} {t : R → Env → Option Env} {tc : Env → Rs Bool} {fe : Env → Rs R} {k : Nat}
theorem GBk.toInt (hb : GBk X C scope k tg ifs elt is t tc fe) : GBk X C scope k tg ifs elt is t tc (intF fe) := fun A s H L code fp pn r ct => let ⟨h1, h2, h3⟩ := hb A s H L code fp pn r ct; ⟨h1, h2, PE.imp h3 intF_imp⟩
theorem ev_sumG (ct : Ct X C w) (lg : Lg X C) (hr : Room (k + 6) X.A) (ok : BlkOk X.N X.env.scope scope own) (gx : GenX.GScp scope) (hi : PI X tg iter (iOf C w fi)) (hb : GBk X C scope k tg ifs elt is t tc fe) (his : ∀ i ∈ is, i ∈ own.map (·.2) := by decide) (hg : Gl X "sum" := by rfl) (hm : X.mg "sum" = none := by rfl)
    (hbt : bootBuiltins "sum" = some (.builtin "sum") := by rfl) (hs : ∀ x, genFold iter X.env x = pure x := by intro _; rfl) (he : starEach [.GeneratorExp elt [⟨tg, iter, ifs, 0⟩] scope gpos] X.env = (false, eval (.GeneratorExp elt [⟨tg, iter, ifs, 0⟩] scope gpos) X.env) :: starEach [] X.env := by rfl) :
    PE X (.Call (.Name "sum" p) [.GeneratorExp elt [⟨tg, iter, ifs, 0⟩] scope gpos] [] pos) (tOf C w (sumGx (own.map (·.2)) fi t tc fe)) :=
  PE.imp (GenX.pe_sumG (GenX.GMk.imp (ev_gmk ct lg hr ok gx hi hb.toInt hs) fun _ _ _ _ _ z => z) hr hg hm hbt he) fun σ H Q h => by
    refine col_t (fe := intF fe) his (P := fun x => ∃ i, x = .int i) (fun e r e' q C' v W σ H hv => by
      obtain ⟨i, rfl⟩ := intF_ok q
      have hv : Fz C'.K (msk W H) v (.int i) := hv
      cases hv; exact ⟨i, rfl⟩) σ H Q _ (fun ys W' e' ds H' k' f q => ?_) h
    cases qi : intsOf ds with
    | none => rw [qi] at q; exact q.elim
    | some l =>
      rw [qi] at q
      rw [intsOf_ok f qi, sumV_ints]
      exact q _ _ _ Ext.refl k' (.int _)
theorem ev_srtG (ct : Ct X C w) (lg : Lg X C) (hr : Room (k + 6) X.A) (ok : BlkOk X.N X.env.scope scope own) (gx : GenX.GScp scope) (hi : PI X tg iter (iOf C w fi)) (hb : GBk X C scope k tg ifs elt is t tc fe) (his : ∀ i ∈ is, i ∈ own.map (·.2) := by decide) (hg : Gl X "sorted" := by rfl) (hm : X.mg "sorted" = none := by rfl)
    (hbt : bootBuiltins "sorted" = some (.builtin "sorted") := by rfl) (hs : ∀ x, genFold iter X.env x = pure x := by intro _; rfl) (he : starEach [.GeneratorExp elt [⟨tg, iter, ifs, 0⟩] scope gpos] X.env = (false, eval (.GeneratorExp elt [⟨tg, iter, ifs, 0⟩] scope gpos) X.env) :: starEach [] X.env := by rfl) :
    PE X (.Call (.Name "sorted" p) [.GeneratorExp elt [⟨tg, iter, ifs, 0⟩] scope gpos] [] pos) (tOf C w (srtGx (own.map (·.2)) fi t tc fe)) :=
  PE.imp (GenX.pe_sortedG (ev_gmk ct lg hr ok gx hi hb hs) hr hg hm hbt he) fun σ H Q h => by
    refine col_t his (P := fun _ => True) (fun _ _ _ _ _ _ _ _ _ _ => trivial) σ H Q _ (fun ys W' e' ds H' k' f q => ?_) h
    by_cases hb : srtB ds = true
    · rw [if_pos hb] at q
      refine ⟨ds, msk W' H', ct.K ▸ f, Sub.msk _ _, hb, fun zs l hl fz => ?_⟩
      obtain ⟨k2, x2, m2⟩ := k'.new (.lst zs) hl
      rw [← ct.K] at fz
      exact q _ _ _ x2 k2 (.lst m2 (Fz.subAll x2 _ _ fz))
    · rw [if_neg hb] at q
      exact q.elim
/-- sorted(xs), xs a list of data -/
def sortedG : List R → Env → Rs R := fun rs e => match rs with
  | [.d (.list ds)] => if srtB ds = true then .ok (.d (.list (srtD ds))) e else .stk
  | _ => .stk
theorem sorted_ok {K : PySem.W.Frag} (hK : C.K = K) : CaG C w (rSortedD K) sortedG := fun σ W e H vs rs Q k hv q => by
  unfold sortedG at q
  split at q
  · rename_i ds
    split at q
    · rename_i hb
      cases hv with
      | cons h1 t =>
        cases t
        have h1 : Fz C.K (msk W H) _ (.list ds) := h1
        cases h1 with
        | lst ha f =>
          refine ⟨_, _, ds, msk W H, rfl, .of (msk_some ha).2, hK ▸ f, Sub.msk _ _, hb, fun zs p fz hp => ?_⟩
          obtain ⟨k2, x2, m2⟩ := k.new (.lst zs) hp
          rw [← hK] at fz
          exact q _ _ _ x2 k2 (.lst m2 (Fz.subAll x2 _ _ fz))
    · exact q.elim
  · exact q.elim
/-- the keys of a slot's dict, which is let go -/
def dkF (i : Nat) : Env → Rs (List R) := fun e => match e.sl[i]? with
  | some (some (.own (.dic kvs))) => .ok (kvs.map fun kv => .d (keyD kv.1)) ⟨e.sl.set i none, e.hs⟩
  | _ => .stk
theorem it_keys {W : List Addr} {H : Hp} {a : Addr} {od : Obj} {vs : List (Key × V)} {kvs : List (Key × Dt)} (h : msk W H a = some (.frz od (.dK vs))) (f : FzAll C.K (msk W H) (vs.map fun kv => kV kv.1) (kvs.map fun kv => keyD kv.1)) : ItOk C (Itk a od vs) W H (kvs.map fun kv => .d (keyD kv.1)) where
  nl := nl_map kvs fun kv => keyD kv.1
  go := fun i W' H' x hi => ⟨(msk_some (x _ _ h ne_tbl_frz)).2, by have := f.length; simp only [List.length_map] at this hi; omega⟩
  yld := fun C' hC hcl i r W' e σ H' y H'' x k hr hy => by
    obtain ⟨rfl, kk, v, hv, rfl⟩ := hy
    rw [List.getElem?_map] at hr
    cases q : kvs[i]? with
    | none => rw [q] at hr; cases hr
    | some kv =>
      rw [q] at hr; cases hr
      obtain ⟨u, h1, h2⟩ := f.get (i := i) (d := keyD kv.1) (by rw [List.getElem?_map, q]; rfl)
      rw [List.getElem?_map, hv] at h1
      cases h1
      exact ⟨W', Ext.refl, k, by show Fz C'.K _ _ _; rw [hC]; exact Fz.sub x _ _ h2⟩
  stop := fun W' H' x => ⟨(msk_some (x _ _ h ne_tbl_frz)).2, by have := f.length; simp only [List.length_map] at this ⊢; omega⟩
theorem ei_dkF {i : Nat} {x : Str} (ct : Ct X C w) (hN : X.N[i]? = some x := by rfl) (hv : Vis X.env.scope x := by first | exact .inl rfl | exact .inr (.inl rfl) | exact .inr (.inr rfl)) (hd : (x == ("__debug__" : Str)) = false := by decide) (hcd : (x == ("__classdict__" : Str)) = false := by decide) :
    PI X tg (.Name x pos) (iOf C w (dkF i)) := ⟨fun pins s σ H Rr I ⟨W, e, k, h⟩ => by
  unfold dkF at h
  split at h
  · rename_i kvs hs
    obtain ⟨v, h1, a, rfl, h2, h3, vs, h4, h5⟩ := k.slot i _ hs
    obtain ⟨od, I1⟩ := I.lock (u := .dK vs) h4 True.intro
    have k1 := k.drop none (i := i) (fun z y => nomatch y)
    have lone : ∀ (j : Nat) (oj : Ob), (e.sl.set i none)[j]? = some (some (SV.own oj)) → σ[j]? ≠ some (some (V.ref a)) := fun j oj hj y => by
      rcases get_set hj with ⟨_, q⟩ | ⟨z, q⟩
      · cases q
      · exact z (k.dist j i _ _ _ q hs y h1)
    obtain ⟨k2, x2⟩ := k1.lone (o := .frz od (.dK vs)) ⟨h2, h3, lone⟩ ⟨fun _ z => (nomatch z), fun _ z => (nomatch z)⟩ (fun q z => by rw [h4] at z; cases z)
    obtain ⟨k3, x3⟩ := k2.freeze h3 lone
    have m3 : msk (rmv a W) (upd H a (.frz od (.dK vs))) a = some (.frz od (.dK vs)) := by rw [msk_out (fun z => (mem_rmv.mp z).2 rfl), upd_same]
    refine (pi_keys (pe_var (i := i) hN hv hd hcd)).run pins s σ _ Rr I1 ⟨_, h1, a, od, rfl, .inl ⟨vs, upd_same, ?_⟩⟩
    exact h _ _ _ (x2.trans x3) k3 (it_keys m3 (Fz.subAll (x2.trans x3) _ _ (keys_fz h5)))
  · exact h.elim⟩
end
end Ev

set_option Elab.async false
set_option linter.all false
set_option maxRecDepth 100000
namespace Ev
open PySem L2
/-! ### from the head's facts -/
section
variable {K : PySem.W.Frag} {h : Heap} {mg : Str → Option Value} {x : Str} {st : Stmt}
theorem errC_mk (X : K.In h) (G : h.Ns mainGlobals mg) (g : (He.Fa.glo x).ok K = true) (e : (He.Fa.exc x).ok K = true) : ErrC K mg x (He.ga K x) := by
  obtain ⟨h1, h2, h3, h4⟩ := He.exc_ok e
  exact ⟨⟨_, _, _, _, PySem.F.excBase_ValueError, h1⟩, He.glo_ok X G g, h2, h3, h4⟩
theorem fun_mk (X : K.In h) (G : h.Ns mainGlobals mg) (g : (He.Fa.glo x).ok K = true) (d : ∃ fd, FunD K x x (defArgs st) (defBody st) (defScope st) [] [] (He.fAd K (x, none)) fd) : ∃ f fd, Fun K x x st f fd ∧ mg x = some (.ref f) := by
  obtain ⟨fd, F⟩ := d
  obtain ⟨oc, od, dV, kV, doc, pm, an, cdv, ct, osl, rfl, lk, hcd, hD, hK⟩ := F.ex
  rcases hD with ⟨_, rfl⟩ | ⟨z, _⟩
  · exact ⟨_, _, ⟨⟨oc, od, kV, doc, pm, an, cdv, ct, osl, rfl, lk, hcd⟩, F.kp⟩, He.glo_ok X G g⟩
  · exact absurd rfl z
theorem funC_mk (X : K.In h) (G : h.Ns mainGlobals mg) (g : (He.Fa.glo x).ok K = true) (d : ∃ fd, FunD K x x (defArgs st) (defBody st) (defScope st) [] [] (He.fAd K (x, none)) fd) : ∃ f fd, FunC K x x st f fd (He.cT K (x, none)).1 ∧ mg x = some (.ref f) := by
  obtain ⟨fd, F⟩ := d
  obtain ⟨oc, od, dV, kV, doc, pm, an, cdv, ct, osl, rfl, lk, hcd, hD, hK⟩ := F.ex
  obtain ⟨c, rfl⟩ := He.codeIn_ref hcd
  have e : He.codeOf K (x, none) = c := He.codeOf_eq lk rfl
  rcases hD with ⟨_, rfl⟩ | ⟨z, _⟩
  · have e' : (He.cT K (x, none)).1 = c := e
    rw [e']
    exact ⟨_, _, ⟨⟨oc, od, kV, doc, pm, an, ct, osl, rfl, lk, hcd⟩, F.kp⟩, He.glo_ok X G g⟩
  · exact absurd rfl z
end
end Ev
namespace Ev
open PySem L2
theorem hu_of {l : List (Addr × Str)} (nd : (l.map (·.1)).Nodup) {a : Addr} {q : Str} (h : (a, q) ∈ l) : ∀ p ∈ l, p.1 = a → p.2 = q := by
  induction l with
  | nil => cases h
  | cons b l ih =>
    rw [List.map_cons, List.nodup_cons] at nd
    intro p hp e
    rcases List.mem_cons.mp h with z | z
    · rcases List.mem_cons.mp hp with y | y
      · rw [y, ← z]
      · exfalso
        apply nd.1
        have w : b.1 = p.1 := by rw [← z, e]
        rw [w]
        exact List.mem_map_of_mem (f := (·.1)) y
    · rcases List.mem_cons.mp hp with y | y
      · exfalso
        apply nd.1
        rw [← y, e]
        exact List.mem_map_of_mem (f := (·.1)) z
      · exact ih nd.2 z p y e
theorem funL_mk {K : PySem.W.Frag} {h : Heap} {mg : Str → Option Value} {x : Str} {st : Stmt} (X : K.In h) (G : h.Ns mainGlobals mg) (g : (He.Fa.glo x).ok K = true) (d : ∃ fd, FunD K x x (defArgs st) (defBody st) (defScope st) [] [] (He.fAd K (x, none)) fd)
    (hb : ∀ (kV doc pm : Value) (an : Option Addr) (cdv ct : Value) (us : List Value), us.length = 1 → bindArgs (PySem.W.fnOf x x (defArgs st) (defBody st) (defScope st) .none kV doc pm an cdv ct) ⟨us, []⟩ = pure ((["script"] : List Str).zip us)) :
    ∃ f fd, FunC K x x st f fd (He.cT K (x, none)).1 ∧ mg x = some (.ref f) ∧ ∀ (s : Shared) (u : Value), BindsTo s fd ⟨[u], []⟩ [("script", u)] := by
  obtain ⟨fd, F⟩ := d
  have b := FunD.bindsA (ps := ["script"]) F hb
  obtain ⟨oc, od, dV, kV, doc, pm, an, cdv, ct, osl, rfl, lk, hcd, hD, hK⟩ := F.ex
  obtain ⟨c, rfl⟩ := He.codeIn_ref hcd
  have e : (He.cT K (x, none)).1 = c := He.codeOf_eq lk rfl
  rcases hD with ⟨_, rfl⟩ | ⟨z, _⟩
  · rw [e]
    exact ⟨_, _, ⟨⟨oc, od, kV, doc, pm, an, ct, osl, rfl, lk, hcd⟩, F.kp⟩, He.glo_ok X G g, fun s u => b s [u] rfl⟩
  · exact absurd rfl z
end Ev

set_option Elab.async false
set_option linter.all false
set_option maxRecDepth 100000
namespace Ev
open PySem L2
/-! ### list.count of texts -/
def eqS (k : Str) (v : Value) : Bool := match v with
  | .str x _ => x == k
  | _ => false
theorem eqS_at {A : Around} {s : Shared} {k : Str} {t : Tok} : ∀ {us : List Value} {ns : List Str}, Vals (ns.map V.str) us → ∀ y ∈ us, SeqAt.EqAt A s y (.str k t) (eqS k y)
  | _, [], .nil => fun y hy => by cases hy
  | _, n :: ns, .cons r h => fun y hy => by
    rcases List.mem_cons.mp hy with e | e
    · obtain ⟨u, ru⟩ := r
      rw [e, ru]
      exact SeqAt.EqAt.str_str n u k t
    · exact eqS_at h y e
theorem eqS_count {k : Str} : ∀ {us : List Value} {ns : List Str}, Vals (ns.map V.str) us → us.countP (eqS k) = ns.count k
  | _, [], .nil => rfl
  | _, n :: ns, .cons r h => by
    obtain ⟨u, ru⟩ := r
    have ih := eqS_count (k := k) h
    rw [List.countP_cons, List.count_cons, ih, ru]
    rfl
section
variable {X : Cx}
def rCntS (K : PySem.W.Frag) : V → List V → Hp → VK → Prop := fun x xs H Q => ∃ (p : Addr) (ns : List Str) (k : Str), x = .ref p ∧ xs = [.str k] ∧ SqL K H p (ns.map V.str) ∧ Q (.int (ns.count k : Nat)) H
theorem mt_lcountS : MtR X "list.count" (rCntS X.K) := by
  intro pins s σ H x xs v us Q I rx rxs h
  obtain ⟨p, ns, k, rfl, rfl, hs, q⟩ := h
  cases rx
  obtain ⟨u, rfl, ru⟩ := rxs.one
  obtain ⟨t, rfl⟩ := ru
  obtain ⟨its, rv, ⟨⟨cls, dd, data, sl⟩, n, ho, hc, hdn, hd⟩, hlen⟩ := I.list hs
  simp only at hc hd
  subst hc hd
  refine call_meets PySem.F.slot_list_count ⟨_, ho, rfl⟩ PySem.F.entry_list_count (PySem.F.args_list_count_2 _ _)
    (SeqAt.list_countAt p its.toArray n dd sl (.str k t) (eqS k)) ⟨ho, fun y hy => eqS_at rv y (by simpa using hy), ?_⟩
  refine ⟨.int (ns.count k : Nat), H, I.tok _, ⟨s.toks, ?_⟩, q⟩
  show Value.int ((its.toArray.toList.countP (eqS k) : Nat) : Int) s.toks = Value.int ((ns.count k : Nat) : Int) s.toks
  have ec : its.toArray.toList.countP (eqS k) = ns.count k := eqS_count rv
  rw [ec]
end
def cntG (x : R) (rs : List R) : Env → Rs R := fun e => match lof e x, rs with
  | some ds, [.d (.str k)] => match strsOf ds with
    | some l => .ok (.d (.int (l.count k : Nat))) e
    | none => .stk
  | _, _ => .stk
theorem cnt_ok {C : Cf} {w : WX} {K : PySem.W.Frag} (hK : C.K = K) : LmG C w (rCntS K) cntG := fun σ W e H v x vs rs Q k hv hvs q => by
  subst hK
  unfold cntG at q
  split at q
  · rename_i ds k' hl
    split at q
    · rename_i l hs
      obtain ⟨p, ys, rfl, s1, f1⟩ := lof_ok k hv hl
      cases strsOf_ok f1 hs
      obtain ⟨u, rfl, hu⟩ := hvs.one
      cases vl_str hu
      exact ⟨p, l, k', rfl, rfl, .of s1, q _ _ _ Ext.refl k (.int _)⟩
    · exact q.elim
  · exact q.elim
end Ev

set_option Elab.async false
set_option linter.all false
set_option maxRecDepth 100000
/-! ### mirrors, applied -/
namespace Ev
open PySem L2
section
variable {α β : Type} {f g fa fb fc : Env → Rs R} {c d : Env → Rs Bool} {s t : Env → Sr} {e : Env}
theorem a_nilA : nilA e = .ok [] e := rfl
theorem a_conA {h : Env → Rs (List R)} : conA f h e = bnd f (fun r => bnd h fun rs => cst (r :: rs)) e := rfl
theorem a_b2 {g2 : R → R → Env → Rs α} : b2 fa fb g2 e = bnd fa (fun x => bnd fb (g2 x)) e := rfl
theorem a_noP : noP e = .ok none e := rfl
theorem a_slV {fl fh : Env → Rs (Option Int)} : slV fa fl fh e = bnd fa (fun x => bnd fl fun l => bnd fh (slG x l)) e := rfl
theorem a_oT {b : Bool} : oT b e = .ok b e := rfl
theorem a_oV {b : Bool} : oV b e = .ok (.d (.bool b)) e := rfl
theorem a_yesT : yesT e = .ok true e := rfl
theorem a_andT : andT c d e = bnd c (fun b => if b = true then d else cst false) e := rfl
theorem a_orT : orT c d e = bnd c (fun b => if b = true then cst true else d) e := rfl
theorem a_notT : notT c e = bnd c (fun b => cst (!b)) e := rfl
theorem a_ifV {h k : Env → Rs α} : ifV c h k e = bnd c (fun b => if b = true then h else k) e := rfl
theorem a_orV : orV f g e = bnd f (fun x e => match truG x e with
    | some true => .ok x e
    | some false => g e
    | none => .stk) e := rfl
theorem a_andV : andV f g e = bnd f (fun x e => match truG x e with
    | some true => g e
    | some false => .ok x e
    | none => .stk) e := rfl
theorem a_notV : notV f e = bnd f (fun x e => match truG x e with
    | some b => .ok (.d (.bool (!b))) e
    | none => .stk) e := rfl
theorem a_xS : xS f e = bS f (fun _ => .nx) e := rfl
theorem a_rtS : rtS f e = bS f (fun r e => match r with
    | .loc _ => .stk
    | r => .ret r e) e := rfl
theorem a_ifS : ifS c s t e = bS c (fun b => if b = true then s else t) e := rfl
theorem a_asS {tg : R → Env → Option Env} : asS f tg e = bS f (fun r e => match tg r e with
    | some e' => .nx e'
    | none => .stk) e := rfl
theorem a_anS {i : Nat} {fo : Env → Rs Ob} : anS i fo e = bS fo (fun o e => if i < e.sl.length then .nx ⟨e.sl.set i (some (.own o)), e.hs⟩ else .stk) e := rfl
theorem a_skS : skS e = .nx e := rfl
theorem a_raS {n : Nat} : raS n e = .err n e := rfl
theorem a_frS {fi : Env → Rs (List R)} {tg : R → Env → Option Env} : frS fi tg s e = bS fi (fun rs => forL tg s rs) e := rfl
theorem a_frz {fo : Env → Rs Ob} : frz fo e = bnd fo (fun o e => match o with
    | .lst ds => .ok (.d (.list ds)) e
    | _ => .stk) e := rfl
theorem a_m1 {g1 : Str → R → Env → Rs R} : m1 fa fb g1 e = bnd fa (fun x e => match x with
    | .d (.str s) => bnd fb (g1 s) e
    | _ => .stk) e := rfl
theorem a_lmA {fs : Env → Rs (List R)} {g1 : R → List R → Env → Rs R} : lmA fa fs g1 e = bnd fa (fun x e => match lof e x with
    | some _ => bnd fs (g1 x) e
    | none => .stk) e := rfl
theorem a_stS {fo fi fv : Env → Rs R} : stS fv fo fi e = bS fv (fun v => bS fo fun x => bS fi fun y => setG x y v) e := rfl
theorem a_onN {fo : Env → Rs Ob} {g1 : Ob → Env → Rs R} : onN fo g1 e = bnd fo g1 e := rfl
theorem a_rtO {b : Bool} {fo : Env → Rs Ob} : rtO b fo e = bS fo (fun o e => .rto b o e) e := rfl
theorem a_lcN {vs : List Nat} {fi : Env → Rs (List R)} {tg : R → Env → Option Env} {tc : Env → Rs Bool} : lcN vs fi tg tc f e = bnd fi (fun rs e => match lcL vs tg tc f rs [] (wipE vs e) with
    | .ok acc e2 => .ok (.lst acc) (reE vs e e2)
    | _ => .stk) e := rfl
theorem a_tupGx {vs : List Nat} {fi : Env → Rs (List R)} {tg : R → Env → Option Env} {tc : Env → Rs Bool} : tupGx vs fi tg tc f e = bnd fi (fun rs e => match lcL vs tg tc f rs [] (wipE vs e) with
    | .ok acc e2 => .ok (.d (.tuple acc)) (reE vs e e2)
    | _ => .stk) e := rfl
theorem a_colGx {vs : List Nat} {fi : Env → Rs (List R)} {tg : R → Env → Option Env} {tc : Env → Rs Bool} {fin : List Dt → Env → Rs R} : colGx vs fi tg tc f fin e = bnd fi (fun rs e => match lcL vs tg tc f rs [] (wipE vs e) with
    | .ok acc e2 => fin acc (reE vs e e2)
    | _ => .stk) e := rfl
theorem a_anyGx {stop : Bool} {vs : List Nat} {fi : Env → Rs (List R)} {tg : R → Env → Option Env} {tc : Env → Rs Bool} : anyGx stop vs fi tg tc f e = bnd fi (fun rs e => if rs.length ≤ sizeLine then match anL stop vs tg tc f rs (wipE vs e) with
    | .ok b e2 => .ok (.d (.bool b)) (reE vs e e2)
    | _ => .stk
  else .stk) e := rfl
theorem a_prS {i j : Nat} {fs : Env → Rs (List R)} : prS i j fs e = bS fs (fun rs e => match rs with
  | [x, y] => match setR i x e with
    | some e1 => match setR j y e1 with
      | some e2 => .nx e2
      | none => .stk
    | none => .stk
  | _ => .stk) e := rfl
theorem a_ch3 {fc : Env → Rs R} {g1 g2 : R → R → Env → Option Bool} {o : Bool → Env → Rs α} : ch3 fa fb fc g1 g2 o e = bnd fa (fun x => bnd fb fun y e => match g1 x y e with
  | some true => bnd fc (fun z e' => match g2 y z e' with
    | some b => o b e'
    | none => .stk) e
  | some false => o false e
  | none => .stk) e := rfl
theorem a_rdS {i : Nat} {fo : Env → Rs Ob} : rdS i fo s e = bS fo (fun o e => if i < e.sl.length then lpS s .nx ⟨e.sl.set i (some (.own o)), e.hs⟩ else .stk) e := rfl
end
theorem b2_of {α : Type} {fa fb : Env → Rs R} {g : R → R → Env → Rs α} {e e1 e2 : Env} {x y : R} (h1 : fa e = .ok x e1) (h2 : fb e1 = .ok y e2) : b2 fa fb g e = g x y e2 := by
  unfold b2 bnd
  rw [h1]
  dsimp only
  rw [h2]
theorem m1_of {fa fb : Env → Rs R} {g : Str → R → Env → Rs R} {e e1 e2 : Env} {s : Str} {y : R} (h1 : fa e = .ok (.d (.str s)) e1) (h2 : fb e1 = .ok y e2) : m1 fa fb g e = g s y e2 := by
  unfold m1 bnd
  rw [h1]
  dsimp only
  rw [h2]
theorem asS_of {f : Env → Rs R} {t : R → Env → Option Env} {e e1 e2 : Env} {x : R} (h1 : f e = .ok x e1) (h2 : t x e1 = some e2) : asS f t e = .nx e2 := by
  unfold asS bS
  rw [h1]
  dsimp only
  rw [h2]
theorem sqS_of {s t : Env → Sr} {e e1 : Env} {r : Sr} (h1 : s e = .nx e1) (h2 : t e1 = r) : sqS s t e = r := by
  unfold sqS
  rw [h1]
  exact h2
theorem sqS_ret {s t : Env → Sr} {e e1 : Env} {x : R} (h1 : s e = .ret x e1) : sqS s t e = .ret x e1 := by
  unfold sqS
  rw [h1]
theorem sqS_err {s t : Env → Sr} {e e1 : Env} {c : Nat} (h1 : s e = .err c e1) : sqS s t e = .err c e1 := by
  unfold sqS
  rw [h1]
theorem mOf_ret {n : Nat} {f : Env → Sr} {rs : List R} {hs : List Ob} {x : Dt} {e : Env} (h : f (inE n rs hs) = .ret (.d x) e) : mOf n f rs hs = .ok (.d x) ⟨[], e.hs⟩ := by
  unfold mOf
  rw [h]
theorem mOf_err {n : Nat} {f : Env → Sr} {rs : List R} {hs : List Ob} {c : Nat} {e : Env} (h : f (inE n rs hs) = .err c e) : mOf n f rs hs = .err c ⟨[], e.hs⟩ := by
  unfold mOf
  rw [h]
theorem ifS_T {c : Env → Rs Bool} {s t : Env → Sr} {e e1 : Env} {r : Sr} (h1 : c e = .ok true e1) (h2 : s e1 = r) : ifS c s t e = r := by
  unfold ifS bS
  rw [h1]
  exact h2
theorem ifS_F {c : Env → Rs Bool} {s t : Env → Sr} {e e1 : Env} {r : Sr} (h1 : c e = .ok false e1) (h2 : t e1 = r) : ifS c s t e = r := by
  unfold ifS bS
  rw [h1]
  exact h2
theorem bnd_of {α β : Type} {f : Env → Rs α} {g : α → Env → Rs β} {e e1 : Env} {x : α} (h1 : f e = .ok x e1) : bnd f g e = g x e1 := by
  unfold bnd
  rw [h1]
theorem rtS_of {f : Env → Rs R} {e e1 : Env} {x : Dt} (h1 : f e = .ok (.d x) e1) : rtS f e = .ret (.d x) e1 := by
  unfold rtS bS
  rw [h1]
theorem frS_of {fi : Env → Rs (List R)} {t : R → Env → Option Env} {f : Env → Sr} {e e1 : Env} {rs : List R} (h1 : fi e = .ok rs e1) : frS fi t f e = forL t f rs e1 := by
  unfold frS bS
  rw [h1]
/-- a loop over known items: Q tells the environment by a state -/
theorem forL_gen {α σ : Type} {t : R → Env → Option Env} {f : Env → Sr} (mk : α → R) (Q : σ → Env → Prop) (step : σ → α → σ) : ∀ (L : List α), (∀ s e, ∀ x ∈ L, Q s e → ∃ e1, t (mk x) e = some e1 ∧ ∃ e2, f e1 = .nx e2 ∧ Q (step s x) e2) →
    ∀ s e, Q s e → ∃ e', forL t f (L.map mk) e = .nx e' ∧ Q (L.foldl step s) e'
  | [], _, s, e, h => ⟨e, rfl, h⟩
  | x :: L, hs, s, e, h => by
    obtain ⟨e1, h1, e2, h2, h3⟩ := hs s e x List.mem_cons_self h
    obtain ⟨e', h4, h5⟩ := forL_gen mk Q step L (fun s e y hy => hs s e y (List.mem_cons_of_mem _ hy)) _ _ h3
    refine ⟨e', ?_, h5⟩
    rw [List.map_cons]
    unfold forL
    rw [h1]
    dsimp only
    unfold lpS
    rw [h2]
    exact h4
/-- .. Q by the turn, too -/
theorem forL_genN {α σ : Type} {t : R → Env → Option Env} {f : Env → Sr} (mk : α → R) (step : σ → α → σ) : ∀ (L : List α) (Q : Nat → σ → Env → Prop), (∀ k s e x, L[k]? = some x → Q k s e → ∃ e1, t (mk x) e = some e1 ∧ ∃ e2, f e1 = .nx e2 ∧ Q (k + 1) (step s x) e2) →
    ∀ s e, Q 0 s e → ∃ e', forL t f (L.map mk) e = .nx e' ∧ Q L.length (L.foldl step s) e'
  | [], _, _, s, e, h => ⟨e, rfl, h⟩
  | x :: L, Q, hs, s, e, h => by
    obtain ⟨e1, h1, e2, h2, h3⟩ := hs 0 s e x rfl h
    obtain ⟨e', h4, h5⟩ := forL_genN mk step L (fun k => Q (k + 1)) (fun k s e y hy => hs (k + 1) s e y (by simpa using hy)) _ _ h3
    refine ⟨e', ?_, h5⟩
    rw [List.map_cons]
    unfold forL
    rw [h1]
    dsimp only
    unfold lpS
    rw [h2]
    exact h4
/-- a comprehension's block that leaves the environment as it was -/
theorem lcL_gen {α : Type} {vs : List Nat} {t : R → Env → Option Env} {tc : Env → Rs Bool} {fe : Env → Rs R} (mk : α → R) (keep : α → Bool) (out : α → Dt) (e : Env) : ∀ (L : List α),
    (∀ x ∈ L, ∃ e1, t (mk x) e = some e1 ∧ ((keep x = true ∧ ∃ e2 e3, tc e1 = .ok true e2 ∧ fe e2 = .ok (.d (out x)) e3 ∧ wipE vs e3 = e) ∨ (keep x = false ∧ ∃ e2, tc e1 = .ok false e2 ∧ wipE vs e2 = e))) →
    ∀ acc, acc.length + L.length ≤ sizeLine → lcL vs t tc fe (L.map mk) acc e = .ok (acc ++ (L.filter keep).map out) e
  | [], _, acc, _ => by simp [lcL]
  | x :: L, h, acc, hz => by
    obtain ⟨e1, h1, h2⟩ := h x List.mem_cons_self
    rw [List.length_cons] at hz
    rw [List.map_cons]
    unfold lcL
    rw [h1]
    dsimp only
    rcases h2 with ⟨k, e2, e3, h3, h4, h5⟩ | ⟨k, e2, h3, h5⟩
    · rw [h3]
      dsimp only
      rw [h4]
      dsimp only
      rw [if_pos (by omega), h5, lcL_gen mk keep out e L (fun y hy => h y (List.mem_cons_of_mem _ hy)) _ (by rw [List.length_append, List.length_singleton]; omega), List.filter_cons_of_pos k, List.map_cons, List.append_assoc]
      rfl
    · rw [h3]
      dsimp only
      rw [h5, lcL_gen mk keep out e L (fun y hy => h y (List.mem_cons_of_mem _ hy)) _ (by omega), List.filter_cons_of_neg (by rw [k]; decide)]
end Ev

set_option Elab.async false
set_option linter.all false
set_option maxRecDepth 100000
/-! ### mirrors, applied: comprehensions in one step -/
namespace Ev
open PySem L2
theorem lcN_of {vs : List Nat} {fi : Env → Rs (List R)} {t : R → Env → Option Env} {tc : Env → Rs Bool} {fe : Env → Rs R} {e e1 e2 : Env} {rs : List R} {L : List Dt} (h1 : fi e = .ok rs e1) (h2 : lcL vs t tc fe rs [] (wipE vs e1) = .ok L e2) : lcN vs fi t tc fe e = .ok (.lst L) (reE vs e1 e2) := by
  rw [a_lcN, bnd_of h1, h2]
theorem frz_of {fo : Env → Rs Ob} {e e1 : Env} {L : List Dt} (h : fo e = .ok (.lst L) e1) : frz fo e = .ok (.d (.list L)) e1 := by
  rw [a_frz, bnd_of h]
theorem lcF_of {vs : List Nat} {fi : Env → Rs (List R)} {t : R → Env → Option Env} {tc : Env → Rs Bool} {fe : Env → Rs R} {e e1 e2 e3 : Env} {rs : List R} {L : List Dt} (h1 : fi e = .ok rs e1) (h2 : lcL vs t tc fe rs [] (wipE vs e1) = .ok L e2) (h3 : reE vs e1 e2 = e3) : frz (lcN vs fi t tc fe) e = .ok (.d (.list L)) e3 := by
  subst h3
  exact frz_of (lcN_of h1 h2)
theorem tupG_of {vs : List Nat} {fi : Env → Rs (List R)} {t : R → Env → Option Env} {tc : Env → Rs Bool} {fe : Env → Rs R} {e e1 e2 e3 : Env} {rs : List R} {L : List Dt} (h1 : fi e = .ok rs e1) (h2 : lcL vs t tc fe rs [] (wipE vs e1) = .ok L e2) (h3 : reE vs e1 e2 = e3) : tupGx vs fi t tc fe e = .ok (.d (.tuple L)) e3 := by
  subst h3
  rw [a_tupGx, bnd_of h1, h2]
theorem colG_of {vs : List Nat} {fi : Env → Rs (List R)} {t : R → Env → Option Env} {tc : Env → Rs Bool} {fe : Env → Rs R} {fin : List Dt → Env → Rs R} {e e1 e2 e3 : Env} {rs : List R} {L : List Dt} (h1 : fi e = .ok rs e1) (h2 : lcL vs t tc fe rs [] (wipE vs e1) = .ok L e2) (h3 : reE vs e1 e2 = e3) : colGx vs fi t tc fe fin e = fin L e3 := by
  subst h3
  rw [a_colGx, bnd_of h1, h2]
theorem conA_of {f : Env → Rs R} {g : Env → Rs (List R)} {e e1 e2 : Env} {r : R} {rs : List R} (h1 : f e = .ok r e1) (h2 : g e1 = .ok rs e2) : conA f g e = .ok (r :: rs) e2 := by
  rw [a_conA, bnd_of h1, bnd_of h2]; rfl
theorem one_of {f : Env → Rs R} {e e1 : Env} {r : R} (h1 : f e = .ok r e1) : conA f nilA e = .ok [r] e1 := conA_of h1 rfl
theorem slV_of {α : Type} {fa : Env → Rs R} {fl fh : Env → Rs (Option Int)} {e e1 e2 e3 : Env} {x : R} {l h : Option Int} (h1 : fa e = .ok x e1) (h2 : fl e1 = .ok l e2) (h3 : fh e2 = .ok h e3) : slV fa fl fh e = slG x l h e3 := by
  rw [a_slV, bnd_of h1, bnd_of h2, bnd_of h3]
theorem ifV_T {α : Type} {c : Env → Rs Bool} {f g : Env → Rs α} {e e1 : Env} {r : Rs α} (h1 : c e = .ok true e1) (h2 : f e1 = r) : ifV c f g e = r := by
  rw [a_ifV, bnd_of h1]; exact h2
theorem ifV_F {α : Type} {c : Env → Rs Bool} {f g : Env → Rs α} {e e1 : Env} {r : Rs α} (h1 : c e = .ok false e1) (h2 : g e1 = r) : ifV c f g e = r := by
  rw [a_ifV, bnd_of h1]; exact h2
theorem orT_T {c d : Env → Rs Bool} {e e1 : Env} (h1 : c e = .ok true e1) : orT c d e = .ok true e1 := by
  rw [a_orT, bnd_of h1]; rfl
theorem orT_F {c d : Env → Rs Bool} {e e1 : Env} {r : Rs Bool} (h1 : c e = .ok false e1) (h2 : d e1 = r) : orT c d e = r := by
  rw [a_orT, bnd_of h1]; exact h2
theorem andT_T {c d : Env → Rs Bool} {e e1 : Env} {r : Rs Bool} (h1 : c e = .ok true e1) (h2 : d e1 = r) : andT c d e = r := by
  rw [a_andT, bnd_of h1]; exact h2
theorem andT_F {c d : Env → Rs Bool} {e e1 : Env} (h1 : c e = .ok false e1) : andT c d e = .ok false e1 := by
  rw [a_andT, bnd_of h1]; rfl
theorem xS_of {f : Env → Rs R} {e e1 : Env} {x : R} (h1 : f e = .ok x e1) : xS f e = .nx e1 := by
  unfold xS bS
  rw [h1]
theorem b2c_of {α : Type} {fa : Env → Rs R} {g : R → R → Env → Rs α} {e e1 : Env} {x y : R} (h1 : fa e = .ok x e1) : b2 fa (cst y) g e = g x y e1 := b2_of h1 rfl
theorem m1c_of {fa : Env → Rs R} {g : Str → R → Env → Rs R} {e e1 : Env} {s : Str} {y : R} (h1 : fa e = .ok (.d (.str s)) e1) : m1 fa (cst y) g e = g s y e1 := m1_of h1 rfl
/-- a comprehension whose element may change the environment -/
theorem lcL_draw {vs : List Nat} {t : R → Env → Option Env} {fe : Env → Rs R} (I : Env → Prop) (P : Dt → Prop) : ∀ (rs : List R), (∀ r ∈ rs, ∀ e, I e → ∃ e1 d e2, t r e = some e1 ∧ fe e1 = .ok (.d d) e2 ∧ P d ∧ I (wipE vs e2)) →
    ∀ acc e, I e → acc.length + rs.length ≤ sizeLine → ∃ ds e', lcL vs t yesT fe rs acc e = .ok (acc ++ ds) e' ∧ ds.length = rs.length ∧ (∀ d ∈ ds, P d) ∧ I e'
  | [], _, acc, e, i, _ => ⟨[], e, by simp [lcL], rfl, by simp, i⟩
  | r :: rs, h, acc, e, i, hz => by
    obtain ⟨e1, d, e2, h1, h2, h3, h4⟩ := h r List.mem_cons_self e i
    rw [List.length_cons] at hz
    obtain ⟨ds, e', k1, k2, k3, k4⟩ := lcL_draw I P rs (fun y hy => h y (List.mem_cons_of_mem _ hy)) (acc ++ [d]) _ h4 (by rw [List.length_append, List.length_singleton]; omega)
    refine ⟨d :: ds, e', ?_, by rw [List.length_cons, List.length_cons, k2], fun y hy => ?_, k4⟩
    · unfold lcL
      rw [h1]
      dsimp only
      have ey : yesT e1 = .ok true e1 := rfl
      rw [ey]
      dsimp only
      rw [h2]
      dsimp only
      rw [if_pos (by omega), k1, List.append_assoc]
      rfl
    · rcases List.mem_cons.mp hy with rfl | hy
      · exact h3
      · exact k3 y hy
theorem rg_of {n : Nat} (h : n ≤ 1000000) (e : Env) : rgG [.d (.int (n : Int))] e = .ok ((List.range n).map fun (k : Nat) => R.d (.int (0 + (k : Int)))) e := by
  simp only [rgG]
  rw [if_pos ⟨by omega, by omega⟩, Int.toNat_natCast]
  rfl
theorem cst_ok {α : Type} (x : α) (e : Env) : cst x e = .ok x e := rfl
end Ev

set_option Elab.async false
set_option linter.all false
set_option maxRecDepth 100000
namespace Ev
open PySem L2
/-- one sign in a text -/
theorem hasS_one (c : Nat) (l : List Nat) : hasS (sOf [c]) (sOf l) = decide (c ∈ l) := by
  have h : hasS (sOf [c]) (sOf l) = true ↔ c ∈ l := by
    unfold hasS
    rw [PySem.StrLaws.found_iff]
    have e : sOf [c] = (⟨#[c]⟩ : Str) := rfl
    rw [e]
    constructor
    · rintro ⟨i, h⟩
      have := (PySem.StrLaws.subAt_one (sOf l) c i).mp h
      exact List.mem_of_getElem? (by simpa [sOf] using this)
    · intro h
      obtain ⟨i, hi, e⟩ := List.getElem_of_mem h
      exact ⟨i, (PySem.StrLaws.subAt_one (sOf l) c i).mpr (by simp [sOf, hi, e])⟩
  by_cases z : c ∈ l
  · rw [decide_eq_true z]; exact h.mpr z
  · rw [decide_eq_false z]
    cases q : hasS (sOf [c]) (sOf l) with
    | false => rfl
    | true => exact absurd (h.mp q) z
end Ev

set_option Elab.async false
set_option linter.all false
set_option maxRecDepth 100000
set_option maxHeartbeats 1000000
/-! ### len(dict(xs)), xs pairs with truth values, ints or texts as keys -/
namespace Ev
open PySem L2 PpSet
def addB (a : List Bool) (k : Bool) : List Bool := if a.contains k then a else a ++ [k]
def keysB {α : Type} (a : List Bool) (kvs : List (Bool × α)) : List Bool := kvs.foldl (fun a kv => addB a kv.1) a
theorem keysB_map {α β : Type} : ∀ (l : List (Bool × α)) (m : List (Bool × β)) (a : List Bool), l.map (·.1) = m.map (·.1) → keysB a l = keysB a m
  | [], [], _, _ => rfl
  | [], _ :: _, _, h => by cases h
  | _ :: _, [], _, h => by cases h
  | x :: l, y :: m, a, h => by
    rw [List.map_cons, List.map_cons] at h
    have h1 := (List.cons.inj h).1
    have h2 := (List.cons.inj h).2
    show keysB (addB a x.1) l = keysB (addB a y.1) m
    rw [h1]
    exact keysB_map l m _ h2
theorem stored_keys (xs : List (Bool × Value)) (k : Bool) (v : Value) : (stored xs k v).map (·.1) = addB (xs.map (·.1)) k := by
  unfold stored addB
  by_cases h : k ∈ xs.map (·.1)
  · obtain ⟨kv, h1, h2⟩ := List.mem_map.mp h
    have e : (xs.any fun kv => decide (kv.1 = k)) = true := List.any_eq_true.mpr ⟨kv, h1, by simpa using h2⟩
    rw [if_pos e, if_pos (List.contains_iff_mem.mpr h), List.map_map]
    refine List.map_congr_left fun kv _ => ?_
    simp only [Function.comp]
    split <;> rfl
  · have e : ¬ (xs.any fun kv => decide (kv.1 = k)) = true := fun z => by
      obtain ⟨kv, h1, h2⟩ := List.any_eq_true.mp z
      exact h (List.mem_map.mpr ⟨kv, h1, by simpa using h2⟩)
    rw [if_neg e, if_neg fun z => h (List.contains_iff_mem.mp z), List.map_append]; rfl
theorem merged_keys : ∀ (more xs : List (Bool × Value)), (merged xs more).map (·.1) = keysB (xs.map (·.1)) more
  | [], xs => rfl
  | kv :: more, xs => by
    show (merged (stored xs kv.1 kv.2) more).map (·.1) = keysB (addB (xs.map (·.1)) kv.1) more
    rw [merged_keys more, stored_keys]
theorem keysB_len {α : Type} : ∀ (l : List (Bool × α)) (a : List Bool), (keysB a l).length ≤ a.length + l.length
  | [], a => by simp [keysB]
  | kv :: l, a => by
    have := keysB_len l (addB a kv.1)
    have h2 : (addB a kv.1).length ≤ a.length + 1 := by unfold addB; split <;> simp
    show (keysB (addB a kv.1) l).length ≤ _
    rw [List.length_cons]; omega
/-- a dict with truth values as keys: how many -/
def DBo (P : Program) (w : World) (a : Addr) (n : Nat) : HO := .ext fun h => (a == sysModules) = false ∧ ∃ kvs : List (Bool × Value), kvs.length = n ∧ n ≤ sizeLine ∧ h.DictOf (boolK P w) a kvs
section
variable {X : Cx}
theorem pairs_ofB {pins : List (Addr × Obj)} {σ : St} {H : Hp} {s : Shared} (I : Inv X pins σ H s) : ∀ {ps : List Addr} {kvs : List (Bool × V)}, Paired (fun p kv => SqT X.K H p [.bl kv.1, kv.2]) ps kvs →
    ∃ prs : List (Bool × Value), prs.map (·.1) = kvs.map (·.1) ∧ prs.length = ps.length ∧ ∀ (j : Nat) (q : Bool × Value), prs[j]? = some q → ∃ b : Addr, ps[j]? = some b ∧ PyProof.Rows.IsTup s.heap b #[.bool q.1, q.2]
  | _, _, .nil => ⟨[], rfl, rfl, fun j q e => by simp at e⟩
  | _, _, .cons (a := p) (b := kv) h t => by
    obtain ⟨prs, r, hl, hp⟩ := pairs_ofB I t
    obtain ⟨its, rv, ht, _⟩ := I.tuple h
    obtain ⟨u, y, ei, ru, ry⟩ := vals2 rv
    subst ei
    cases ru
    refine ⟨(kv.1, y) :: prs, by rw [List.map_cons, List.map_cons, r], by rw [List.length_cons, List.length_cons, hl], fun j q e => ?_⟩
    cases j with
    | zero =>
      have e' : (kv.1, y) = q := Option.some.inj e
      subst e'
      exact ⟨p, rfl, ht⟩
    | succ j =>
      obtain ⟨b, e1, e2⟩ := hp j q (by simpa using e)
      exact ⟨b, by simpa using e1, e2⟩
def rDictB (X : Cx) : List V → Hp → VK → Prop := fun xs H Q => ∃ (a : Addr) (ps : List Addr) (kvs : List (Bool × V)), xs = [.ref a] ∧ SqL X.K H a (ps.map V.ref) ∧ Paired (fun p kv => SqT X.K H p [.bl kv.1, kv.2]) ps kvs ∧
    ∀ p, H p = none → Q (.ref p) (upd H p (DBo X.prog X.w p (keysB [] kvs).length))
theorem call_dictB (hcalm : X.calm = true) : CallR X (.type "dict") (rDictB X) := by
  intro pins s σ H xs us Q I r q
  obtain ⟨a, ps, kvs, ex, hq, hp, q⟩ := q
  subst ex
  obtain ⟨u, eu, rx⟩ := vals1 r
  subst eu
  cases rx
  obtain ⟨its, rv, pl, hz⟩ := I.list hq
  have ei := refs_at rv
  subst ei
  rw [List.length_map] at hz
  obtain ⟨prs, rel, hl, hpr⟩ := pairs_ofB I hp
  obtain ⟨o, n, ho, hc, hd, hdat⟩ := pl
  have hlen : (prs.map fun q => ((Value.bool q.1 : Value), q.2)).length = prs.length := List.length_map _
  refine PySem.call_dict_pairs (knd := boolK X.prog X.w) (kvs := prs) (PairArg.list a (ps.map Value.ref).toArray (fun j => ps.getD j 0) (prs.map fun q => (Value.bool q.1, q.2))) (I.ok.hd hcalm) ⟨⟨o, n, ho, hc, hd, hdat⟩, ?_, ?_⟩ ⟨hlen.symm, ?_⟩ (by rw [hlen, hl]; exact hz) fun h' tk hd' k => ?_
  · simp [hl]
  · intro j k v hj
    rw [List.getElem?_map] at hj
    cases e : prs[j]? with
    | none => rw [e] at hj; cases hj
    | some q' =>
      rw [e] at hj
      cases hj
      obtain ⟨b, e1, e2⟩ := hpr j q' e
      have eb : ps.getD j 0 = b := by rw [List.getD_eq_getElem?_getD, e1]; rfl
      refine ⟨by simp [e1, eb], .inl ?_⟩
      show s.heap.IsTuple (ps.getD j 0) _
      rw [eb]
      exact e2
  · intro i key v hi
    replace hi : (prs.map fun q => ((Value.bool q.1 : Value), q.2))[i]? = some (key, v) := hi
    rw [List.getElem?_map] at hi
    cases e : prs[i]? with
    | none => rw [e] at hi; cases hi
    | some q' =>
      rw [e] at hi
      cases hi
      exact ⟨q'.1, rfl, boolK_is _ _ _⟩
  · have hm : (s.heap.objs.size == sysModules) = false := beq_eq_false_iff_ne.mpr (Nat.ne_of_gt I.big)
    have ek : (merged [] prs).map (·.1) = keysB [] kvs := by rw [merged_keys]; exact keysB_map _ _ _ rel
    have el : (merged [] prs).length = (keysB [] kvs).length := by rw [← ek, List.length_map]
    have hz2 : (keysB [] kvs).length ≤ sizeLine := by
      have h1 := keysB_len kvs []
      have h2 : kvs.length = prs.length := by have := congrArg List.length rel; simpa using this.symm
      simp only [List.length_nil] at h1
      omega
    refine ⟨.ref s.heap.objs.size, upd H s.heap.objs.size (DBo X.prog X.w s.heap.objs.size (keysB [] kvs).length), I.laid (t' := tk) (fun b o e => k b o (by simp) e) (Nat.le_refl _) ?_, rfl, q _ (I.hok.fresh (Nat.le_refl _))⟩
    exact ⟨⟨hm, merged [] prs, el, hz2, hd'⟩, (let ⟨o2, _, _, h1, _⟩ := hd'; ⟨o2, h1⟩), fun h1 h2 ⟨z1, kv, z2, z3, z4⟩ kp => ⟨z1, kv, z2, z3, z4.at' kp⟩⟩
def rLenB (X : Cx) : List V → Hp → VK → Prop := fun xs H Q => ∃ a n, xs = [V.ref a] ∧ H a = some (DBo X.prog X.w a n) ∧ Q (.int n) H
theorem call_lenB : CallR X (.builtin "len") (rLenB X) := by
  intro pins s σ H xs us Q I r h
  obtain ⟨a, n, rfl, ha, q⟩ := h
  obtain ⟨u, rfl, ru⟩ := vals1 r
  cases ru
  obtain ⟨⟨hm, kvs, el, hz, hd⟩, _⟩ := I.hok a _ ha
  refine call_len_dict hm hd (by rw [el]; rw [sizeLine_eq] at hz; omega) ?_
  rw [el]
  exact ⟨.int n, H, I.tok _, ⟨_, rfl⟩, q⟩
end
def pairsB : List Dt → Option (List (Bool × Dt))
  | [] => some []
  | .tuple [.bool b, v] :: l => match pairsB l with
    | some m => some ((b, v) :: m)
    | none => none
  | _ => none
def lenDA : List R → Env → Rs R := fun rs e => match rs with
  | [x] => match lof e x with
    | some ds => match pairsOf ds with
      | some kvs => .ok (.d (.int (mergeD [] kvs).length)) e
      | none => match pairsB ds with
        | some kvs => .ok (.d (.int (keysB [] kvs).length)) e
        | none => .stk
    | none => .stk
  | _ => .stk
theorem pairsB_ok {C : Cf} {W : List Addr} {H : Hp} : ∀ {vs : List V} {ds : List Dt} {kvs : List (Bool × Dt)}, FzAll C.K (msk W H) vs ds → pairsB ds = some kvs → ∃ (ps : List Addr) (kv : List (Bool × V)), vs = ps.map V.ref ∧ Paired (fun p kv => SqT C.K H p [.bl kv.1, kv.2]) ps kv ∧ kv.map (·.1) = kvs.map (·.1)
  | _, [], _, h, q => by cases h; cases q; exact ⟨[], [], rfl, .nil, rfl⟩
  | _, d :: l, kvs, h, q => by
    unfold pairsB at q
    split at q
    · contradiction
    · rename_i b v l' heq
      injection heq with h1 h2
      subst h1 h2
      split at q
      · rename_i m hm
        cases q
        cases h with
        | cons f t =>
          obtain ⟨ps, kv, rfl, g1, g2⟩ := pairsB_ok t hm
          cases f with
          | tup ha fs =>
            cases fs with
            | cons f1 t1 =>
              cases f1
              cases t1 with
              | cons f2 t2 =>
                cases t2
                exact ⟨_ :: ps, (_, _) :: kv, rfl, (.cons (SqT.sub ha (Sub.msk _ _)) g1), by rw [List.map_cons, List.map_cons, g2]⟩
      · cases q
    · cases q
section
variable {X : Cx} {C : Cf} {w : WX} {e : Expr} {pos p pos2 p2 : Pos} {fs : Env → Rs (List R)}
theorem ev_lenDict (ct : Ct X C w) (gl : Gl X "len") (gd : Gl X "dict") (hm : X.mg "len" = none) (hd : X.mg "dict" = none) (ha : PA X [e] (taOf C w fs))
    (he : starEach [e] X.env = (false, eval e X.env) :: starEach [] X.env := by rfl) (he2 : starEach [.Call (.Name "dict" p2) [e] [] pos2] X.env = (false, eval (.Call (.Name "dict" p2) [e] [] pos2) X.env) :: starEach [] X.env := by rfl) (hpl : (backTo pos (starEach [] X.env)).any (·.1) = false := by rfl) (hpl2 : (backTo pos2 (starEach [] X.env)).any (·.1) = false := by rfl) :
    PE X (.Call (.Name "len" p) [.Call (.Name "dict" p2) [e] [] pos2] [] pos) (tOf C w (bnd fs lenDA)) :=
  PE.imp (pe_callB (CallR.or call_lenD call_lenB) gl hm PySem.boot_len (PA.imp (pa_cons (pe_callTy (CallR.or (call_dictA ct.calm) (call_dictB ct.calm)) gd hd PyProof.Rows.boot_dict ha (by decide) (by decide) he hpl2) pa_nil he2) fun σ H Q h => h) (by decide) (by decide) he2 hpl) fun σ H Q ⟨W, en, k, h⟩ => by
    refine taOf_bnd k h fun vs rs W1 e1 H1 x1 k1 hv h1 => ?_
    unfold lenDA at h1
    split at h1
    · obtain ⟨v, rfl, hv1⟩ := hv.one
      split at h1
      · rename_i ds hl
        obtain ⟨a, ws, rfl, g1, g2⟩ := lof_ok k1 hv1 hl
        split at h1
        · rename_i kvs hp
          obtain ⟨ps, kv, rfl, g3, g4⟩ := pairs_ok g2 hp
          rw [ct.K] at g3
          refine .inl ⟨a, ps, kv, rfl, .of g1, g3, fun p hp => .inl ⟨p, mergeK [] kv, rfl, upd_same, ?_⟩⟩
          have el : (mergeK [] kv).length = (mergeD [] kvs).length := (g4.merge .nil).length
          rw [el]
          obtain ⟨k2, x2, _⟩ := k1.new (.dK (mergeK [] kv)) hp
          exact h1 _ _ _ x2 k2 (.int _)
        · split at h1
          · rename_i kvs hp
            obtain ⟨ps, kv, rfl, g3, g4⟩ := pairsB_ok g2 hp
            rw [ct.K] at g3
            refine .inr ⟨a, ps, kv, rfl, .of g1, g3, fun p hp => .inr ⟨p, (keysB [] kv).length, rfl, upd_same, ?_⟩⟩
            rw [keysB_map kv kvs [] g4]
            obtain ⟨k2, x2, _⟩ := k1.new (DBo X.prog X.w p (keysB [] kv).length) hp
            rw [keysB_map kv kvs [] g4] at k2 x2
            exact h1 _ _ _ x2 k2 (.int _)
          · exact h1.elim
      · exact h1.elim
    · exact h1.elim
end
end Ev

set_option Elab.async false
set_option linter.all false
set_option maxRecDepth 100000
/-! ### one free slot of an environment, taken for a while -/
namespace Ev
open PySem L2
def st (i : Nat) (r : R) (e : Env) : Env := ⟨e.sl.set i (some (.fro r)), e.hs⟩
def Fr (i : Nat) (e : Env) : Prop := e.sl[i]? = some none
section
variable {i j : Nat} {r x : R} {e : Env} {d : Dt}
theorem Fr.lt (h : Fr i e) : i < e.sl.length := (List.getElem?_eq_some_iff.mp h).1
theorem setR_st (h : i < e.sl.length) : setR i (.d d) e = some (st i (.d d) e) := by
  unfold setR st
  rw [if_pos h]
theorem vr_st (h : i < e.sl.length) : vr i (st i (.d d) e) = .ok (.d d) (st i (.d d) e) := by
  unfold vr
  have : (st i (.d d) e).sl[i]? = some (some (.fro (.d d))) := List.getElem?_set_self h
  rw [this]
theorem vr_ne (hij : i ≠ j) (h : vr j e = .ok r e) : vr j (st i x e) = .ok r (st i x e) := by
  unfold vr at h ⊢
  have : (st i x e).sl[j]? = e.sl[j]? := List.getElem?_set_ne hij
  rw [this]
  split at h
  · rename_i r' hr
    injection h with h1 h2
    subst h1
    rfl
  · rename_i o ho
    injection h with h1 h2
    subst h1
    rfl
  · cases h
theorem Fr.st (hij : i ≠ j) (h : Fr j e) : Fr j (st i x e) := by
  unfold Fr
  have : (Ev.st i x e).sl[j]? = e.sl[j]? := List.getElem?_set_ne hij
  rw [this]; exact h
theorem sl_ext {e e' : Env} (h1 : ∀ k : Nat, e.sl[k]? = e'.sl[k]?) (h2 : e.hs = e'.hs) : e = e' := by
  cases e; cases e'
  simp only at h1 h2
  subst h2
  congr 1
  exact List.ext_getElem? h1
theorem wip_same (h : Fr i e) : wipE [i] e = e := by
  refine sl_ext (fun k => ?_) rfl
  unfold wipE
  rw [List.getElem?_mapIdx]
  cases q : e.sl[k]? with
  | none => rfl
  | some s =>
    simp only [Option.map_some, List.mem_singleton]
    split
    · rename_i hk
      subst hk
      unfold Fr at h
      rw [h] at q
      cases q; rfl
    · rfl
theorem wip_st (h : Fr i e) : wipE [i] (st i x e) = e := by
  refine sl_ext (fun k => ?_) rfl
  unfold wipE
  rw [List.getElem?_mapIdx]
  by_cases hk : k = i
  · subst hk
    have : (st k x e).sl[k]? = some (some (.fro x)) := List.getElem?_set_self h.lt
    rw [this, h]
    simp
  · have : (st i x e).sl[k]? = e.sl[k]? := List.getElem?_set_ne fun z => hk z.symm
    rw [this]
    cases q : e.sl[k]? with
    | none => rfl
    | some s => simp [hk]
theorem re_same (h : Fr i e) : reE [i] e e = e := by
  refine sl_ext (fun k => ?_) rfl
  unfold reE
  rw [List.getElem?_mapIdx]
  cases q : e.sl[k]? with
  | none => rfl
  | some s =>
    simp only [Option.map_some, List.mem_singleton]
    split
    · rename_i hk
      subst hk
      unfold Fr at h
      rw [h] at q
      cases q; rfl
    · rfl
/-- a comprehension in a free slot whose element does not change the environment -/
theorem lcF_free {α : Type} {fi : Env → Rs (List R)} {tc : Env → Rs Bool} {fe : Env → Rs R} (mk : α → Dt) (keep : α → Bool) (out : α → Dt) (L : List α) (hf : Fr i e) (hi : fi e = .ok (L.map fun x => .d (mk x)) e) (hz : L.length ≤ sizeLine)
    (h : ∀ x ∈ L, tc (st i (.d (mk x)) e) = .ok (keep x) (st i (.d (mk x)) e) ∧ (keep x = true → fe (st i (.d (mk x)) e) = .ok (.d (out x)) (st i (.d (mk x)) e))) :
    frz (lcN [i] fi (setR i) tc fe) e = .ok (.d (.list ((L.filter keep).map out))) e := by
  refine lcF_of hi ?_ (re_same hf)
  rw [wip_same hf]
  have k := lcL_gen (vs := [i]) (t := setR i) (tc := tc) (fe := fe) (fun x => R.d (mk x)) keep out e L (fun x hx => by
    obtain ⟨h1, h2⟩ := h x hx
    refine ⟨st i (.d (mk x)) e, setR_st hf.lt, ?_⟩
    cases q : keep x with
    | true => exact .inl ⟨rfl, _, _, by rw [h1, q], h2 q, wip_st hf⟩
    | false => exact .inr ⟨rfl, _, by rw [h1, q], wip_st hf⟩) [] (by simpa using hz)
  rw [List.nil_append] at k
  exact k
end
end Ev

set_option Elab.async false
set_option linter.all false
set_option maxRecDepth 100000
set_option maxHeartbeats 4000000
namespace Ev
open PySem L2
def top (i : Nat) : Stmt := PySem.Challenge.pw_shellstack_k01_paths_made_plain.main.body.getD i (.Pass ⟨0, 0, 0, 0⟩)
structure DefK (K : PySem.W.Frag) (mg : Str → Option Value) (x : Str) (st : Stmt) : Prop where
  ex : ∃ (f : Addr) (fd : FuncData), Fun K x x st f fd ∧ mg x = some (.ref f)
structure Md (P : Program) (w : World) (K : PySem.W.Frag) (mg : Str → Option Value) (cls : Nat → Addr) : Prop where
  n_len : mg "len" = none
  g_MOST_LONG : ∃ t, mg "MOST_LONG" = some (.int 120 t)
  e_PathError : ErrC K mg "PathError" (cls 1)
  d_check_path : ∃ (f : Addr) (fd : FuncData), Fun K "check_path" "check_path" (top 7) f fd ∧ mg "check_path" = some (.ref f)
  d_is_whole : ∃ (f : Addr) (fd : FuncData), Fun K "is_whole" "is_whole" (top 8) f fd ∧ mg "is_whole" = some (.ref f)
  n_int : mg "int" = none
  n_abs : mg "abs" = none
  d__law_dice : ∃ (f : Addr) (fd : FuncData), Fun K "_law_dice" "_law_dice" (top 22) f fd ∧ mg "_law_dice" = some (.ref f)
  n_list : mg "list" = none
  d__law_led : ∃ (f : Addr) (fd : FuncData), Fun K "_law_led" "_law_led" (top 27) f fd ∧ mg "_law_led" = some (.ref f)
  d__law_plain_path : ∃ (f : Addr) (fd : FuncData), Fun K "_law_plain_path" "_law_plain_path" (top 28) f fd ∧ mg "_law_plain_path" = some (.ref f)
  d__law_within : ∃ (f : Addr) (fd : FuncData), Fun K "_law_within" "_law_within" (top 29) f fd ∧ mg "_law_within" = some (.ref f)
  n_max : mg "max" = none
  n_range : mg "range" = none
  d__law_shared : ∃ (f : Addr) (fd : FuncData), Fun K "_law_shared" "_law_shared" (top 30) f fd ∧ mg "_law_shared" = some (.ref f)
  g_HERE : ∃ t, mg "HERE" = some (.str (sOf [46]) t)
  d_ends_of : ∃ (f : Addr) (fd : FuncData), Fun K "ends_of" "ends_of" (top 14) f fd ∧ mg "ends_of" = some (.ref f)
  d__law_rounds : ∃ (f : Addr) (fd : FuncData), Fun K "_law_rounds" "_law_rounds" (top 24) f fd ∧ mg "_law_rounds" = some (.ref f)
  d__law_roll : ∃ (f : Addr) (fd : FuncData), Fun K "_law_roll" "_law_roll" (top 23) f fd ∧ mg "_law_roll" = some (.ref f)
  d__law_drawn : ∃ (f : Addr) (fd : FuncData), Fun K "_law_drawn" "_law_drawn" (top 26) f fd ∧ mg "_law_drawn" = some (.ref f)
  n_tuple : mg "tuple" = none
  d_parts_of : ∃ (f : Addr) (fd : FuncData), Fun K "parts_of" "parts_of" (top 9) f fd ∧ mg "parts_of" = some (.ref f)
  g_UP : ∃ t, mg "UP" = some (.str (sOf [46, 46]) t)
  d_made_plain : ∃ (f : Addr) (fd : FuncData), Fun K "made_plain" "made_plain" (top 10) f fd ∧ mg "made_plain" = some (.ref f)
  d_joined_path : ∃ (f : Addr) (fd : FuncData), Fun K "joined_path" "joined_path" (top 11) f fd ∧ mg "joined_path" = some (.ref f)
  d_name_of : ∃ (f : Addr) (fd : FuncData), Fun K "name_of" "name_of" (top 13) f fd ∧ mg "name_of" = some (.ref f)
  n_min : mg "min" = none
  d_told_from : ∃ (f : Addr) (fd : FuncData), Fun K "told_from" "told_from" (top 16) f fd ∧ mg "told_from" = some (.ref f)
  d_is_within : ∃ (f : Addr) (fd : FuncData), Fun K "is_within" "is_within" (top 18) f fd ∧ mg "is_within" = some (.ref f)
  d_parent_of : ∃ (f : Addr) (fd : FuncData), Fun K "parent_of" "parent_of" (top 12) f fd ∧ mg "parent_of" = some (.ref f)
  d_with_end : ∃ (f : Addr) (fd : FuncData), Fun K "with_end" "with_end" (top 15) f fd ∧ mg "with_end" = some (.ref f)
  n_all : mg "all" = none
  n_any : mg "any" = none
  n_sorted : mg "sorted" = none
  n_sum : mg "sum" = none
  d_depth_of : ∃ (f : Addr) (fd : FuncData), Fun K "depth_of" "depth_of" (top 20) f fd ∧ mg "depth_of" = some (.ref f)
  d_in_turn : ∃ (f : Addr) (fd : FuncData), Fun K "in_turn" "in_turn" (top 19) f fd ∧ mg "in_turn" = some (.ref f)
  d_shared_path : ∃ (f : Addr) (fd : FuncData), Fun K "shared_path" "shared_path" (top 17) f fd ∧ mg "shared_path" = some (.ref f)
  t__law_told : Told P w K mg "_law_told" (cls 1) (sOf [80, 97, 116, 104, 69, 114, 114, 111, 114])
  x_PathError : PySem.W.exmOne K (.ref (cls 1)) (.ref (cls 1)) = some true
  d__law_plain : ∃ (f : Addr) (fd : FuncData), Fun K "_law_plain" "_law_plain" (top 31) f fd ∧ mg "_law_plain" = some (.ref f)
  n_dict : mg "dict" = none
section
variable {P : Program} {w : World} {K : PySem.W.Frag} {mg : Str → Option Value} {base : Heap} {T : List (Addr × Str)} {cls : Nat → Addr} {clo : Nat → ClD}
theorem sc_check_path : FnScope ["path"] ["path"] (defScope (top 7)) := ⟨rfl, rfl, rfl, by decide +kernel, rfl, by decide +kernel, by decide +kernel⟩
noncomputable def f_check_path : Env → Sr := (sqS (ifS (notT (ch3 (cst (.d (.int 1))) (bnd (conA (vr 0) nilA) lenG) (cst (.d (.int 120))) (ltOf leI leL) (ltOf leI leL) oT)) (sqS (raS 1)
  skS) skS)
  skS)
noncomputable def m_check_path : Mf := mOf 1 f_check_path
theorem ok_check_path (M : Md P w K mg cls)  : Dfn P w K mg base 1 "check_path" (spM K T cls clo 1 m_check_path) := by
  obtain ⟨f, fd, F, hm⟩ := M.d_check_path
  exact ⟨f, fd, ["path"], fn_mkA (k := 0) (g := f_check_path) F sc_check_path rfl rfl rfl (fun W as cdv A outer s H E hr cs => by
  have ct := cs.toCt
  exact (es_cons (es_if (et_not (et_chain op_leA op_leA (ord_ok) (ord_ok) (ev_int) (ev_callB (call_lenA) (len_ok ct.K) (by rfl) M.n_len PySem.boot_len (ea_cons (ev_var (i := 0)) ea_nil)) (ev_gInt (by rfl) M.g_MOST_LONG))) (es_cons (es_raise ct M.e_PathError)
  es_nil) es_nil)
  es_nil)), hm, F.kp, F.binds fun _ _ _ _ _ _ us hl => match us, hl with | [_], _ => rfl⟩
theorem sc_is_whole : FnScope ["path"] ["path"] (defScope (top 8)) := ⟨rfl, rfl, rfl, by decide +kernel, rfl, by decide +kernel, by decide +kernel⟩
noncomputable def f_is_whole : Env → Sr := (sqS (rtS (b2 (slV (vr 0) noP (bnd (cst (.d (.int 1))) inP)) (cst (txt [47])) (cmV (eqG))))
  skS)
noncomputable def m_is_whole : Mf := mOf 1 f_is_whole
theorem ok_is_whole (M : Md P w K mg cls)  : Dfn P w K mg base 1 "is_whole" (spM K T cls clo 1 m_is_whole) := by
  obtain ⟨f, fd, F, hm⟩ := M.d_is_whole
  exact ⟨f, fd, ["path"], fn_mkA (k := 0) (g := f_is_whole) F sc_is_whole rfl rfl rfl (fun W as cdv A outer s H E hr cs => by
  have ct := cs.toCt
  exact (es_cons (es_ret (ev_cmp (op_eqA ct) (eq_ok ct.K) (ev_sl ct (ev_var (i := 0)) ep_no (ep_in (ev_int))) (ev_str (by rfl))))
  es_nil)), hm, F.kp, F.binds fun _ _ _ _ _ _ us hl => match us, hl with | [_], _ => rfl⟩
theorem sc__law_dice : FnScope ["cell"] ["cell"] (defScope (top 22)) := ⟨rfl, rfl, rfl, by decide +kernel, rfl, by decide +kernel, by decide +kernel⟩
noncomputable def f__law_dice : Env → Sr := (sqS (ifS (ch3 (b2 (cst (.d (.int 0))) (cst (.d (.int 10))) subG) (vr 0) (cst (.d (.int 10))) (ltOf ltI ltL) (ltOf ltI ltL) oT) (sqS (rtO false (bnd (conA (bnd (conA (vr 0) nilA) absG) (conA (cst (.d (.int 0))) (conA (cst (.d (.int 2))) nilA))) lstN))
  skS) skS)
  (sqS (rtO false (bnd (conA (vr 0) (conA (b2 (cst (.d (.int 1))) (b2 (bnd (conA (vr 0) nilA) intG) (cst (.d (.int 1009))) modG) addG) (conA (bnd (conA (b2 (vr 0) (b2 (cst (.d (.int 10))) (cst (.d (.int 18))) powG) (cmV (ltOf geI geL))) nilA) intG) nilA))) lstN))
  skS))
noncomputable def m__law_dice : Mr := mOfR false 1 f__law_dice
theorem ok__law_dice (M : Md P w K mg cls)  : Dfn P w K mg base 1 "_law_dice" (spR false K T cls clo 1 m__law_dice) := by
  obtain ⟨f, fd, F, hm⟩ := M.d__law_dice
  exact ⟨f, fd, ["cell"], fn_mkR (k := 0) (g := f__law_dice) F sc__law_dice rfl rfl rfl (fun W as cdv A outer s H E hr cs => by
  have ct := cs.toCt
  exact (es_cons (es_if (et_chain op_ltA op_ltA (ord_ok) (ord_ok) (ev_op op_subA (sub_ok) (ev_int) (ev_int)) (ev_var (i := 0)) (ev_int)) (es_cons (es_retO (rt_new (en_lst (ea_cons (ev_callB (call_abs) (abs_ok) (by rfl) M.n_abs PyProof.Rows.boot_abs (ea_cons (ev_var (i := 0)) ea_nil)) (ea_cons (ev_int) (ea_cons (ev_int) ea_nil))))))
  es_nil) es_nil)
  (es_cons (es_retO (rt_new (en_lst (ea_cons (ev_var (i := 0)) (ea_cons (ev_op op_addA (add_ok ct.K) (ev_int) (ev_op op_modN (mod_ok) (ev_callTy (call_intA) (int_ok) (by rfl) M.n_int PyProof.Rows.boot_int (ea_cons (ev_var (i := 0)) ea_nil)) (ev_int))) (ea_cons (ev_callTy (call_intA) (int_ok) (by rfl) M.n_int PyProof.Rows.boot_int (ea_cons (ev_cmp op_geA (ord_ok) (ev_var (i := 0)) (ev_op op_pow (pow_ok) (ev_int) (ev_int))) ea_nil)) ea_nil))))))
  es_nil))), hm, F.kp, F.binds fun _ _ _ _ _ _ us hl => match us, hl with | [_], _ => rfl⟩
theorem sc__law_led : FnScope ["start", "path", "here", "part"] ["start", "path"] (defScope (top 27)) := ⟨rfl, rfl, rfl, by decide +kernel, rfl, by decide +kernel, by decide +kernel⟩
noncomputable def f__law_led : Env → Sr := (sqS (asS (ifV (b2 (slV (vr 1) noP (bnd (cst (.d (.int 1))) inP)) (cst (txt [47])) (cmT (eqG))) (bnd nilA lstG) (bnd (conA (vr 0) nilA) listG)) (setR 2))
  (sqS (frS (bnd (m1 (vr 1) (cst (txt [47])) (splitG)) itG) (setR 3) (sqS (asS (ifV (b2 (vr 3) (cst (txt [46, 46])) (cmT (eqG))) (slV (vr 2) noP (bnd (bnd (cst (.d (.int 1))) negG) inP)) (ifV (b2 (vr 3) (bnd (conA (cst (txt [])) (conA (cst (txt [46])) nilA)) lstG) (cmT (inG true))) (b2 (vr 2) (bnd (conA (vr 3) nilA) lstG) addG) (vr 2))) (setR 2))
  skS))
  (sqS (rtS (vr 2))
  skS)))
noncomputable def m__law_led : Mf := mOf 4 f__law_led
theorem ok__law_led (M : Md P w K mg cls)  : Dfn P w K mg base 1 "_law_led" (spM K T cls clo 2 m__law_led) := by
  obtain ⟨f, fd, F, hm⟩ := M.d__law_led
  exact ⟨f, fd, ["start", "path"], fn_mkA (k := 0) (g := f__law_led) F sc__law_led rfl rfl rfl (fun W as cdv A outer s H E hr cs => by
  have ct := cs.toCt
  exact (es_cons (es_asg (ev_if (et_cmp (op_eqA ct) (eq_ok ct.K) (ev_sl ct (ev_var (i := 1)) ep_no (ep_in (ev_int))) (ev_str (by rfl))) (ev_lst ea_nil) (ev_callTy (call_listA) (list_ok ct.K) (by rfl) M.n_list PyProof.Rows.boot_list (ea_cons (ev_var (i := 0)) ea_nil))) (eg_name ct (i := 2)))
  (es_cons (es_for cs (ei_seq ct (ev_m1 PySem.F.slot_str_split PySem.F.type_str_split mt_split (split_ok) (ev_var (i := 1)) (ev_str (by rfl)))) (eg_name ct (i := 3)) (es_cons (es_asg (ev_if (et_cmp (op_eqA ct) (eq_ok ct.K) (ev_var (i := 3)) (ev_str (by rfl))) (ev_sl ct (ev_var (i := 2)) ep_no (ep_in (ev_neg (ev_int)))) (ev_if (et_cmp (op_notInA ct) (in_ok ct.K) (ev_var (i := 3)) (ev_lst (ea_cons (ev_str (by rfl)) (ea_cons (ev_str (by rfl)) ea_nil)))) (ev_op op_addA (add_ok ct.K) (ev_var (i := 2)) (ev_lst (ea_cons (ev_var (i := 3)) ea_nil))) (ev_var (i := 2)))) (eg_name ct (i := 2)))
  es_nil))
  (es_cons (es_ret (ev_var (i := 2)))
  es_nil)))), hm, F.kp, F.binds fun _ _ _ _ _ _ us hl => match us, hl with | [_, _], _ => rfl⟩
theorem sc__law_plain_path : FnScope ["path", "up", "here", "part", "body"] ["path"] (defScope (top 28)) := ⟨rfl, rfl, rfl, by decide +kernel, rfl, by decide +kernel, by decide +kernel⟩
noncomputable def f__law_plain_path : Env → Sr := (sqS (prS 1 2 (conA (cst (.d (.int 0))) (conA (bnd nilA lstG) nilA)))
  (sqS (frS (bnd (m1 (vr 0) (cst (txt [47])) (splitG)) itG) (setR 3) (sqS (ifS ((andT (b2 (vr 3) (cst (txt [46, 46])) (cmT (eqG))) (b2 (vr 2) (bnd nilA lstG) (cmT (eqG))))) (sqS (asS (b2 (vr 1) (bnd (conA (b2 (slV (vr 0) noP (bnd (cst (.d (.int 1))) inP)) (cst (txt [47])) (cmV (neG))) nilA) intG) addG) (setR 1))
  skS) (sqS (ifS (b2 (vr 3) (cst (txt [46, 46])) (cmT (eqG))) (sqS (asS (slV (vr 2) noP (bnd (bnd (cst (.d (.int 1))) negG) inP)) (setR 2))
  skS) (sqS (ifS (b2 (vr 3) (bnd (conA (cst (txt [])) (conA (cst (txt [46])) nilA)) lstG) (cmT (inG true))) (sqS (asS (b2 (vr 2) (bnd (conA (vr 3) nilA) lstG) addG) (setR 2))
  skS) skS)
  skS))
  skS))
  skS))
  (sqS (asS (m1 (cst (txt [47])) (b2 (b2 (bnd (conA (cst (txt [46, 46])) nilA) lstG) (vr 1) mulG) (vr 2) addG) (joinG)) (setR 4))
  (sqS (rtS (ifV (b2 (slV (vr 0) noP (bnd (cst (.d (.int 1))) inP)) (cst (txt [47])) (cmT (eqG))) (b2 (cst (txt [47])) (vr 4) addG) ((orV (vr 4) (cst (txt [46]))))))
  skS))))
noncomputable def m__law_plain_path : Mf := mOf 5 f__law_plain_path
theorem ok__law_plain_path (M : Md P w K mg cls)  : Dfn P w K mg base 1 "_law_plain_path" (spM K T cls clo 1 m__law_plain_path) := by
  obtain ⟨f, fd, F, hm⟩ := M.d__law_plain_path
  exact ⟨f, fd, ["path"], fn_mkA (k := 0) (g := f__law_plain_path) F sc__law_plain_path rfl rfl rfl (fun W as cdv A outer s H E hr cs => by
  have ct := cs.toCt
  exact (es_cons (es_par ct (i := 1) (j := 2) (ea_cons (ev_int) (ea_cons (ev_lst ea_nil) ea_nil)))
  (es_cons (es_for cs (ei_seq ct (ev_m1 PySem.F.slot_str_split PySem.F.type_str_split mt_split (split_ok) (ev_var (i := 0)) (ev_str (by rfl)))) (eg_name ct (i := 3)) (es_cons (es_if ((et_and (et_cmp (op_eqA ct) (eq_ok ct.K) (ev_var (i := 3)) (ev_str (by rfl))) (et_and1 (et_cmp (op_eqA ct) (eq_ok ct.K) (ev_var (i := 2)) (ev_lst ea_nil)))).pt) (es_cons (es_asg (ev_op op_addA (add_ok ct.K) (ev_var (i := 1)) (ev_callTy (call_intA) (int_ok) (by rfl) M.n_int PyProof.Rows.boot_int (ea_cons (ev_cmp (op_neA ct) (ne_ok ct.K) (ev_sl ct (ev_var (i := 0)) ep_no (ep_in (ev_int))) (ev_str (by rfl))) ea_nil))) (eg_name ct (i := 1)))
  es_nil) (es_cons (es_if (et_cmp (op_eqA ct) (eq_ok ct.K) (ev_var (i := 3)) (ev_str (by rfl))) (es_cons (es_asg (ev_sl ct (ev_var (i := 2)) ep_no (ep_in (ev_neg (ev_int)))) (eg_name ct (i := 2)))
  es_nil) (es_cons (es_if (et_cmp (op_notInA ct) (in_ok ct.K) (ev_var (i := 3)) (ev_lst (ea_cons (ev_str (by rfl)) (ea_cons (ev_str (by rfl)) ea_nil)))) (es_cons (es_asg (ev_op op_addA (add_ok ct.K) (ev_var (i := 2)) (ev_lst (ea_cons (ev_var (i := 3)) ea_nil))) (eg_name ct (i := 2)))
  es_nil) es_nil)
  es_nil))
  es_nil))
  es_nil))
  (es_cons (es_asg (ev_m1 PySem.F.slot_str_join PySem.F.type_str_join mt_join (join_ok ct.K) (ev_str (by rfl)) (ev_op op_addA (add_ok ct.K) (ev_op op_mulA (mul_ok ct.K) (ev_lst (ea_cons (ev_str (by rfl)) ea_nil)) (ev_var (i := 1))) (ev_var (i := 2)))) (eg_name ct (i := 4)))
  (es_cons (es_ret (ev_if (et_cmp (op_eqA ct) (eq_ok ct.K) (ev_sl ct (ev_var (i := 0)) ep_no (ep_in (ev_int))) (ev_str (by rfl))) (ev_op op_addA (add_ok ct.K) (ev_str (by rfl)) (ev_var (i := 4))) ((ev_or ct (ev_var (i := 4)) (ev_one (ev_str (by rfl)))))))
  es_nil))))), hm, F.kp, F.binds fun _ _ _ _ _ _ us hl => match us, hl with | [_], _ => rfl⟩
theorem sc__law_within : FnScope ["one", "other", "mine", "theirs", "path", "part"] ["one", "other"] (defScope (top 29)) := ⟨rfl, rfl, rfl, by decide +kernel, rfl, by decide +kernel, by decide +kernel⟩
noncomputable def f__law_within : Env → Sr := (sqS (ifS (b2 (b2 (slV (vr 0) noP (bnd (cst (.d (.int 1))) inP)) (cst (txt [47])) (cmV (eqG))) (b2 (slV (vr 1) noP (bnd (cst (.d (.int 1))) inP)) (cst (txt [47])) (cmV (eqG))) (cmT (neG))) (sqS (rtS (cst (.d (.bool false))))
  skS) skS)
  (sqS (asS (frz (lcN [4] (bnd (bnd (conA (vr 0) (conA (vr 1) nilA)) tupG) itG) (setR 4) yesT (frz (lcN [5] (bnd (m1 (vr 4) (cst (txt [47])) (splitG)) itG) (setR 5) (b2 (vr 5) (bnd (conA (cst (txt [])) (conA (cst (txt [46])) nilA)) lstG) (cmT (inG true))) (vr 5))))) (lsG 2 (conG (setR 2) (conG (setR 3) nilG))))
  (sqS (rtS (b2 (slV (vr 2) noP (bnd (bnd (conA (vr 3) nilA) lenG) inP)) (vr 3) (cmV (eqG))))
  skS)))
noncomputable def m__law_within : Mf := mOf 6 f__law_within
theorem ok__law_within (M : Md P w K mg cls)  : Dfn P w K mg base 1 "_law_within" (spM K T cls clo 2 m__law_within) := by
  obtain ⟨f, fd, F, hm⟩ := M.d__law_within
  exact ⟨f, fd, ["one", "other"], fn_mkA (k := 0) (g := f__law_within) F sc__law_within rfl rfl rfl (fun W as cdv A outer s H E hr cs => by
  have ct := cs.toCt
  exact (es_cons (es_if (et_cmp (op_neA ct) (ne_ok ct.K) (ev_cmp (op_eqA ct) (eq_ok ct.K) (ev_sl ct (ev_var (i := 0)) ep_no (ep_in (ev_int))) (ev_str (by rfl))) (ev_cmp (op_eqA ct) (eq_ok ct.K) (ev_sl ct (ev_var (i := 1)) ep_no (ep_in (ev_int))) (ev_str (by rfl)))) (es_cons (es_ret (ev_bl))
  es_nil) es_nil)
  (es_cons (es_asg (ev_frz (en_lc ct (own := [("path", 4)]) (blkOk_by (by rfl)) (ei_seq ct (ev_tup (ea_cons (ev_var (i := 0)) (ea_cons (ev_var (i := 1)) ea_nil)))) (fun _ _ _ _ _ _ _ ct => ⟨(eg_name ct (i := 4)), epts_nil, (ev_frz (en_lc ct (own := [("part", 5)]) (blkOk_by (by rfl)) (ei_seq ct (ev_m1 PySem.F.slot_str_split PySem.F.type_str_split mt_split (split_ok) (ev_var (i := 4)) (ev_str (by rfl)))) (fun _ _ _ _ _ _ _ ct => ⟨(eg_name ct (i := 5)), (epts_one (et_cmp (op_notInA ct) (in_ok ct.K) (ev_var (i := 5)) (ev_lst (ea_cons (ev_str (by rfl)) (ea_cons (ev_str (by rfl)) ea_nil))))), (ev_var (i := 5))⟩)))⟩))) (eg_lst ct (eg_cons (eg_name ct (i := 2)) (eg_cons (eg_name ct (i := 3)) eg_nil))))
  (es_cons (es_ret (ev_cmp (op_eqA ct) (eq_ok ct.K) (ev_sl ct (ev_var (i := 2)) ep_no (ep_in (ev_callB (call_lenA) (len_ok ct.K) (by rfl) M.n_len PySem.boot_len (ea_cons (ev_var (i := 3)) ea_nil)))) (ev_var (i := 3))))
  es_nil)))), hm, F.kp, F.binds fun _ _ _ _ _ _ us hl => match us, hl with | [_, _], _ => rfl⟩
theorem sc__law_shared : FnScope ["paths", "rows", "many", "body", "path", "part", "k", "row"] ["paths"] (defScope (top 30)) := ⟨rfl, rfl, rfl, by decide +kernel, rfl, by decide +kernel, by decide +kernel⟩
noncomputable def f__law_shared : Env → Sr := (sqS (asS (frz (lcN [4] (bnd (vr 0) itG) (setR 4) yesT (frz (lcN [5] (bnd (m1 (vr 4) (cst (txt [47])) (splitG)) itG) (setR 5) (b2 (vr 5) (bnd (conA (cst (txt [])) (conA (cst (txt [46])) nilA)) lstG) (cmT (inG true))) (vr 5))))) (setR 1))
  (sqS (asS (bnd (conA (frz (lcN [6] (bnd (conA (cst (.d (.int 12))) nilA) rgG) (setR 6) (b2 (frz (lcN [7] (bnd (vr 1) itG) (setR 7) ((orT (b2 (bnd (conA (vr 7) nilA) lenG) (vr 6) (cmT (ltOf ltI ltL))) (b2 (slV (vr 7) noP (bnd (vr 6) inP)) (slV (b2 (vr 1) (cst (.d (.int 0))) ixG) noP (bnd (vr 6) inP)) (cmT (neG))))) (vr 7))) (bnd nilA lstG) (cmT (eqG))) (vr 6))) nilA) maxLG) (setR 2))
  (sqS (asS (m1 (cst (txt [47])) (slV (b2 (vr 1) (cst (.d (.int 0))) ixG) noP (bnd (vr 2) inP)) (joinG)) (setR 3))
  (sqS (rtS (ifV (b2 (slV (b2 (vr 0) (cst (.d (.int 0))) ixG) noP (bnd (cst (.d (.int 1))) inP)) (cst (txt [47])) (cmT (eqG))) (b2 (cst (txt [47])) (vr 3) addG) ((orV (vr 3) (cst (txt [46]))))))
  skS))))
noncomputable def m__law_shared : Mf := mOf 8 f__law_shared
theorem ok__law_shared (M : Md P w K mg cls)  : Dfn P w K mg base 1 "_law_shared" (spM K T cls clo 1 m__law_shared) := by
  obtain ⟨f, fd, F, hm⟩ := M.d__law_shared
  exact ⟨f, fd, ["paths"], fn_mkA (k := 0) (g := f__law_shared) F sc__law_shared rfl rfl rfl (fun W as cdv A outer s H E hr cs => by
  have ct := cs.toCt
  exact (es_cons (es_asg (ev_frz (en_lc ct (own := [("path", 4)]) (blkOk_by (by rfl)) (ei_seq ct (ev_var (i := 0))) (fun _ _ _ _ _ _ _ ct => ⟨(eg_name ct (i := 4)), epts_nil, (ev_frz (en_lc ct (own := [("part", 5)]) (blkOk_by (by rfl)) (ei_seq ct (ev_m1 PySem.F.slot_str_split PySem.F.type_str_split mt_split (split_ok) (ev_var (i := 4)) (ev_str (by rfl)))) (fun _ _ _ _ _ _ _ ct => ⟨(eg_name ct (i := 5)), (epts_one (et_cmp (op_notInA ct) (in_ok ct.K) (ev_var (i := 5)) (ev_lst (ea_cons (ev_str (by rfl)) (ea_cons (ev_str (by rfl)) ea_nil))))), (ev_var (i := 5))⟩)))⟩))) (eg_name ct (i := 1)))
  (es_cons (es_asg (ev_callB (cr_max ct.calm) (maxL_ok ct.K) (by rfl) M.n_max PyProof.Rows.boot_max (ea_cons (ev_frz (en_lc ct (own := [("k", 6)]) (blkOk_by (by rfl)) (ei_range1 (by rfl) M.n_range (ea_cons (ev_int) ea_nil)) (fun _ _ _ _ _ _ _ ct => ⟨(eg_name ct (i := 6)), (epts_one (et_cmp (op_eqA ct) (eq_ok ct.K) (ev_frz (en_lc ct (own := [("row", 7)]) (blkOk_by (by rfl)) (ei_seq ct (ev_var (i := 1))) (fun _ _ _ _ _ _ _ ct => ⟨(eg_name ct (i := 7)), (epts_one ((et_or (et_cmp op_ltA (ord_ok) (ev_callB (call_lenA) (len_ok ct.K) (by rfl) M.n_len PySem.boot_len (ea_cons (ev_var (i := 7)) ea_nil)) (ev_var (i := 6))) (et_or1 (et_cmp (op_neA ct) (ne_ok ct.K) (ev_sl ct (ev_var (i := 7)) ep_no (ep_in (ev_var (i := 6)))) (ev_sl ct (ev_ix ix_seq (ix_ok ct.K) (ev_var (i := 1)) (ev_int)) ep_no (ep_in (ev_var (i := 6))))))).pt)), (ev_var (i := 7))⟩))) (ev_lst ea_nil))), (ev_var (i := 6))⟩))) ea_nil)) (eg_name ct (i := 2)))
  (es_cons (es_asg (ev_m1 PySem.F.slot_str_join PySem.F.type_str_join mt_join (join_ok ct.K) (ev_str (by rfl)) (ev_sl ct (ev_ix ix_seq (ix_ok ct.K) (ev_var (i := 1)) (ev_int)) ep_no (ep_in (ev_var (i := 2))))) (eg_name ct (i := 3)))
  (es_cons (es_ret (ev_if (et_cmp (op_eqA ct) (eq_ok ct.K) (ev_sl ct (ev_ix ix_seq (ix_ok ct.K) (ev_var (i := 0)) (ev_int)) ep_no (ep_in (ev_int))) (ev_str (by rfl))) (ev_op op_addA (add_ok ct.K) (ev_str (by rfl)) (ev_var (i := 3))) ((ev_or ct (ev_var (i := 3)) (ev_one (ev_str (by rfl)))))))
  es_nil))))), hm, F.kp, F.binds fun _ _ _ _ _ _ us hl => match us, hl with | [_], _ => rfl⟩
theorem sc_ends_of : FnScope ["name", "body", "ahead", "place"] ["name"] (defScope (top 14)) := ⟨rfl, rfl, rfl, by decide +kernel, rfl, by decide +kernel, by decide +kernel⟩
noncomputable def f_ends_of : Env → Sr := (sqS (xS (bnd (conA (vr 0) nilA) (caN 1 m_check_path)))
  (sqS (ifS (b2 (cst (txt [47])) (vr 0) (cmT (inG false))) (sqS (raS 1)
  skS) skS)
  (sqS (asS (m1 (vr 0) (cst (txt [46])) (tt1 (fun a b => .str (Txt.lstripChars a b)) sizeLine)) (setR 1))
  (sqS (asS (b2 (bnd (conA (vr 0) nilA) lenG) (bnd (conA (vr 1) nilA) lenG) subG) (setR 2))
  (sqS (asS (m1 (vr 1) (cst (txt [46])) (tt1 (fun a b => .int (Txt.rfind a b)) sizeLine)) (setR 3))
  (sqS (ifS (b2 (vr 3) (cst (.d (.int 0))) (cmT (ltOf ltI ltL))) (sqS (rtS (bnd (conA (vr 0) (conA (cst (txt [])) nilA)) tupG))
  skS) skS)
  (sqS (rtS (bnd (conA (slV (vr 0) noP (bnd (b2 (vr 2) (vr 3) addG) inP)) (conA (slV (vr 0) (bnd (b2 (vr 2) (vr 3) addG) inP) noP) nilA)) tupG))
  skS)))))))
noncomputable def m_ends_of : Mf := mOf 4 f_ends_of
theorem ok_ends_of (M : Md P w K mg cls) (D_check_path : Dfn P w K mg base 1 "check_path" (spM K T cls clo 1 m_check_path)) : Dfn P w K mg base 2 "ends_of" (spM K T cls clo 1 m_ends_of) := by
  obtain ⟨f, fd, F, hm⟩ := M.d_ends_of
  exact ⟨f, fd, ["name"], fn_mkA (k := 1) (g := f_ends_of) F sc_ends_of rfl rfl rfl (fun W as cdv A outer s H E hr cs => by
  have ct := cs.toCt
  exact (es_cons (es_expr (ev_call ct (D_check_path.mono (by decide)) hr (by rfl) (ea_cons (ev_var (i := 0)) ea_nil)))
  (es_cons (es_if (et_cmp (op_inA ct) (in_ok ct.K) (ev_str (by rfl)) (ev_var (i := 0))) (es_cons (es_raise ct M.e_PathError)
  es_nil) es_nil)
  (es_cons (es_asg (ev_m1 PySem.F.slot_str_lstrip PySem.F.type_str_lstrip mt_lstripChars (tt1_str) (ev_var (i := 0)) (ev_gStr (by rfl) M.g_HERE)) (eg_name ct (i := 1)))
  (es_cons (es_asg (ev_op op_subA (sub_ok) (ev_callB (call_lenA) (len_ok ct.K) (by rfl) M.n_len PySem.boot_len (ea_cons (ev_var (i := 0)) ea_nil)) (ev_callB (call_lenA) (len_ok ct.K) (by rfl) M.n_len PySem.boot_len (ea_cons (ev_var (i := 1)) ea_nil))) (eg_name ct (i := 2)))
  (es_cons (es_asg (ev_m1 PySem.F.slot_str_rfind PySem.F.type_str_rfind mt_rfind (tt1_int (lim := sizeLine)) (ev_var (i := 1)) (ev_gStr (by rfl) M.g_HERE)) (eg_name ct (i := 3)))
  (es_cons (es_if (et_cmp op_ltA (ord_ok) (ev_var (i := 3)) (ev_int)) (es_cons (es_ret (ev_tup (ea_cons (ev_var (i := 0)) (ea_cons (ev_str (by rfl)) ea_nil))))
  es_nil) es_nil)
  (es_cons (es_ret (ev_tup (ea_cons (ev_sl ct (ev_var (i := 0)) ep_no (ep_in (ev_op op_addA (add_ok ct.K) (ev_var (i := 2)) (ev_var (i := 3))))) (ea_cons (ev_sl ct (ev_var (i := 0)) (ep_in (ev_op op_addA (add_ok ct.K) (ev_var (i := 2)) (ev_var (i := 3)))) ep_no) ea_nil))))
  es_nil)))))))), hm, F.kp, F.binds fun _ _ _ _ _ _ us hl => match us, hl with | [_], _ => rfl⟩
theorem sc__law_rounds : FnScope ["script", "most", "cells", "cell"] ["script", "most"] (defScope (top 24)) := ⟨rfl, rfl, rfl, by decide +kernel, rfl, by decide +kernel, by decide +kernel⟩
noncomputable def f__law_rounds : Env → Sr := (sqS (asS (slV (vr 0) noP (bnd (vr 1) inP)) (setR 2))
  (sqS (ifS (b2 (vr 2) (bnd nilA lstG) (cmT (eqG))) (sqS (asS (bnd (conA (cst (.d (.int 0))) nilA) lstG) (setR 2))
  skS) skS)
  (sqS (rtO true (lc1 [3] (bnd (vr 2) itG) (setR 3) (bnd (conA (vr 3) nilA) (caR 1 m__law_dice))))
  skS)))
noncomputable def m__law_rounds : Mr := mOfR true 4 f__law_rounds
theorem ok__law_rounds (M : Md P w K mg cls) (D__law_dice : Dfn P w K mg base 1 "_law_dice" (spR false K T cls clo 1 m__law_dice)) : Dfn P w K mg base 2 "_law_rounds" (spR true K T cls clo 2 m__law_rounds) := by
  obtain ⟨f, fd, F, hm⟩ := M.d__law_rounds
  exact ⟨f, fd, ["script", "most"], fn_mkR (k := 1) (g := f__law_rounds) F sc__law_rounds rfl rfl rfl (fun W as cdv A outer s H E hr cs => by
  have ct := cs.toCt
  exact (es_cons (es_asg (ev_sl ct (ev_var (i := 0)) ep_no (ep_in (ev_var (i := 1)))) (eg_name ct (i := 2)))
  (es_cons (es_if (et_cmp (op_eqA ct) (eq_ok ct.K) (ev_var (i := 2)) (ev_lst ea_nil)) (es_cons (es_asg (ev_lst (ea_cons (ev_int) ea_nil)) (eg_name ct (i := 2)))
  es_nil) es_nil)
  (es_cons (es_retO (er_lc1 ct (own := [("cell", 3)]) (blkOk_by (by rfl)) (ei_seq ct (ev_var (i := 2))) (fun _ _ _ _ _ _ _ ct => ⟨(eg_name ct (i := 3)), new_rt (er_call ct (D__law_dice.mono (by decide)) hr (by rfl) (ea_cons (ev_var (i := 3)) ea_nil))⟩)))
  es_nil)))), hm, F.kp, F.binds fun _ _ _ _ _ _ us hl => match us, hl with | [_, _], _ => rfl⟩
theorem sc__law_roll : FnScope ["dice", "many", "found"] ["dice", "many"] (defScope (top 23)) := ⟨rfl, rfl, rfl, by decide +kernel, rfl, by decide +kernel, by decide +kernel⟩
noncomputable def f__law_roll (self : Mf) : Env → Sr := (sqS (ifS ((orT (b2 (b2 (vr 0) (cst (.d (.int 2))) ixG) (cst (.d (.int 2))) (cmT (eqG))) ((andT (b2 (b2 (vr 0) (cst (.d (.int 2))) ixG) (cst (.d (.int 1))) (cmT (eqG))) (b2 (b2 (vr 0) (cst (.d (.int 0))) ixG) (cst (.d (.int 0))) (cmT (ltOf gtI gtL))))))) (sqS (asS (b2 (bnd (conA (b2 (vr 0) (cst (.d (.int 0))) ixG) nilA) intG) (vr 1) modG) (setR 2))
  (sqS (stS (b2 (b2 (vr 0) (cst (.d (.int 0))) ixG) (vr 1) fdivG) (vr 0) (cst (.d (.int 0))))
  (sqS (rtS (vr 2))
  skS))) skS)
  (sqS (stS (cst (.d (.int 0))) (vr 0) (cst (.d (.int 2))))
  (sqS (ifS (b2 (vr 1) (cst (.d (.int 100000000))) (cmT (ltOf gtI gtL))) (sqS (rtS (b2 (bnd (conA (b2 (b2 (bnd (conA (vr 0) (conA (b2 (b2 (vr 1) (cst (.d (.int 100000000))) fdivG) (cst (.d (.int 1))) addG) nilA)) (caN 2 self)) (cst (.d (.int 100000000))) mulG) (bnd (conA (vr 0) (conA (cst (.d (.int 100000000))) nilA)) (caN 2 self)) addG) nilA) intG) (vr 1) modG))
  skS) skS)
  (sqS (stS (b2 (bnd (conA (b2 (b2 (b2 (b2 (vr 0) (cst (.d (.int 0))) ixG) (cst (.d (.int 48271))) mulG) (b2 (b2 (vr 0) (cst (.d (.int 1))) ixG) (cst (.d (.int 69621))) mulG) addG) (cst (.d (.int 11))) addG) nilA) intG) (cst (.d (.int 2147483647))) modG) (vr 0) (cst (.d (.int 0))))
  (sqS (stS (b2 (b2 (vr 0) (cst (.d (.int 1))) ixG) (cst (.d (.int 1))) addG) (vr 0) (cst (.d (.int 1))))
  (sqS (rtS (b2 (bnd (conA (b2 (b2 (vr 0) (cst (.d (.int 0))) ixG) (cst (.d (.int 7))) fdivG) nilA) intG) (vr 1) modG))
  skS))))))
noncomputable def m__law_roll : Mf := mRec 3 f__law_roll 4
theorem ok__law_roll (M : Md P w K mg cls)  : Dfn P w K mg base 5 "_law_roll" (spM K T cls clo 2 m__law_roll) := by
  obtain ⟨f, fd, F, hm⟩ := M.d__law_roll
  have key : ∀ r : Nat, Dfn P w K mg base (1 + r) "_law_roll" (spM K T cls clo 2 (mRec 3 f__law_roll r)) := fun r => by
    induction r with
    | zero => exact dfn_stk (ps := ["dice", "many"]) hm F.kp (F.binds fun _ _ _ _ _ _ us hl => match us, hl with | [_, _], _ => rfl) rfl
    | succ r D_self =>
      exact ⟨f, fd, ["dice", "many"], fn_mkA (k := 1 + r) (g := f__law_roll (mRec 3 f__law_roll r)) F sc__law_roll rfl rfl rfl (fun W as cdv A outer s H E hr cs => by
  have ct := cs.toCt
  exact (es_cons (es_if ((et_or (et_cmp (op_eqA ct) (eq_ok ct.K) (ev_ix ix_seq (ix_ok ct.K) (ev_var (i := 0)) (ev_int)) (ev_int)) (et_or1 ((et_and (et_cmp (op_eqA ct) (eq_ok ct.K) (ev_ix ix_seq (ix_ok ct.K) (ev_var (i := 0)) (ev_int)) (ev_int)) (et_and1 (et_cmp op_gtA (ord_ok) (ev_ix ix_seq (ix_ok ct.K) (ev_var (i := 0)) (ev_int)) (ev_int)))).pt))).pt) (es_cons (es_asg (ev_op op_modN (mod_ok) (ev_callTy (call_intA) (int_ok) (by rfl) M.n_int PyProof.Rows.boot_int (ea_cons (ev_ix ix_seq (ix_ok ct.K) (ev_var (i := 0)) (ev_int)) ea_nil)) (ev_var (i := 1))) (eg_name ct (i := 2)))
  (es_cons (es_set (ev_var (i := 0)) (ev_int) (ev_op op_fdivN (fdiv_ok) (ev_ix ix_seq (ix_ok ct.K) (ev_var (i := 0)) (ev_int)) (ev_var (i := 1))))
  (es_cons (es_ret (ev_var (i := 2)))
  es_nil))) es_nil)
  (es_cons (es_set (ev_var (i := 0)) (ev_int) (ev_int))
  (es_cons (es_if (et_cmp op_gtA (ord_ok) (ev_var (i := 1)) (ev_int)) (es_cons (es_ret (ev_op op_modN (mod_ok) (ev_callTy (call_intA) (int_ok) (by rfl) M.n_int PyProof.Rows.boot_int (ea_cons (ev_op op_addA (add_ok ct.K) (ev_op op_mulA (mul_ok ct.K) (ev_call ct (D_self.mono (by omega)) hr (by rfl) (ea_cons (ev_var (i := 0)) (ea_cons (ev_op op_addA (add_ok ct.K) (ev_op op_fdivN (fdiv_ok) (ev_var (i := 1)) (ev_int)) (ev_int)) ea_nil))) (ev_int)) (ev_call ct (D_self.mono (by omega)) hr (by rfl) (ea_cons (ev_var (i := 0)) (ea_cons (ev_int) ea_nil)))) ea_nil)) (ev_var (i := 1))))
  es_nil) es_nil)
  (es_cons (es_set (ev_var (i := 0)) (ev_int) (ev_op op_modN (mod_ok) (ev_callTy (call_intA) (int_ok) (by rfl) M.n_int PyProof.Rows.boot_int (ea_cons (ev_op op_addA (add_ok ct.K) (ev_op op_addA (add_ok ct.K) (ev_op op_mulA (mul_ok ct.K) (ev_ix ix_seq (ix_ok ct.K) (ev_var (i := 0)) (ev_int)) (ev_int)) (ev_op op_mulA (mul_ok ct.K) (ev_ix ix_seq (ix_ok ct.K) (ev_var (i := 0)) (ev_int)) (ev_int))) (ev_int)) ea_nil)) (ev_int)))
  (es_cons (es_set (ev_var (i := 0)) (ev_int) (ev_op op_addA (add_ok ct.K) (ev_ix ix_seq (ix_ok ct.K) (ev_var (i := 0)) (ev_int)) (ev_int)))
  (es_cons (es_ret (ev_op op_modN (mod_ok) (ev_callTy (call_intA) (int_ok) (by rfl) M.n_int PyProof.Rows.boot_int (ea_cons (ev_op op_fdivN (fdiv_ok) (ev_ix ix_seq (ix_ok ct.K) (ev_var (i := 0)) (ev_int)) (ev_int)) ea_nil)) (ev_var (i := 1))))
  es_nil))))))), hm, F.kp, F.binds fun _ _ _ _ _ _ us hl => match us, hl with | [_, _], _ => rfl⟩
  exact key 4
theorem sc__law_drawn : FnScope ["dice", "parts", "path", "k"] ["dice"] (defScope (top 26)) := ⟨rfl, rfl, rfl, by decide +kernel, rfl, by decide +kernel, by decide +kernel⟩
noncomputable def f__law_drawn : Env → Sr := (sqS (asS (frz (lcN [3] (bnd (conA (b2 (cst (.d (.int 1))) (bnd (conA (vr 0) (conA (cst (.d (.int 5))) nilA)) (caN 2 m__law_roll)) addG) nilA) rgG) (setR 3) yesT (b2 (bnd (conA (cst (txt [97])) (conA (cst (txt [98])) (conA (cst (txt [99, 46, 100])) (conA (cst (txt [46])) (conA (cst (txt [46, 46])) (conA (cst (txt [46, 101])) (conA (cst (txt [])) nilA))))))) lstG) (bnd (conA (vr 0) (conA (cst (.d (.int 7))) nilA)) (caN 2 m__law_roll)) ixG))) (setR 1))
  (sqS (asS (b2 (b2 (bnd (conA (cst (txt [])) (conA (cst (txt [47])) nilA)) lstG) (bnd (conA (vr 0) (conA (cst (.d (.int 2))) nilA)) (caN 2 m__law_roll)) ixG) (m1 (cst (txt [47])) (vr 1) (joinG)) addG) (setR 2))
  (sqS (rtS (ifV (b2 (vr 2) (cst (txt [])) (cmT (neG))) (vr 2) (cst (txt [97]))))
  skS)))
noncomputable def m__law_drawn : Mf := mOf 4 f__law_drawn
theorem ok__law_drawn (M : Md P w K mg cls) (D__law_roll : Dfn P w K mg base 5 "_law_roll" (spM K T cls clo 2 m__law_roll)) : Dfn P w K mg base 6 "_law_drawn" (spM K T cls clo 1 m__law_drawn) := by
  obtain ⟨f, fd, F, hm⟩ := M.d__law_drawn
  exact ⟨f, fd, ["dice"], fn_mkA (k := 5) (g := f__law_drawn) F sc__law_drawn rfl rfl rfl (fun W as cdv A outer s H E hr cs => by
  have ct := cs.toCt
  exact (es_cons (es_lc ct (i := 1) (own := [("k", 3)]) (blkOk_by (by rfl)) (ei_range1 (by rfl) M.n_range (ea_cons (ev_op op_addA (add_ok ct.K) (ev_int) (ev_call ct (D__law_roll.mono (by decide)) hr (by rfl) (ea_cons (ev_var (i := 0)) (ea_cons (ev_int) ea_nil)))) ea_nil)) (fun _ _ _ _ _ _ _ ct => ⟨(eg_name ct (i := 3)), epts_nil, (ev_ix ix_seq (ix_ok ct.K) (ev_lst (ea_cons (ev_str (by rfl)) (ea_cons (ev_str (by rfl)) (ea_cons (ev_str (by rfl)) (ea_cons (ev_str (by rfl)) (ea_cons (ev_str (by rfl)) (ea_cons (ev_str (by rfl)) (ea_cons (ev_str (by rfl)) ea_nil)))))))) (ev_call ct (D__law_roll.mono (by decide)) hr (by rfl) (ea_cons (ev_var (i := 0)) (ea_cons (ev_int) ea_nil))))⟩))
  (es_cons (es_asg (ev_op op_addA (add_ok ct.K) (ev_ix ix_seq (ix_ok ct.K) (ev_lst (ea_cons (ev_str (by rfl)) (ea_cons (ev_str (by rfl)) ea_nil))) (ev_call ct (D__law_roll.mono (by decide)) hr (by rfl) (ea_cons (ev_var (i := 0)) (ea_cons (ev_int) ea_nil)))) (ev_m1 PySem.F.slot_str_join PySem.F.type_str_join mt_join (join_ok ct.K) (ev_str (by rfl)) (ev_var (i := 1)))) (eg_name ct (i := 2)))
  (es_cons (es_ret (ev_if (et_cmp (op_neA ct) (ne_ok ct.K) (ev_var (i := 2)) (ev_str (by rfl))) (ev_var (i := 2)) (ev_str (by rfl))))
  es_nil)))), hm, F.kp, F.binds fun _ _ _ _ _ _ us hl => match us, hl with | [_], _ => rfl⟩
theorem sc_parts_of : FnScope ["path", "part"] ["path"] (defScope (top 9)) := ⟨rfl, rfl, rfl, by decide +kernel, rfl, by decide +kernel, by decide +kernel⟩
noncomputable def f_parts_of : Env → Sr := (sqS (xS (bnd (conA (vr 0) nilA) (caN 1 m_check_path)))
  (sqS (rtS (tupGx [1] (bnd (m1 (vr 0) (cst (txt [47])) (splitG)) itG) (setR 1) (b2 (vr 1) (bnd (conA (cst (txt [])) (conA (cst (txt [46])) nilA)) tupG) (cmT (inG true))) (vr 1)))
  skS))
noncomputable def m_parts_of : Mf := mOf 2 f_parts_of
theorem ok_parts_of (M : Md P w K mg cls) {c Pt : Addr} (dl : ∃ (f : Addr) (fd : FuncData), FunC K "parts_of" "parts_of" (top 9) f fd c ∧ mg "parts_of" = some (.ref f)) (TB : LamX.TabB base mg c Pt) (hT : (Pt, (("parts_of" : Str) ++ ".<locals>." ++ "<genexpr>")) ∈ T) (hu : ∀ p ∈ T, p.1 = Pt → p.2 = (("parts_of" : Str) ++ ".<locals>." ++ "<genexpr>")) (D_check_path : Dfn P w K mg base 1 "check_path" (spM K T cls clo 1 m_check_path)) : Dfn P w K mg base 8 "parts_of" (spM K T cls clo 1 m_parts_of) := by
  obtain ⟨f, fd, F, hm⟩ := dl
  exact ⟨f, fd, ["path"], fn_mkG (k := 7) (g := f_parts_of) F sc_parts_of rfl rfl rfl TB hT hu (fun W as A outer s H E hr cs lg => by
  have ct := cs.toCt
  exact (es_cons (es_expr (ev_call ct (D_check_path.mono (by decide)) hr (by rfl) (ea_cons (ev_var (i := 0)) ea_nil)))
  (es_cons (es_ret (ev_tupG (k := 1) ct lg hr (own := [("part", 1)]) (blkOk_by (by rfl)) (gScp_by (by rfl)) (ei_seq ct (ev_m1 PySem.F.slot_str_split PySem.F.type_str_split mt_split (split_ok) (ev_var (i := 0)) (ev_str (by rfl)))) (fun _ _ _ _ _ _ _ hr ct => ⟨(eg_name ct (i := 1)), (epts_one (et_cmp (op_notInA ct) (in_ok ct.K) (ev_var (i := 1)) (ev_tup (ea_cons (ev_str (by rfl)) (ea_cons (ev_gStr (by rfl) M.g_HERE) ea_nil))))), (ev_var (i := 1))⟩) (hm := M.n_tuple)))
  es_nil))), hm, F.kp, F.fn.binds fun _ _ _ _ _ _ us hl => match us, hl with | [_], _ => rfl⟩
theorem sc_made_plain : FnScope ["path", "found", "part", "body"] ["path"] (defScope (top 10)) := ⟨rfl, rfl, rfl, by decide +kernel, rfl, by decide +kernel, by decide +kernel⟩
noncomputable def f_made_plain : Env → Sr := (sqS (anS 1 (bnd nilA lstN))
  (sqS (frS (bnd (bnd (conA (vr 0) nilA) (caN 1 m_parts_of)) itG) (setR 2) (sqS (ifS (b2 (vr 2) (cst (txt [46, 46])) (cmT (neG))) (sqS (xS (lmA (vr 1) (conA (vr 2) nilA) appG))
  skS) (sqS (ifS ((andT (b2 (vr 1) (bnd nilA lstG) (cmT (neG))) (b2 (b2 (vr 1) (bnd (cst (.d (.int 1))) negG) ixG) (cst (txt [46, 46])) (cmT (neG))))) (sqS (xS (lmA (vr 1) nilA popG))
  skS) (sqS (ifS (notT (bnd (bnd (conA (vr 0) nilA) (caN 1 m_is_whole)) truT)) (sqS (xS (lmA (vr 1) (conA (cst (txt [46, 46])) nilA) appG))
  skS) skS)
  skS))
  skS))
  skS))
  (sqS (asS (m1 (cst (txt [47])) (vrF 1) (joinG)) (setR 3))
  (sqS (ifS (bnd (bnd (conA (vr 0) nilA) (caN 1 m_is_whole)) truT) (sqS (rtS (b2 (cst (txt [47])) (vr 3) addG))
  skS) skS)
  (sqS (rtS (ifV (b2 (vr 3) (cst (txt [])) (cmT (neG))) (vr 3) (cst (txt [46]))))
  skS)))))
noncomputable def m_made_plain : Mf := mOf 4 f_made_plain
theorem ok_made_plain (M : Md P w K mg cls) (D_parts_of : Dfn P w K mg base 8 "parts_of" (spM K T cls clo 1 m_parts_of)) (D_is_whole : Dfn P w K mg base 1 "is_whole" (spM K T cls clo 1 m_is_whole)) : Dfn P w K mg base 9 "made_plain" (spM K T cls clo 1 m_made_plain) := by
  obtain ⟨f, fd, F, hm⟩ := M.d_made_plain
  exact ⟨f, fd, ["path"], fn_mkA (k := 8) (g := f_made_plain) F sc_made_plain rfl rfl rfl (fun W as cdv A outer s H E hr cs => by
  have ct := cs.toCt
  exact (es_cons (es_new ct (i := 1) (en_lst ea_nil))
  (es_cons (es_for cs (ei_seq ct (ev_call ct (D_parts_of.mono (by decide)) hr (by rfl) (ea_cons (ev_var (i := 0)) ea_nil))) (eg_name ct (i := 2)) (es_cons (es_if (et_cmp (op_neA ct) (ne_ok ct.K) (ev_var (i := 2)) (ev_gStr (by rfl) M.g_UP)) (es_cons (es_expr (ev_lm ct PySem.F.slot_list_append PySem.F.type_list_append mt_append (app_ok) (ev_var (i := 1)) (ea_cons (ev_var (i := 2)) ea_nil)))
  es_nil) (es_cons (es_if ((et_and (et_cmp (op_neA ct) (ne_ok ct.K) (ev_var (i := 1)) (ev_lst ea_nil)) (et_and1 (et_cmp (op_neA ct) (ne_ok ct.K) (ev_ix ix_seq (ix_ok ct.K) (ev_var (i := 1)) (ev_neg (ev_int))) (ev_gStr (by rfl) M.g_UP)))).pt) (es_cons (es_expr (ev_lm0 ct PySem.F.slot_list_pop PySem.F.type_list_pop mt_pop (pop_ok) (ev_var (i := 1))))
  es_nil) (es_cons (es_if (et_not (et_tru ct (ev_call ct (D_is_whole.mono (by decide)) hr (by rfl) (ea_cons (ev_var (i := 0)) ea_nil)))) (es_cons (es_expr (ev_lm ct PySem.F.slot_list_append PySem.F.type_list_append mt_append (app_ok) (ev_var (i := 1)) (ea_cons (ev_gStr (by rfl) M.g_UP) ea_nil)))
  es_nil) es_nil)
  es_nil))
  es_nil))
  es_nil))
  (es_cons (es_asg (ev_m1 PySem.F.slot_str_join PySem.F.type_str_join mt_join (join_ok ct.K) (ev_str (by rfl)) (ev_varF (i := 1))) (eg_name ct (i := 3)))
  (es_cons (es_if (et_tru ct (ev_call ct (D_is_whole.mono (by decide)) hr (by rfl) (ea_cons (ev_var (i := 0)) ea_nil))) (es_cons (es_ret (ev_op op_addA (add_ok ct.K) (ev_str (by rfl)) (ev_var (i := 3))))
  es_nil) es_nil)
  (es_cons (es_ret (ev_if (et_cmp (op_neA ct) (ne_ok ct.K) (ev_var (i := 3)) (ev_str (by rfl))) (ev_var (i := 3)) (ev_gStr (by rfl) M.g_HERE)))
  es_nil)))))), hm, F.kp, F.binds fun _ _ _ _ _ _ us hl => match us, hl with | [_], _ => rfl⟩
theorem sc_joined_path : FnScope ["one", "other"] ["one", "other"] (defScope (top 11)) := ⟨rfl, rfl, rfl, by decide +kernel, rfl, by decide +kernel, by decide +kernel⟩
noncomputable def f_joined_path : Env → Sr := (sqS (xS (bnd (conA (vr 0) nilA) (caN 1 m_check_path)))
  (sqS (xS (bnd (conA (vr 1) nilA) (caN 1 m_check_path)))
  (sqS (rtS (ifV (bnd (bnd (conA (vr 1) nilA) (caN 1 m_is_whole)) truT) (bnd (conA (vr 1) nilA) (caN 1 m_made_plain)) (bnd (conA (b2 (b2 (vr 0) (cst (txt [47])) addG) (vr 1) addG) nilA) (caN 1 m_made_plain))))
  skS)))
noncomputable def m_joined_path : Mf := mOf 2 f_joined_path
theorem ok_joined_path (M : Md P w K mg cls) (D_check_path : Dfn P w K mg base 1 "check_path" (spM K T cls clo 1 m_check_path)) (D_is_whole : Dfn P w K mg base 1 "is_whole" (spM K T cls clo 1 m_is_whole)) (D_made_plain : Dfn P w K mg base 9 "made_plain" (spM K T cls clo 1 m_made_plain)) : Dfn P w K mg base 10 "joined_path" (spM K T cls clo 2 m_joined_path) := by
  obtain ⟨f, fd, F, hm⟩ := M.d_joined_path
  exact ⟨f, fd, ["one", "other"], fn_mkA (k := 9) (g := f_joined_path) F sc_joined_path rfl rfl rfl (fun W as cdv A outer s H E hr cs => by
  have ct := cs.toCt
  exact (es_cons (es_expr (ev_call ct (D_check_path.mono (by decide)) hr (by rfl) (ea_cons (ev_var (i := 0)) ea_nil)))
  (es_cons (es_expr (ev_call ct (D_check_path.mono (by decide)) hr (by rfl) (ea_cons (ev_var (i := 1)) ea_nil)))
  (es_cons (es_ret (ev_if (et_tru ct (ev_call ct (D_is_whole.mono (by decide)) hr (by rfl) (ea_cons (ev_var (i := 1)) ea_nil))) (ev_call ct (D_made_plain.mono (by decide)) hr (by rfl) (ea_cons (ev_var (i := 1)) ea_nil)) (ev_call ct (D_made_plain.mono (by decide)) hr (by rfl) (ea_cons (ev_op op_addA (add_ok ct.K) (ev_op op_addA (add_ok ct.K) (ev_var (i := 0)) (ev_str (by rfl))) (ev_var (i := 1))) ea_nil))))
  es_nil)))), hm, F.kp, F.binds fun _ _ _ _ _ _ us hl => match us, hl with | [_, _], _ => rfl⟩
theorem sc_name_of : FnScope ["path", "made"] ["path"] (defScope (top 13)) := ⟨rfl, rfl, rfl, by decide +kernel, rfl, by decide +kernel, by decide +kernel⟩
noncomputable def f_name_of : Env → Sr := (sqS (asS (bnd (conA (vr 0) nilA) (caN 1 m_made_plain)) (setR 1))
  (sqS (rtS (b2 (m1 (vr 1) (cst (txt [47])) (splitG)) (bnd (cst (.d (.int 1))) negG) ixG))
  skS))
noncomputable def m_name_of : Mf := mOf 2 f_name_of
theorem ok_name_of (M : Md P w K mg cls) (D_made_plain : Dfn P w K mg base 9 "made_plain" (spM K T cls clo 1 m_made_plain)) : Dfn P w K mg base 10 "name_of" (spM K T cls clo 1 m_name_of) := by
  obtain ⟨f, fd, F, hm⟩ := M.d_name_of
  exact ⟨f, fd, ["path"], fn_mkA (k := 9) (g := f_name_of) F sc_name_of rfl rfl rfl (fun W as cdv A outer s H E hr cs => by
  have ct := cs.toCt
  exact (es_cons (es_asg (ev_call ct (D_made_plain.mono (by decide)) hr (by rfl) (ea_cons (ev_var (i := 0)) ea_nil)) (eg_name ct (i := 1)))
  (es_cons (es_ret (ev_ix ix_seq (ix_ok ct.K) (ev_m1 PySem.F.slot_str_split PySem.F.type_str_split mt_split (split_ok) (ev_var (i := 1)) (ev_str (by rfl))) (ev_neg (ev_int))))
  es_nil))), hm, F.kp, F.binds fun _ _ _ _ _ _ us hl => match us, hl with | [_], _ => rfl⟩
theorem sc_told_from : FnScope ["path", "start", "one", "other", "mine", "theirs", "same", "rows"] ["path", "start"] (defScope (top 16)) := ⟨rfl, rfl, rfl, by decide +kernel, rfl, by decide +kernel, by decide +kernel⟩
noncomputable def f_told_from : Env → Sr := (sqS (prS 2 3 (conA (bnd (conA (vr 0) nilA) (caN 1 m_made_plain)) (conA (bnd (conA (vr 1) nilA) (caN 1 m_made_plain)) nilA)))
  (sqS (ifS ((orT (b2 (bnd (conA (vr 2) nilA) (caN 1 m_is_whole)) (bnd (conA (vr 3) nilA) (caN 1 m_is_whole)) (cmT (neG))) (orT (b2 (cst (txt [46, 46])) (bnd (conA (vr 2) nilA) (caN 1 m_parts_of)) (cmT (inG false))) (b2 (cst (txt [46, 46])) (bnd (conA (vr 3) nilA) (caN 1 m_parts_of)) (cmT (inG false)))))) (sqS (raS 1)
  skS) skS)
  (sqS (prS 4 5 (conA (bnd (conA (vr 2) nilA) (caN 1 m_parts_of)) (conA (bnd (conA (vr 3) nilA) (caN 1 m_parts_of)) nilA)))
  (sqS (asS (cst (.d (.int 0))) (setR 6))
  (sqS (whX ((andT (b2 (vr 6) (bnd (conA (bnd (conA (vr 4) nilA) lenG) (conA (bnd (conA (vr 5) nilA) lenG) nilA)) minG) (cmT (ltOf ltI ltL))) (b2 (b2 (vr 4) (vr 6) ixG) (b2 (vr 5) (vr 6) ixG) (cmT (eqG))))) (sqS (agS 6 (cst (.d (.int 1))) addI)
  skS))
  (sqS (asS (b2 (b2 (bnd (conA (cst (txt [46, 46])) nilA) lstG) (b2 (bnd (conA (vr 5) nilA) lenG) (vr 6) subG) mulG) (bnd (conA (slV (vr 4) (bnd (vr 6) inP) noP) nilA) listG) addG) (setR 7))
  (sqS (rtS (ifV (b2 (vr 7) (bnd nilA lstG) (cmT (neG))) (m1 (cst (txt [47])) (vr 7) (joinG)) (cst (txt [46]))))
  skS)))))))
noncomputable def m_told_from : Mf := mOf 8 f_told_from
theorem ok_told_from (M : Md P w K mg cls) (D_made_plain : Dfn P w K mg base 9 "made_plain" (spM K T cls clo 1 m_made_plain)) (D_parts_of : Dfn P w K mg base 8 "parts_of" (spM K T cls clo 1 m_parts_of)) (D_is_whole : Dfn P w K mg base 1 "is_whole" (spM K T cls clo 1 m_is_whole)) : Dfn P w K mg base 10 "told_from" (spM K T cls clo 2 m_told_from) := by
  obtain ⟨f, fd, F, hm⟩ := M.d_told_from
  exact ⟨f, fd, ["path", "start"], fn_mkA (k := 9) (g := f_told_from) F sc_told_from rfl rfl rfl (fun W as cdv A outer s H E hr cs => by
  have ct := cs.toCt
  exact (es_cons (es_par ct (i := 2) (j := 3) (ea_cons (ev_call ct (D_made_plain.mono (by decide)) hr (by rfl) (ea_cons (ev_var (i := 0)) ea_nil)) (ea_cons (ev_call ct (D_made_plain.mono (by decide)) hr (by rfl) (ea_cons (ev_var (i := 1)) ea_nil)) ea_nil)))
  (es_cons (es_if ((et_or (et_cmp (op_neA ct) (ne_ok ct.K) (ev_call ct (D_is_whole.mono (by decide)) hr (by rfl) (ea_cons (ev_var (i := 2)) ea_nil)) (ev_call ct (D_is_whole.mono (by decide)) hr (by rfl) (ea_cons (ev_var (i := 3)) ea_nil))) (et_or (et_cmp (op_inA ct) (in_ok ct.K) (ev_gStr (by rfl) M.g_UP) (ev_call ct (D_parts_of.mono (by decide)) hr (by rfl) (ea_cons (ev_var (i := 2)) ea_nil))) (et_or1 (et_cmp (op_inA ct) (in_ok ct.K) (ev_gStr (by rfl) M.g_UP) (ev_call ct (D_parts_of.mono (by decide)) hr (by rfl) (ea_cons (ev_var (i := 3)) ea_nil)))))).pt) (es_cons (es_raise ct M.e_PathError)
  es_nil) es_nil)
  (es_cons (es_par ct (i := 4) (j := 5) (ea_cons (ev_call ct (D_parts_of.mono (by decide)) hr (by rfl) (ea_cons (ev_var (i := 2)) ea_nil)) (ea_cons (ev_call ct (D_parts_of.mono (by decide)) hr (by rfl) (ea_cons (ev_var (i := 3)) ea_nil)) ea_nil)))
  (es_cons (es_asg (ev_int) (eg_name ct (i := 6)))
  (es_cons (es_while cs ((et_and (et_cmp op_ltA (ord_ok) (ev_var (i := 6)) (ev_callB (call_min2 ct.calm) (min_ok) (by rfl) M.n_min PyProof.Rows.boot_min (ea_cons (ev_callB (call_lenA) (len_ok ct.K) (by rfl) M.n_len PySem.boot_len (ea_cons (ev_var (i := 4)) ea_nil)) (ea_cons (ev_callB (call_lenA) (len_ok ct.K) (by rfl) M.n_len PySem.boot_len (ea_cons (ev_var (i := 5)) ea_nil)) ea_nil)))) (et_and1 (et_cmp (op_eqA ct) (eq_ok ct.K) (ev_ix ix_seq (ix_ok ct.K) (ev_var (i := 4)) (ev_var (i := 6))) (ev_ix ix_seq (ix_ok ct.K) (ev_var (i := 5)) (ev_var (i := 6)))))).pt) (es_cons (es_aug ct (i := 6) iop_addA (addI_ok) (ev_int))
  es_nil))
  (es_cons (es_asg (ev_op op_addA (add_ok ct.K) (ev_op op_mulA (mul_ok ct.K) (ev_lst (ea_cons (ev_gStr (by rfl) M.g_UP) ea_nil)) (ev_op op_subA (sub_ok) (ev_callB (call_lenA) (len_ok ct.K) (by rfl) M.n_len PySem.boot_len (ea_cons (ev_var (i := 5)) ea_nil)) (ev_var (i := 6)))) (ev_callTy (call_listA) (list_ok ct.K) (by rfl) M.n_list PyProof.Rows.boot_list (ea_cons (ev_sl ct (ev_var (i := 4)) (ep_in (ev_var (i := 6))) ep_no) ea_nil))) (eg_name ct (i := 7)))
  (es_cons (es_ret (ev_if (et_cmp (op_neA ct) (ne_ok ct.K) (ev_var (i := 7)) (ev_lst ea_nil)) (ev_m1 PySem.F.slot_str_join PySem.F.type_str_join mt_join (join_ok ct.K) (ev_str (by rfl)) (ev_var (i := 7))) (ev_gStr (by rfl) M.g_HERE)))
  es_nil)))))))), hm, F.kp, F.binds fun _ _ _ _ _ _ us hl => match us, hl with | [_, _], _ => rfl⟩
theorem sc_is_within : FnScope ["path", "outer", "one", "other"] ["path", "outer"] (defScope (top 18)) := ⟨rfl, rfl, rfl, by decide +kernel, rfl, by decide +kernel, by decide +kernel⟩
noncomputable def f_is_within : Env → Sr := (sqS (prS 2 3 (conA (bnd (conA (vr 0) nilA) (caN 1 m_made_plain)) (conA (bnd (conA (vr 1) nilA) (caN 1 m_made_plain)) nilA)))
  (sqS (ifS (b2 (bnd (conA (vr 2) nilA) (caN 1 m_is_whole)) (bnd (conA (vr 3) nilA) (caN 1 m_is_whole)) (cmT (neG))) (sqS (rtS (cst (.d (.bool false))))
  skS) skS)
  (sqS (rtS (b2 (slV (bnd (conA (vr 2) nilA) (caN 1 m_parts_of)) noP (bnd (bnd (conA (bnd (conA (vr 3) nilA) (caN 1 m_parts_of)) nilA) lenG) inP)) (bnd (conA (vr 3) nilA) (caN 1 m_parts_of)) (cmV (eqG))))
  skS)))
noncomputable def m_is_within : Mf := mOf 4 f_is_within
theorem ok_is_within (M : Md P w K mg cls) (D_made_plain : Dfn P w K mg base 9 "made_plain" (spM K T cls clo 1 m_made_plain)) (D_is_whole : Dfn P w K mg base 1 "is_whole" (spM K T cls clo 1 m_is_whole)) (D_parts_of : Dfn P w K mg base 8 "parts_of" (spM K T cls clo 1 m_parts_of)) : Dfn P w K mg base 10 "is_within" (spM K T cls clo 2 m_is_within) := by
  obtain ⟨f, fd, F, hm⟩ := M.d_is_within
  exact ⟨f, fd, ["path", "outer"], fn_mkA (k := 9) (g := f_is_within) F sc_is_within rfl rfl rfl (fun W as cdv A outer s H E hr cs => by
  have ct := cs.toCt
  exact (es_cons (es_par ct (i := 2) (j := 3) (ea_cons (ev_call ct (D_made_plain.mono (by decide)) hr (by rfl) (ea_cons (ev_var (i := 0)) ea_nil)) (ea_cons (ev_call ct (D_made_plain.mono (by decide)) hr (by rfl) (ea_cons (ev_var (i := 1)) ea_nil)) ea_nil)))
  (es_cons (es_if (et_cmp (op_neA ct) (ne_ok ct.K) (ev_call ct (D_is_whole.mono (by decide)) hr (by rfl) (ea_cons (ev_var (i := 2)) ea_nil)) (ev_call ct (D_is_whole.mono (by decide)) hr (by rfl) (ea_cons (ev_var (i := 3)) ea_nil))) (es_cons (es_ret (ev_bl))
  es_nil) es_nil)
  (es_cons (es_ret (ev_cmp (op_eqA ct) (eq_ok ct.K) (ev_sl ct (ev_call ct (D_parts_of.mono (by decide)) hr (by rfl) (ea_cons (ev_var (i := 2)) ea_nil)) ep_no (ep_in (ev_callB (call_lenA) (len_ok ct.K) (by rfl) M.n_len PySem.boot_len (ea_cons (ev_call ct (D_parts_of.mono (by decide)) hr (by rfl) (ea_cons (ev_var (i := 3)) ea_nil)) ea_nil)))) (ev_call ct (D_parts_of.mono (by decide)) hr (by rfl) (ea_cons (ev_var (i := 3)) ea_nil))))
  es_nil)))), hm, F.kp, F.binds fun _ _ _ _ _ _ us hl => match us, hl with | [_, _], _ => rfl⟩
theorem sc_parent_of : FnScope ["path"] ["path"] (defScope (top 12)) := ⟨rfl, rfl, rfl, by decide +kernel, rfl, by decide +kernel, by decide +kernel⟩
noncomputable def f_parent_of : Env → Sr := (sqS (rtS (bnd (conA (vr 0) (conA (cst (txt [46, 46])) nilA)) (caN 2 m_joined_path)))
  skS)
noncomputable def m_parent_of : Mf := mOf 1 f_parent_of
theorem ok_parent_of (M : Md P w K mg cls) (D_joined_path : Dfn P w K mg base 10 "joined_path" (spM K T cls clo 2 m_joined_path)) : Dfn P w K mg base 11 "parent_of" (spM K T cls clo 1 m_parent_of) := by
  obtain ⟨f, fd, F, hm⟩ := M.d_parent_of
  exact ⟨f, fd, ["path"], fn_mkA (k := 10) (g := f_parent_of) F sc_parent_of rfl rfl rfl (fun W as cdv A outer s H E hr cs => by
  have ct := cs.toCt
  exact (es_cons (es_ret (ev_call ct (D_joined_path.mono (by decide)) hr (by rfl) (ea_cons (ev_var (i := 0)) (ea_cons (ev_gStr (by rfl) M.g_UP) ea_nil))))
  es_nil)), hm, F.kp, F.binds fun _ _ _ _ _ _ us hl => match us, hl with | [_], _ => rfl⟩
theorem sc_with_end : FnScope ["path", "end", "made", "name", "stem"] ["path", "end"] (defScope (top 15)) := ⟨rfl, rfl, rfl, by decide +kernel, rfl, by decide +kernel, by decide +kernel⟩
noncomputable def f_with_end : Env → Sr := (sqS (prS 2 3 (conA (bnd (conA (vr 0) nilA) (caN 1 m_made_plain)) (conA (bnd (conA (vr 0) nilA) (caN 1 m_name_of)) nilA)))
  (sqS (ifS ((orT (b2 (vr 3) (bnd (conA (cst (txt [])) (conA (cst (txt [46])) (conA (cst (txt [46, 46])) nilA))) tupG) (cmT (inG false))) (orT ((andT (b2 (vr 1) (cst (txt [])) (cmT (neG))) (b2 (b2 (vr 1) (cst (.d (.int 0))) ixG) (cst (txt [46])) (cmT (neG))))) (b2 (cst (txt [47])) (vr 1) (cmT (inG false)))))) (sqS (raS 1)
  skS) skS)
  (sqS (asS (b2 (bnd (conA (vr 3) nilA) (caN 1 m_ends_of)) (cst (.d (.int 0))) ixG) (setR 4))
  (sqS (rtS (b2 (b2 (slV (vr 2) noP (bnd (b2 (bnd (conA (vr 2) nilA) lenG) (bnd (conA (vr 3) nilA) lenG) subG) inP)) (vr 4) addG) (vr 1) addG))
  skS))))
noncomputable def m_with_end : Mf := mOf 5 f_with_end
theorem ok_with_end (M : Md P w K mg cls) (D_made_plain : Dfn P w K mg base 9 "made_plain" (spM K T cls clo 1 m_made_plain)) (D_name_of : Dfn P w K mg base 10 "name_of" (spM K T cls clo 1 m_name_of)) (D_ends_of : Dfn P w K mg base 2 "ends_of" (spM K T cls clo 1 m_ends_of)) : Dfn P w K mg base 11 "with_end" (spM K T cls clo 2 m_with_end) := by
  obtain ⟨f, fd, F, hm⟩ := M.d_with_end
  exact ⟨f, fd, ["path", "end"], fn_mkA (k := 10) (g := f_with_end) F sc_with_end rfl rfl rfl (fun W as cdv A outer s H E hr cs => by
  have ct := cs.toCt
  exact (es_cons (es_par ct (i := 2) (j := 3) (ea_cons (ev_call ct (D_made_plain.mono (by decide)) hr (by rfl) (ea_cons (ev_var (i := 0)) ea_nil)) (ea_cons (ev_call ct (D_name_of.mono (by decide)) hr (by rfl) (ea_cons (ev_var (i := 0)) ea_nil)) ea_nil)))
  (es_cons (es_if ((et_or (et_cmp (op_inA ct) (in_ok ct.K) (ev_var (i := 3)) (ev_tup (ea_cons (ev_str (by rfl)) (ea_cons (ev_gStr (by rfl) M.g_HERE) (ea_cons (ev_gStr (by rfl) M.g_UP) ea_nil))))) (et_or ((et_and (et_cmp (op_neA ct) (ne_ok ct.K) (ev_var (i := 1)) (ev_str (by rfl))) (et_and1 (et_cmp (op_neA ct) (ne_ok ct.K) (ev_ix ix_seq (ix_ok ct.K) (ev_var (i := 1)) (ev_int)) (ev_gStr (by rfl) M.g_HERE)))).pt) (et_or1 (et_cmp (op_inA ct) (in_ok ct.K) (ev_str (by rfl)) (ev_var (i := 1)))))).pt) (es_cons (es_raise ct M.e_PathError)
  es_nil) es_nil)
  (es_cons (es_asg (ev_ix ix_seq (ix_ok ct.K) (ev_call ct (D_ends_of.mono (by decide)) hr (by rfl) (ea_cons (ev_var (i := 3)) ea_nil)) (ev_int)) (eg_name ct (i := 4)))
  (es_cons (es_ret (ev_op op_addA (add_ok ct.K) (ev_op op_addA (add_ok ct.K) (ev_sl ct (ev_var (i := 2)) ep_no (ep_in (ev_op op_subA (sub_ok) (ev_callB (call_lenA) (len_ok ct.K) (by rfl) M.n_len PySem.boot_len (ea_cons (ev_var (i := 2)) ea_nil)) (ev_callB (call_lenA) (len_ok ct.K) (by rfl) M.n_len PySem.boot_len (ea_cons (ev_var (i := 3)) ea_nil))))) (ev_var (i := 4))) (ev_var (i := 1))))
  es_nil))))), hm, F.kp, F.binds fun _ _ _ _ _ _ us hl => match us, hl with | [_, _], _ => rfl⟩
theorem sc_shared_path : FnScope ["paths", "rows", "same", "body", "path", "row"] ["paths"] (defScope (top 17)) := ⟨rfl, rfl, rfl, by decide +kernel, rfl, by decide +kernel, by decide +kernel⟩
noncomputable def f_shared_path : Env → Sr := (sqS (ifS ((orT (b2 (bnd (conA (vr 0) nilA) lenG) (cst (.d (.int 0))) (cmT (eqG))) (bnd (anyGx true [4] (bnd (vr 0) itG) (setR 4) yesT (b2 (bnd (conA (vr 4) nilA) (caN 1 m_is_whole)) (bnd (conA (b2 (vr 0) (cst (.d (.int 0))) ixG) nilA) (caN 1 m_is_whole)) (cmV (neG)))) truT))) (sqS (raS 1)
  skS) skS)
  (sqS (asS (frz (lcN [4] (bnd (vr 0) itG) (setR 4) yesT (bnd (conA (bnd (conA (vr 4) nilA) (caN 1 m_made_plain)) nilA) (caN 1 m_parts_of)))) (setR 1))
  (sqS (asS (cst (.d (.int 0))) (setR 2))
  (sqS (whX (bnd (anyGx false [5] (bnd (vr 1) itG) (setR 5) yesT ((andV (b2 (bnd (conA (vr 5) nilA) lenG) (vr 2) (cmV (ltOf gtI gtL))) (b2 (b2 (vr 5) (vr 2) ixG) (b2 (b2 (vr 1) (cst (.d (.int 0))) ixG) (vr 2) ixG) (cmV (eqG)))))) truT) (sqS (agS 2 (cst (.d (.int 1))) addI)
  skS))
  (sqS (asS (m1 (cst (txt [47])) (slV (b2 (vr 1) (cst (.d (.int 0))) ixG) noP (bnd (vr 2) inP)) (joinG)) (setR 3))
  (sqS (rtS (ifV (bnd (bnd (conA (b2 (vr 0) (cst (.d (.int 0))) ixG) nilA) (caN 1 m_is_whole)) truT) (b2 (cst (txt [47])) (vr 3) addG) (ifV (b2 (vr 3) (cst (txt [])) (cmT (neG))) (vr 3) (cst (txt [46])))))
  skS))))))
noncomputable def m_shared_path : Mf := mOf 6 f_shared_path
theorem ok_shared_path (M : Md P w K mg cls) {c Pt : Addr} (dl : ∃ (f : Addr) (fd : FuncData), FunC K "shared_path" "shared_path" (top 17) f fd c ∧ mg "shared_path" = some (.ref f)) (TB : LamX.TabB base mg c Pt) (hT : (Pt, (("shared_path" : Str) ++ ".<locals>." ++ "<genexpr>")) ∈ T) (hu : ∀ p ∈ T, p.1 = Pt → p.2 = (("shared_path" : Str) ++ ".<locals>." ++ "<genexpr>")) (D_parts_of : Dfn P w K mg base 8 "parts_of" (spM K T cls clo 1 m_parts_of)) (D_is_whole : Dfn P w K mg base 1 "is_whole" (spM K T cls clo 1 m_is_whole)) (D_made_plain : Dfn P w K mg base 9 "made_plain" (spM K T cls clo 1 m_made_plain)) : Dfn P w K mg base 16 "shared_path" (spM K T cls clo 1 m_shared_path) := by
  obtain ⟨f, fd, F, hm⟩ := dl
  exact ⟨f, fd, ["paths"], fn_mkG (k := 15) (g := f_shared_path) F sc_shared_path rfl rfl rfl TB hT hu (fun W as A outer s H E hr cs lg => by
  have ct := cs.toCt
  exact (es_cons (es_if ((et_or (et_cmp (op_eqA ct) (eq_ok ct.K) (ev_callB (call_lenA) (len_ok ct.K) (by rfl) M.n_len PySem.boot_len (ea_cons (ev_var (i := 0)) ea_nil)) (ev_int)) (et_or1 (et_tru ct (ev_anyG (k := 9) ct lg hr (own := [("path", 4)]) (blkOk_by (by rfl)) (gScp_by (by rfl)) (ei_seq ct (ev_var (i := 0))) (fun _ _ _ _ _ _ _ hr ct => ⟨(eg_name ct (i := 4)), epts_nil, (ev_cmp (op_neA ct) (ne_ok ct.K) (ev_call ct (D_is_whole.mono (by decide)) hr (by rfl) (ea_cons (ev_var (i := 4)) ea_nil)) (ev_call ct (D_is_whole.mono (by decide)) hr (by rfl) (ea_cons (ev_ix ix_seq (ix_ok ct.K) (ev_var (i := 0)) (ev_int)) ea_nil)))⟩) (hm := M.n_any))))).pt) (es_cons (es_raise ct M.e_PathError)
  es_nil) es_nil)
  (es_cons (es_asg (ev_frz (en_lc ct (own := [("path", 4)]) (blkOk_by (by rfl)) (ei_seq ct (ev_var (i := 0))) (fun _ _ _ _ _ _ _ ct => ⟨(eg_name ct (i := 4)), epts_nil, (ev_call ct (D_parts_of.mono (by decide)) hr (by rfl) (ea_cons (ev_call ct (D_made_plain.mono (by decide)) hr (by rfl) (ea_cons (ev_var (i := 4)) ea_nil)) ea_nil))⟩))) (eg_name ct (i := 1)))
  (es_cons (es_asg (ev_int) (eg_name ct (i := 2)))
  (es_cons (es_while cs (et_tru ct (ev_allG (k := 9) ct lg hr (own := [("row", 5)]) (blkOk_by (by rfl)) (gScp_by (by rfl)) (ei_seq ct (ev_var (i := 1))) (fun _ _ _ _ _ _ _ hr ct => ⟨(eg_name ct (i := 5)), epts_nil, ((ev_and ct (ev_cmp op_gtA (ord_ok) (ev_callB (call_lenA) (len_ok ct.K) (by rfl) M.n_len PySem.boot_len (ea_cons (ev_var (i := 5)) ea_nil)) (ev_var (i := 2))) (ev_one (ev_cmp (op_eqA ct) (eq_ok ct.K) (ev_ix ix_seq (ix_ok ct.K) (ev_var (i := 5)) (ev_var (i := 2))) (ev_ix ix_seq (ix_ok ct.K) (ev_ix ix_seq (ix_ok ct.K) (ev_var (i := 1)) (ev_int)) (ev_var (i := 2)))))))⟩) (hm := M.n_all))) (es_cons (es_aug ct (i := 2) iop_addA (addI_ok) (ev_int))
  es_nil))
  (es_cons (es_asg (ev_m1 PySem.F.slot_str_join PySem.F.type_str_join mt_join (join_ok ct.K) (ev_str (by rfl)) (ev_sl ct (ev_ix ix_seq (ix_ok ct.K) (ev_var (i := 1)) (ev_int)) ep_no (ep_in (ev_var (i := 2))))) (eg_name ct (i := 3)))
  (es_cons (es_ret (ev_if (et_tru ct (ev_call ct (D_is_whole.mono (by decide)) hr (by rfl) (ea_cons (ev_ix ix_seq (ix_ok ct.K) (ev_var (i := 0)) (ev_int)) ea_nil))) (ev_op op_addA (add_ok ct.K) (ev_str (by rfl)) (ev_var (i := 3))) (ev_if (et_cmp (op_neA ct) (ne_ok ct.K) (ev_var (i := 3)) (ev_str (by rfl))) (ev_var (i := 3)) (ev_gStr (by rfl) M.g_HERE))))
  es_nil))))))), hm, F.kp, F.fn.binds fun _ _ _ _ _ _ us hl => match us, hl with | [_], _ => rfl⟩
theorem sc_in_turn : FnScope ["paths", "found", "rows", "path", "row"] ["paths"] (defScope (top 19)) := ⟨rfl, rfl, rfl, by decide +kernel, rfl, by decide +kernel, by decide +kernel⟩
noncomputable def f_in_turn : Env → Sr := (sqS (anS 1 (dcN [3] (bnd (vr 0) itG) (setR 3) yesT (bnd (conA (vr 3) nilA) (caN 1 m_made_plain)) (cst (.d (.bool true)))))
  (sqS (asS (srtGx [3] (dkF 1) (setR 3) yesT (bnd (conA (notV (bnd (conA (vr 3) nilA) (caN 1 m_is_whole))) (conA (bnd (conA (vr 3) nilA) (caN 1 m_parts_of)) (conA (vr 3) nilA))) tupG)) (setR 2))
  (sqS (rtS (tupGx [4] (bnd (vr 2) itG) (setR 4) yesT (b2 (vr 4) (cst (.d (.int 2))) ixG)))
  skS)))
noncomputable def m_in_turn : Mf := mOf 5 f_in_turn
theorem ok_in_turn (M : Md P w K mg cls) {c Pt : Addr} (dl : ∃ (f : Addr) (fd : FuncData), FunC K "in_turn" "in_turn" (top 19) f fd c ∧ mg "in_turn" = some (.ref f)) (TB : LamX.TabB base mg c Pt) (hT : (Pt, (("in_turn" : Str) ++ ".<locals>." ++ "<genexpr>")) ∈ T) (hu : ∀ p ∈ T, p.1 = Pt → p.2 = (("in_turn" : Str) ++ ".<locals>." ++ "<genexpr>")) (D_made_plain : Dfn P w K mg base 9 "made_plain" (spM K T cls clo 1 m_made_plain)) (D_parts_of : Dfn P w K mg base 8 "parts_of" (spM K T cls clo 1 m_parts_of)) (D_is_whole : Dfn P w K mg base 1 "is_whole" (spM K T cls clo 1 m_is_whole)) : Dfn P w K mg base 16 "in_turn" (spM K T cls clo 1 m_in_turn) := by
  obtain ⟨f, fd, F, hm⟩ := dl
  exact ⟨f, fd, ["paths"], fn_mkG (k := 15) (g := f_in_turn) F sc_in_turn rfl rfl rfl TB hT hu (fun W as A outer s H E hr cs lg => by
  have ct := cs.toCt
  exact (es_cons (es_dcN ct (i := 1) (own := [("path", 3)]) (blkOk_by (by rfl)) (ei_seq ct (ev_var (i := 0))) (fun _ _ _ _ _ _ _ _ _ ct => ⟨(eg_name ct (i := 3)), epts_nil, (ev_call ct (D_made_plain.mono (by decide)) hr (by rfl) (ea_cons (ev_var (i := 3)) ea_nil)), (ev_bl)⟩))
  (es_cons (es_asg (ev_srtG (k := 9) ct lg hr (own := [("path", 3)]) (blkOk_by (by rfl)) (gScp_by (by rfl)) (ei_dkF ct (i := 1)) (fun _ _ _ _ _ _ _ hr ct => ⟨(eg_name ct (i := 3)), epts_nil, (ev_tup (ea_cons (ev_not ct (ev_call ct (D_is_whole.mono (by decide)) hr (by rfl) (ea_cons (ev_var (i := 3)) ea_nil))) (ea_cons (ev_call ct (D_parts_of.mono (by decide)) hr (by rfl) (ea_cons (ev_var (i := 3)) ea_nil)) (ea_cons (ev_var (i := 3)) ea_nil))))⟩) (hm := M.n_sorted)) (eg_name ct (i := 2)))
  (es_cons (es_ret (ev_tupG (k := 9) ct lg hr (own := [("row", 4)]) (blkOk_by (by rfl)) (gScp_by (by rfl)) (ei_seq ct (ev_var (i := 2))) (fun _ _ _ _ _ _ _ hr ct => ⟨(eg_name ct (i := 4)), epts_nil, (ev_ix ix_seq (ix_ok ct.K) (ev_var (i := 4)) (ev_int))⟩) (hm := M.n_tuple)))
  es_nil)))), hm, F.kp, F.fn.binds fun _ _ _ _ _ _ us hl => match us, hl with | [_], _ => rfl⟩
theorem sc_depth_of : FnScope ["path", "part"] ["path"] (defScope (top 20)) := ⟨rfl, rfl, rfl, by decide +kernel, rfl, by decide +kernel, by decide +kernel⟩
noncomputable def f_depth_of : Env → Sr := (sqS (rtS (sumGx [1] (bnd (bnd (conA (bnd (conA (vr 0) nilA) (caN 1 m_made_plain)) nilA) (caN 1 m_parts_of)) itG) (setR 1) yesT (ifV (b2 (vr 1) (cst (txt [46, 46])) (cmT (eqG))) (b2 (cst (.d (.int 0))) (cst (.d (.int 1))) subG) (cst (.d (.int 1))))))
  skS)
noncomputable def m_depth_of : Mf := mOf 2 f_depth_of
theorem ok_depth_of (M : Md P w K mg cls) {c Pt : Addr} (dl : ∃ (f : Addr) (fd : FuncData), FunC K "depth_of" "depth_of" (top 20) f fd c ∧ mg "depth_of" = some (.ref f)) (TB : LamX.TabB base mg c Pt) (hT : (Pt, (("depth_of" : Str) ++ ".<locals>." ++ "<genexpr>")) ∈ T) (hu : ∀ p ∈ T, p.1 = Pt → p.2 = (("depth_of" : Str) ++ ".<locals>." ++ "<genexpr>")) (D_parts_of : Dfn P w K mg base 8 "parts_of" (spM K T cls clo 1 m_parts_of)) (D_made_plain : Dfn P w K mg base 9 "made_plain" (spM K T cls clo 1 m_made_plain)) : Dfn P w K mg base 16 "depth_of" (spM K T cls clo 1 m_depth_of) := by
  obtain ⟨f, fd, F, hm⟩ := dl
  exact ⟨f, fd, ["path"], fn_mkG (k := 15) (g := f_depth_of) F sc_depth_of rfl rfl rfl TB hT hu (fun W as A outer s H E hr cs lg => by
  have ct := cs.toCt
  exact (es_cons (es_ret (ev_sumG (k := 9) ct lg hr (own := [("part", 1)]) (blkOk_by (by rfl)) (gScp_by (by rfl)) (ei_seq ct (ev_call ct (D_parts_of.mono (by decide)) hr (by rfl) (ea_cons (ev_call ct (D_made_plain.mono (by decide)) hr (by rfl) (ea_cons (ev_var (i := 0)) ea_nil)) ea_nil))) (fun _ _ _ _ _ _ _ hr ct => ⟨(eg_name ct (i := 1)), epts_nil, (ev_if (et_cmp (op_eqA ct) (eq_ok ct.K) (ev_var (i := 1)) (ev_gStr (by rfl) M.g_UP)) (ev_op op_subA (sub_ok) (ev_int) (ev_int)) (ev_int))⟩) (hm := M.n_sum)))
  es_nil)), hm, F.kp, F.fn.binds fun _ _ _ _ _ _ us hl => match us, hl with | [_], _ => rfl⟩
theorem sc__law_plain : FnScope ["bad", "f"] [] (defScope (top 31)) := ⟨rfl, rfl, rfl, by decide +kernel, rfl, by decide +kernel, by decide +kernel⟩
noncomputable def bs__law_plain : Nat → Env → Rs R := fun i => match i with
  | 0 => (bnd (conA (cst (txt [])) nilA) (caN 1 m_check_path))
  | 1 => (bnd (conA (b2 (cst (txt [97])) (cst (.d (.int 121))) mulG) nilA) (caN 1 m_check_path))
  | 2 => (bnd (conA (cst (txt [])) nilA) (caN 1 m_parts_of))
  | 3 => (bnd (conA (cst (txt [])) nilA) (caN 1 m_made_plain))
  | 4 => (bnd (conA (cst (txt [97])) (conA (cst (txt [])) nilA)) (caN 2 m_joined_path))
  | 5 => (bnd (conA (cst (txt [])) nilA) (caN 1 m_parent_of))
  | 6 => (bnd (conA (cst (txt [])) nilA) (caN 1 m_name_of))
  | 7 => (bnd (conA (cst (txt [])) nilA) (caN 1 m_ends_of))
  | 8 => (bnd (conA (cst (txt [97, 47, 98])) nilA) (caN 1 m_ends_of))
  | 9 => (bnd (conA (cst (txt [47])) (conA (cst (txt [46, 120])) nilA)) (caN 2 m_with_end))
  | 10 => (bnd (conA (cst (txt [46, 46])) (conA (cst (txt [46, 120])) nilA)) (caN 2 m_with_end))
  | 11 => (bnd (conA (cst (txt [97])) (conA (cst (txt [120])) nilA)) (caN 2 m_with_end))
  | 12 => (bnd (conA (cst (txt [47, 97])) (conA (cst (txt [98])) nilA)) (caN 2 m_told_from))
  | 13 => (bnd (conA (cst (txt [46, 46, 47, 97])) (conA (cst (txt [98])) nilA)) (caN 2 m_told_from))
  | 14 => (bnd (conA (bnd nilA tupG) nilA) (caN 1 m_shared_path))
  | 15 => (bnd (conA (bnd (conA (cst (txt [47, 97])) (conA (cst (txt [98])) nilA)) tupG) nilA) (caN 1 m_shared_path))
  | 16 => (bnd (conA (cst (txt [])) (conA (cst (txt [97])) nilA)) (caN 2 m_is_within))
  | 17 => (bnd (conA (bnd (conA (cst (txt [])) nilA) tupG) nilA) (caN 1 m_in_turn))
  | 18 => (bnd (conA (cst (txt [])) nilA) (caN 1 m_depth_of))
  | _ => fun _ => .stk
theorem cb__law_plain : ∀ i, i < 19 → closB (cloS (top 31) 0 (("_law_plain" : Str) ++ ".<locals>." ++ "<lambda>") i) = true := by decide +kernel
noncomputable def f__law_plain : Env → Sr := (sqS (asS (bnd (conA (cst (.clo 0)) (conA (cst (.clo 1)) (conA (cst (.clo 2)) (conA (cst (.clo 3)) (conA (cst (.clo 4)) (conA (cst (.clo 5)) (conA (cst (.clo 6)) (conA (cst (.clo 7)) (conA (cst (.clo 8)) (conA (cst (.clo 9)) (conA (cst (.clo 10)) (conA (cst (.clo 11)) (conA (cst (.clo 12)) (conA (cst (.clo 13)) (conA (cst (.clo 14)) (conA (cst (.clo 15)) (conA (cst (.clo 16)) (conA (cst (.clo 17)) (conA (cst (.clo 18)) nilA))))))))))))))))))) closG) (setR 0))
  (sqS (ifS ((orT (b2 (frz (lcN [1] (bnd (vr 0) itC) (setR 1) (b2 (bnd (conA (vr 1) nilA) (toldC 1 [80, 97, 116, 104, 69, 114, 114, 111, 114] 19 bs__law_plain)) (cst (txt [80, 97, 116, 104, 69, 114, 114, 111, 114])) (cmT (neG))) (cst (.d (.int 1))))) (bnd nilA lstG) (cmT (neG))) (b2 (bnd (conA (cst (txt [46])) (conA (cst (.d (.int 120))) (conA (cst (txt [46, 46])) nilA))) tupG) (bnd (conA (cst (txt [46])) (conA (cst (.d (.int 120))) (conA (cst (txt [46, 46])) nilA))) tupG) (cmT (neG))))) (sqS (rtS (cst (.d (.bool false))))
  skS) skS)
  (sqS (ifS ((orT (b2 (bnd (conA (cst (txt [47, 97, 47, 46, 47, 98, 47, 46, 46, 47, 46, 46, 47, 46, 46, 47, 99, 47, 47, 100])) nilA) (caN 1 m_made_plain)) (cst (txt [47, 99, 47, 100])) (cmT (neG))) (b2 (bnd (conA (cst (txt [97, 47, 46, 46, 47, 46, 46, 47, 98])) nilA) (caN 1 m_made_plain)) (cst (txt [46, 46, 47, 98])) (cmT (neG))))) (sqS (rtS (cst (.d (.bool false))))
  skS) skS)
  (sqS (ifS (notT ((andT (b2 (bnd (conA (cst (txt [47, 97, 47, 98])) (conA (cst (txt [46, 46, 47, 99])) nilA)) (caN 2 m_joined_path)) (cst (txt [47, 97, 47, 99])) (cmT (eqG))) (andT (b2 (bnd (conA (cst (txt [47])) nilA) (caN 1 m_parent_of)) (cst (txt [47])) (cmT (eqG))) (b2 (bnd (conA (cst (txt [46, 97, 46, 98, 46, 99])) nilA) (caN 1 m_ends_of)) (bnd (conA (cst (txt [46, 97, 46, 98])) (conA (cst (txt [46, 99])) nilA)) tupG) (cmT (eqG))))))) (sqS (rtS (cst (.d (.bool false))))
  skS) skS)
  (sqS (rtS ((andV (b2 (bnd (conA (cst (txt [97, 47, 98, 46, 99])) (conA (cst (txt [46, 100])) nilA)) (caN 2 m_with_end)) (cst (txt [97, 47, 98, 46, 100])) (cmV (eqG))) (andV (b2 (bnd (conA (cst (txt [47, 97, 47, 98, 47, 99])) (conA (cst (txt [47, 97, 47, 100])) nilA)) (caN 2 m_told_from)) (cst (txt [46, 46, 47, 98, 47, 99])) (cmV (eqG))) (andV (b2 (bnd (conA (bnd (conA (cst (txt [47, 97, 47, 98, 47, 99])) (conA (cst (txt [47, 97, 47, 98])) nilA)) tupG) nilA) (caN 1 m_shared_path)) (cst (txt [47, 97, 47, 98])) (cmV (eqG))) (andV (b2 (bnd (conA (bnd (conA (cst (txt [47, 98])) (conA (cst (txt [47, 97, 47, 99])) (conA (cst (txt [47, 97])) nilA))) tupG) nilA) (caN 1 m_in_turn)) (bnd (conA (cst (txt [47, 97])) (conA (cst (txt [47, 97, 47, 99])) (conA (cst (txt [47, 98])) nilA))) tupG) (cmV (eqG))) (andV (b2 (bnd (conA (cst (txt [46, 46, 47, 97, 47, 98])) nilA) (caN 1 m_depth_of)) (cst (.d (.int 1))) (cmV (eqG))) (b2 (bnd (conA (cst (txt [47])) nilA) (caN 1 m_name_of)) (cst (txt [])) (cmV (eqG))))))))))
  skS)))))
noncomputable def m__law_plain : Mf := mOf 2 f__law_plain
theorem ok__law_plain (M : Md P w K mg cls) {c Pt : Addr} (dl : ∃ (f : Addr) (fd : FuncData), FunC K "_law_plain" "_law_plain" (top 31) f fd c ∧ mg "_law_plain" = some (.ref f)) (TB : LamX.TabB base mg c Pt) (hT : (Pt, (("_law_plain" : Str) ++ ".<locals>." ++ "<lambda>")) ∈ T) (hu : ∀ p ∈ T, p.1 = Pt → p.2 = (("_law_plain" : Str) ++ ".<locals>." ++ "<lambda>")) (hclo : clo = cloS (top 31) 0 (("_law_plain" : Str) ++ ".<locals>." ++ "<lambda>")) (D_check_path : Dfn P w K mg base 1 "check_path" (spM K T cls clo 1 m_check_path)) (D_parts_of : Dfn P w K mg base 8 "parts_of" (spM K T cls clo 1 m_parts_of)) (D_made_plain : Dfn P w K mg base 9 "made_plain" (spM K T cls clo 1 m_made_plain)) (D_joined_path : Dfn P w K mg base 10 "joined_path" (spM K T cls clo 2 m_joined_path)) (D_parent_of : Dfn P w K mg base 11 "parent_of" (spM K T cls clo 1 m_parent_of)) (D_name_of : Dfn P w K mg base 10 "name_of" (spM K T cls clo 1 m_name_of)) (D_ends_of : Dfn P w K mg base 2 "ends_of" (spM K T cls clo 1 m_ends_of)) (D_with_end : Dfn P w K mg base 11 "with_end" (spM K T cls clo 2 m_with_end)) (D_told_from : Dfn P w K mg base 10 "told_from" (spM K T cls clo 2 m_told_from)) (D_shared_path : Dfn P w K mg base 16 "shared_path" (spM K T cls clo 1 m_shared_path)) (D_is_within : Dfn P w K mg base 10 "is_within" (spM K T cls clo 2 m_is_within)) (D_in_turn : Dfn P w K mg base 16 "in_turn" (spM K T cls clo 1 m_in_turn)) (D_depth_of : Dfn P w K mg base 16 "depth_of" (spM K T cls clo 1 m_depth_of)) : Dfn P w K mg base 19 "_law_plain" (spM K T cls clo 0 m__law_plain) := by
  subst hclo
  obtain ⟨f, fd, F, hm⟩ := dl
  exact ⟨f, fd, [], fn_mkL (k := 18) (g := f__law_plain) F sc__law_plain rfl rfl rfl TB hT hu (fun W as A outer s H E hr cs lm => by
  have ct := cs.toCt
  exact (es_cons (es_asg (ev_clos (ea_cons (ev_lam (i := 0) lm (by rfl)) (ea_cons (ev_lam (i := 1) lm (by rfl)) (ea_cons (ev_lam (i := 2) lm (by rfl)) (ea_cons (ev_lam (i := 3) lm (by rfl)) (ea_cons (ev_lam (i := 4) lm (by rfl)) (ea_cons (ev_lam (i := 5) lm (by rfl)) (ea_cons (ev_lam (i := 6) lm (by rfl)) (ea_cons (ev_lam (i := 7) lm (by rfl)) (ea_cons (ev_lam (i := 8) lm (by rfl)) (ea_cons (ev_lam (i := 9) lm (by rfl)) (ea_cons (ev_lam (i := 10) lm (by rfl)) (ea_cons (ev_lam (i := 11) lm (by rfl)) (ea_cons (ev_lam (i := 12) lm (by rfl)) (ea_cons (ev_lam (i := 13) lm (by rfl)) (ea_cons (ev_lam (i := 14) lm (by rfl)) (ea_cons (ev_lam (i := 15) lm (by rfl)) (ea_cons (ev_lam (i := 16) lm (by rfl)) (ea_cons (ev_lam (i := 17) lm (by rfl)) (ea_cons (ev_lam (i := 18) lm (by rfl)) ea_nil)))))))))))))))))))) (eg_name ct (i := 0)))
  (es_cons (es_if ((et_or (et_cmp (op_neA ct) (ne_ok ct.K) (ev_frz (en_lc ct (own := [("f", 1)]) (blkOk_by (by rfl)) (ei_clos ct (ev_var (i := 0))) (fun _ _ _ _ _ _ _ ct => ⟨(eg_name ct (i := 1)), (epts_one (et_cmp (op_neA ct) (ne_ok ct.K) (ev_toldC (k := 16) (n := 19) (fbs := bs__law_plain) ct M.t__law_told M.x_PathError hr (ea_cons (ev_var (i := 1)) ea_nil) (fun _ _ => rfl) (fun i hi => (closB_ok (cb__law_plain i hi)).1) (fun i hi => (closB_ok (cb__law_plain i hi)).2 _) (fun i hi => match i, hi with | 0, _ => fun _ _ _ => rfl | 1, _ => fun _ _ _ => rfl | 2, _ => fun _ _ _ => rfl | 3, _ => fun _ _ _ => rfl | 4, _ => fun _ _ _ => rfl | 5, _ => fun _ _ _ => rfl | 6, _ => fun _ _ _ => rfl | 7, _ => fun _ _ _ => rfl | 8, _ => fun _ _ _ => rfl | 9, _ => fun _ _ _ => rfl | 10, _ => fun _ _ _ => rfl | 11, _ => fun _ _ _ => rfl | 12, _ => fun _ _ _ => rfl | 13, _ => fun _ _ _ => rfl | 14, _ => fun _ _ _ => rfl | 15, _ => fun _ _ _ => rfl | 16, _ => fun _ _ _ => rfl | 17, _ => fun _ _ _ => rfl | 18, _ => fun _ _ _ => rfl | i + 19, h => absurd h (by omega)) (fun i hi => match i, hi with | 0, _ => fun _ _ _ _ _ _ _ hr ct => (ev_call ct (D_check_path.mono (by decide)) hr (by rfl) (ea_cons (ev_str (by rfl)) ea_nil)) | 1, _ => fun _ _ _ _ _ _ _ hr ct => (ev_call ct (D_check_path.mono (by decide)) hr (by rfl) (ea_cons (ev_op (fa := (cst (txt [97]))) (fb := (cst (.d (.int 121)))) (g := mulG) op_mulA (mul_ok ct.K) (ev_str (by rfl)) (ev_int)) ea_nil)) | 2, _ => fun _ _ _ _ _ _ _ hr ct => (ev_call ct (D_parts_of.mono (by decide)) hr (by rfl) (ea_cons (ev_str (by rfl)) ea_nil)) | 3, _ => fun _ _ _ _ _ _ _ hr ct => (ev_call ct (D_made_plain.mono (by decide)) hr (by rfl) (ea_cons (ev_str (by rfl)) ea_nil)) | 4, _ => fun _ _ _ _ _ _ _ hr ct => (ev_call ct (D_joined_path.mono (by decide)) hr (by rfl) (ea_cons (ev_str (by rfl)) (ea_cons (ev_str (by rfl)) ea_nil))) | 5, _ => fun _ _ _ _ _ _ _ hr ct => (ev_call ct (D_parent_of.mono (by decide)) hr (by rfl) (ea_cons (ev_str (by rfl)) ea_nil)) | 6, _ => fun _ _ _ _ _ _ _ hr ct => (ev_call ct (D_name_of.mono (by decide)) hr (by rfl) (ea_cons (ev_str (by rfl)) ea_nil)) | 7, _ => fun _ _ _ _ _ _ _ hr ct => (ev_call ct (D_ends_of.mono (by decide)) hr (by rfl) (ea_cons (ev_str (by rfl)) ea_nil)) | 8, _ => fun _ _ _ _ _ _ _ hr ct => (ev_call ct (D_ends_of.mono (by decide)) hr (by rfl) (ea_cons (ev_str (by rfl)) ea_nil)) | 9, _ => fun _ _ _ _ _ _ _ hr ct => (ev_call ct (D_with_end.mono (by decide)) hr (by rfl) (ea_cons (ev_str (by rfl)) (ea_cons (ev_str (by rfl)) ea_nil))) | 10, _ => fun _ _ _ _ _ _ _ hr ct => (ev_call ct (D_with_end.mono (by decide)) hr (by rfl) (ea_cons (ev_str (by rfl)) (ea_cons (ev_str (by rfl)) ea_nil))) | 11, _ => fun _ _ _ _ _ _ _ hr ct => (ev_call ct (D_with_end.mono (by decide)) hr (by rfl) (ea_cons (ev_str (by rfl)) (ea_cons (ev_str (by rfl)) ea_nil))) | 12, _ => fun _ _ _ _ _ _ _ hr ct => (ev_call ct (D_told_from.mono (by decide)) hr (by rfl) (ea_cons (ev_str (by rfl)) (ea_cons (ev_str (by rfl)) ea_nil))) | 13, _ => fun _ _ _ _ _ _ _ hr ct => (ev_call ct (D_told_from.mono (by decide)) hr (by rfl) (ea_cons (ev_str (by rfl)) (ea_cons (ev_str (by rfl)) ea_nil))) | 14, _ => fun _ _ _ _ _ _ _ hr ct => (ev_call ct (D_shared_path.mono (by decide)) hr (by rfl) (ea_cons (ev_tup ea_nil) ea_nil)) | 15, _ => fun _ _ _ _ _ _ _ hr ct => (ev_call ct (D_shared_path.mono (by decide)) hr (by rfl) (ea_cons (ev_tup (ea_cons (ev_str (by rfl)) (ea_cons (ev_str (by rfl)) ea_nil))) ea_nil)) | 16, _ => fun _ _ _ _ _ _ _ hr ct => (ev_call ct (D_is_within.mono (by decide)) hr (by rfl) (ea_cons (ev_str (by rfl)) (ea_cons (ev_str (by rfl)) ea_nil))) | 17, _ => fun _ _ _ _ _ _ _ hr ct => (ev_call ct (D_in_turn.mono (by decide)) hr (by rfl) (ea_cons (ev_tup (ea_cons (ev_str (by rfl)) ea_nil)) ea_nil)) | 18, _ => fun _ _ _ _ _ _ _ hr ct => (ev_call ct (D_depth_of.mono (by decide)) hr (by rfl) (ea_cons (ev_str (by rfl)) ea_nil)) | i + 19, h => absurd h (by omega))) (ev_str (by rfl)))), (ev_int)⟩))) (ev_lst ea_nil)) (et_or1 (et_cmp (op_neA ct) (ne_ok ct.K) (ev_tup (ea_cons (ev_gStr (by rfl) M.g_HERE) (ea_cons (ev_gInt (by rfl) M.g_MOST_LONG) (ea_cons (ev_gStr (by rfl) M.g_UP) ea_nil)))) (ev_tup (ea_cons (ev_str (by rfl)) (ea_cons (ev_int) (ea_cons (ev_str (by rfl)) ea_nil))))))).pt) (es_cons (es_ret (ev_bl))
  es_nil) es_nil)
  (es_cons (es_if ((et_or (et_cmp (op_neA ct) (ne_ok ct.K) (ev_call ct (D_made_plain.mono (by decide)) hr (by rfl) (ea_cons (ev_str (by rfl)) ea_nil)) (ev_str (by rfl))) (et_or1 (et_cmp (op_neA ct) (ne_ok ct.K) (ev_call ct (D_made_plain.mono (by decide)) hr (by rfl) (ea_cons (ev_str (by rfl)) ea_nil)) (ev_str (by rfl))))).pt) (es_cons (es_ret (ev_bl))
  es_nil) es_nil)
  (es_cons (es_if (et_not ((et_and (et_cmp (op_eqA ct) (eq_ok ct.K) (ev_call ct (D_joined_path.mono (by decide)) hr (by rfl) (ea_cons (ev_str (by rfl)) (ea_cons (ev_str (by rfl)) ea_nil))) (ev_str (by rfl))) (et_and (et_cmp (op_eqA ct) (eq_ok ct.K) (ev_call ct (D_parent_of.mono (by decide)) hr (by rfl) (ea_cons (ev_str (by rfl)) ea_nil)) (ev_str (by rfl))) (et_and1 (et_cmp (op_eqA ct) (eq_ok ct.K) (ev_call ct (D_ends_of.mono (by decide)) hr (by rfl) (ea_cons (ev_str (by rfl)) ea_nil)) (ev_tup (ea_cons (ev_str (by rfl)) (ea_cons (ev_str (by rfl)) ea_nil))))))).pt)) (es_cons (es_ret (ev_bl))
  es_nil) es_nil)
  (es_cons (es_ret ((ev_and ct (ev_cmp (op_eqA ct) (eq_ok ct.K) (ev_call ct (D_with_end.mono (by decide)) hr (by rfl) (ea_cons (ev_str (by rfl)) (ea_cons (ev_str (by rfl)) ea_nil))) (ev_str (by rfl))) (ev_and ct (ev_cmp (op_eqA ct) (eq_ok ct.K) (ev_call ct (D_told_from.mono (by decide)) hr (by rfl) (ea_cons (ev_str (by rfl)) (ea_cons (ev_str (by rfl)) ea_nil))) (ev_str (by rfl))) (ev_and ct (ev_cmp (op_eqA ct) (eq_ok ct.K) (ev_call ct (D_shared_path.mono (by decide)) hr (by rfl) (ea_cons (ev_tup (ea_cons (ev_str (by rfl)) (ea_cons (ev_str (by rfl)) ea_nil))) ea_nil)) (ev_str (by rfl))) (ev_and ct (ev_cmp (op_eqA ct) (eq_ok ct.K) (ev_call ct (D_in_turn.mono (by decide)) hr (by rfl) (ea_cons (ev_tup (ea_cons (ev_str (by rfl)) (ea_cons (ev_str (by rfl)) (ea_cons (ev_str (by rfl)) ea_nil)))) ea_nil)) (ev_tup (ea_cons (ev_str (by rfl)) (ea_cons (ev_str (by rfl)) (ea_cons (ev_str (by rfl)) ea_nil))))) (ev_and ct (ev_cmp (op_eqA ct) (eq_ok ct.K) (ev_call ct (D_depth_of.mono (by decide)) hr (by rfl) (ea_cons (ev_str (by rfl)) ea_nil)) (ev_int)) (ev_one (ev_cmp (op_eqA ct) (eq_ok ct.K) (ev_call ct (D_name_of.mono (by decide)) hr (by rfl) (ea_cons (ev_str (by rfl)) ea_nil)) (ev_str (by rfl)))))))))))
  es_nil)))))), hm, F.kp, F.fn.binds fun _ _ _ _ _ _ us hl => match us, hl with | [], _ => rfl⟩
theorem sc_law : FnScope ["script", "dice", "one", "other", "deep", "made", "both", "told", "a", "b", "good", "rows", "same", "plains", "due", "name", "ahead", "spot", "end", "last", "k", "row", "part", "path"] ["script"] (defScope (top 32)) := ⟨rfl, rfl, rfl, by decide +kernel, rfl, by decide +kernel, by decide +kernel⟩
noncomputable def f_law : Env → Sr := (sqS (rdS 1 (bnd (conA (vr 0) (conA (cst (.d (.int 1))) nilA)) (caR 2 m__law_rounds)) (sqS (asS (bnd (conA (bnd (conA (vr 1) nilA) (caN 1 m__law_drawn)) (conA (bnd (conA (vr 1) nilA) (caN 1 m__law_drawn)) nilA)) tupG) (tpG 2 (conG (setR 2) (conG (setR 3) nilG))))
  (sqS (asS (bnd (conA (cst (txt [116])) (conA (cst (txt [117])) (conA (cst (txt [118])) (conA (cst (txt [119])) (conA (cst (txt [120])) (conA (cst (txt [121])) (conA (cst (txt [122])) nilA))))))) lstG) (setR 4))
  (sqS (asS (bnd (conA (vr 2) nilA) (caN 1 m_made_plain)) (setR 5))
  (sqS (ifS ((orT (b2 (vr 5) (bnd (conA (vr 2) nilA) (caN 1 m__law_plain_path)) (cmT (neG))) (orT (b2 (bnd (conA (vr 5) nilA) (caN 1 m_made_plain)) (vr 5) (cmT (neG))) (b2 (bnd (conA (vr 4) (conA (vr 5) nilA)) (caN 2 m__law_led)) (bnd (conA (vr 4) (conA (vr 2) nilA)) (caN 2 m__law_led)) (cmT (neG)))))) (sqS (rtS (cst (.d (.bool false))))
  skS) skS)
  (sqS (ifS (b2 (bnd (conA (bnd (conA (vr 2) nilA) (caN 1 m_parts_of)) nilA) listG) (frz (lcN [22] (bnd (m1 (vr 2) (cst (txt [47])) (splitG)) itG) (setR 22) (b2 (vr 22) (bnd (conA (cst (txt [])) (conA (cst (txt [46])) nilA)) lstG) (cmT (inG true))) (vr 22))) (cmT (neG))) (sqS (rtS (cst (.d (.bool false))))
  skS) skS)
  (sqS (asS (bnd (conA (vr 2) (conA (vr 3) nilA)) (caN 2 m_joined_path)) (setR 6))
  (sqS (ifS (b2 (vr 6) (bnd (conA (ifV (b2 (slV (vr 3) noP (bnd (cst (.d (.int 1))) inP)) (cst (txt [47])) (cmT (eqG))) (vr 3) (b2 (b2 (vr 2) (cst (txt [47])) addG) (vr 3) addG)) nilA) (caN 1 m__law_plain_path)) (cmT (neG))) (sqS (rtS (cst (.d (.bool false))))
  skS) skS)
  (sqS (ifS (b2 (bnd (conA (vr 4) (conA (vr 6) nilA)) (caN 2 m__law_led)) (bnd (conA (bnd (conA (vr 4) (conA (vr 2) nilA)) (caN 2 m__law_led)) (conA (vr 3) nilA)) (caN 2 m__law_led)) (cmT (neG))) (sqS (rtS (cst (.d (.bool false))))
  skS) skS)
  (sqS (ifS (b2 (bnd (conA (vr 2) nilA) (caN 1 m_parent_of)) (bnd (conA (b2 (vr 2) (cst (txt [47, 46, 46])) addG) nilA) (caN 1 m__law_plain_path)) (cmT (neG))) (sqS (rtS (cst (.d (.bool false))))
  skS) skS)
  (sqS (ifS ((orT (b2 (bnd (conA (vr 2) nilA) (caN 1 m_is_whole)) (b2 (slV (vr 2) noP (bnd (cst (.d (.int 1))) inP)) (cst (txt [47])) (cmV (eqG))) (cmT (neG))) (orT (b2 (bnd (conA (vr 2) nilA) (caN 1 m_name_of)) (b2 (m1 (vr 5) (cst (txt [47])) (splitG)) (bnd (cst (.d (.int 1))) negG) ixG) (cmT (neG))) (b2 (bnd (conA (vr 2) nilA) (caN 1 m_depth_of)) (b2 (bnd (conA (frz (lcN [22] (bnd (m1 (vr 5) (cst (txt [47])) (splitG)) itG) (setR 22) (b2 (vr 22) (bnd (conA (cst (txt [])) (conA (cst (txt [46])) (conA (cst (txt [46, 46])) nilA))) lstG) (cmT (inG true))) (cst (.d (.int 1))))) nilA) lenG) (lmA (m1 (vr 5) (cst (txt [47])) (splitG)) (conA (cst (txt [46, 46])) nilA) cntG) subG) (cmT (neG)))))) (sqS (rtS (cst (.d (.bool false))))
  skS) skS)
  (sqS (asS (toldV 1 [80, 97, 116, 104, 69, 114, 114, 111, 114] (bnd (conA (vr 2) (conA (vr 3) nilA)) (caN 2 m_told_from))) (setR 7))
  (sqS (prS 8 9 (conA (bnd (conA (vr 2) nilA) (caN 1 m__law_plain_path)) (conA (bnd (conA (vr 3) nilA) (caN 1 m__law_plain_path)) nilA)))
  (sqS (asS (ifV (b2 (cst (txt [47])) (bnd (conA (slV (vr 2) noP (bnd (cst (.d (.int 1))) inP)) (conA (slV (vr 3) noP (bnd (cst (.d (.int 1))) inP)) nilA)) lstG) (cmT (inG false))) (b2 (slV (vr 2) noP (bnd (cst (.d (.int 1))) inP)) (slV (vr 3) noP (bnd (cst (.d (.int 1))) inP)) (cmV (eqG))) (cst (.d (.bool true)))) (setR 10))
  (sqS (asS ((andV (vr 10) (andV (b2 (cst (txt [46, 46])) (m1 (vr 8) (cst (txt [47])) (splitG)) (cmV (inG true))) (b2 (cst (txt [46, 46])) (m1 (vr 9) (cst (txt [47])) (splitG)) (cmV (inG true)))))) (setR 10))
  (sqS (ifS (b2 (b2 (vr 7) (cst (txt [80, 97, 116, 104, 69, 114, 114, 111, 114])) (cmV (eqG))) (vr 10) (cmT (eqG))) (sqS (rtS (cst (.d (.bool false))))
  skS) skS)
  (sqS (ifS ((andT (bnd (vr 10) truT) ((orT (b2 (bnd (conA (ifV (b2 (vr 9) (cst (txt [47])) (cmT (neG))) (b2 (b2 (vr 9) (cst (txt [47])) addG) (vr 7) addG) (b2 (cst (txt [47])) (vr 7) addG)) nilA) (caN 1 m__law_plain_path)) (vr 8) (cmT (neG))) (b2 (vr 7) (bnd (conA (vr 7) nilA) (caN 1 m__law_plain_path)) (cmT (neG))))))) (sqS (rtS (cst (.d (.bool false))))
  skS) skS)
  (sqS (ifS (b2 (bnd (conA (vr 2) (conA (vr 3) nilA)) (caN 2 m_is_within)) (bnd (conA (vr 8) (conA (vr 9) nilA)) (caN 2 m__law_within)) (cmT (neG))) (sqS (rtS (cst (.d (.bool false))))
  skS) skS)
  (sqS (asS (frz (lcN [20] (bnd (conA (b2 (cst (.d (.int 1))) (bnd (conA (vr 1) (conA (cst (.d (.int 4))) nilA)) (caN 2 m__law_roll)) addG) nilA) rgG) (setR 20) yesT (bnd (conA (vr 1) nilA) (caN 1 m__law_drawn)))) (setR 11))
  (sqS (asS (b2 (bnd (conA (frz (lcN [21] (bnd (vr 11) itG) (setR 21) yesT (bnd (conA (b2 (slV (vr 21) noP (bnd (cst (.d (.int 1))) inP)) (cst (txt [47])) (cmV (eqG))) (conA (cst (.d (.int 1))) nilA)) tupG))) nilA) lenDA) (cst (.d (.int 1))) (cmV (eqG))) (setR 12))
  (sqS (asS (toldV 1 [80, 97, 116, 104, 69, 114, 114, 111, 114] (bnd (conA (vr 11) nilA) (caN 1 m_shared_path))) (setR 7))
  (sqS (ifS ((orT (b2 (b2 (vr 7) (cst (txt [80, 97, 116, 104, 69, 114, 114, 111, 114])) (cmV (eqG))) (vr 12) (cmT (eqG))) ((andT (bnd (vr 12) truT) (b2 (vr 7) (bnd (conA (frz (lcN [21] (bnd (vr 11) itG) (setR 21) yesT (bnd (conA (vr 21) nilA) (caN 1 m__law_plain_path)))) nilA) (caN 1 m__law_shared)) (cmT (neG))))))) (sqS (rtS (cst (.d (.bool false))))
  skS) skS)
  (sqS (asS (onN (bnd (conA (frz (lcN [21] (bnd (vr 11) itG) (setR 21) yesT (bnd (conA (bnd (conA (vr 21) nilA) (caN 1 m__law_plain_path)) (conA (cst (.d (.int 1))) nilA)) tupG))) nilA) dictN) listDG) (setR 13))
  (sqS (asS (frz (lcN [21] (bnd (bnd (conA (frz (lcN [23] (bnd (vr 13) itG) (setR 23) yesT (bnd (conA (b2 (slV (vr 23) noP (bnd (cst (.d (.int 1))) inP)) (cst (txt [47])) (cmV (neG))) (conA (bnd (conA (frz (lcN [22] (bnd (m1 (vr 23) (cst (txt [47])) (splitG)) itG) (setR 22) (b2 (vr 22) (bnd (conA (cst (txt [])) (conA (cst (txt [46])) nilA)) lstG) (cmT (inG true))) (vr 22))) nilA) tupleG) (conA (vr 23) nilA))) tupG))) nilA) sortedG) itG) (setR 21) yesT (b2 (vr 21) (cst (.d (.int 2))) ixG))) (setR 14))
  (sqS (ifS (b2 (bnd (conA (bnd (conA (vr 11) nilA) (caN 1 m_in_turn)) nilA) listG) (vr 14) (cmT (neG))) (sqS (rtS (cst (.d (.bool false))))
  skS) skS)
  (sqS (asS (m1 (cst (txt [])) (frz (lcN [20] (bnd (conA (b2 (cst (.d (.int 1))) (bnd (conA (vr 1) (conA (cst (.d (.int 6))) nilA)) (caN 2 m__law_roll)) addG) nilA) rgG) (setR 20) yesT (b2 (cst (txt [46, 97, 98])) (bnd (conA (vr 1) (conA (cst (.d (.int 3))) nilA)) (caN 2 m__law_roll)) ixG))) (joinG)) (setR 15))
  (sqS (asS (b2 (bnd (conA (vr 15) nilA) lenG) (bnd (conA (m1 (vr 15) (cst (txt [46])) (tt1 (fun a b => .str (Txt.lstripChars a b)) sizeLine)) nilA) lenG) subG) (setR 16))
  (sqS (asS (m1 (vr 15) (cst (txt [46])) (tt1 (fun a b => .int (Txt.rfind a b)) sizeLine)) (setR 17))
  (sqS (asS (ifV (b2 (vr 17) (vr 16) (cmT (ltOf ltI ltL))) (bnd (conA (vr 15) (conA (cst (txt [])) nilA)) tupG) (bnd (conA (slV (vr 15) noP (bnd (vr 17) inP)) (conA (slV (vr 15) (bnd (vr 17) inP) noP) nilA)) tupG)) (setR 14))
  (sqS (ifS ((orT (b2 (bnd (conA (vr 15) nilA) (caN 1 m_ends_of)) (vr 14) (cmT (neG))) (b2 (m1 (cst (txt [])) (bnd (conA (vr 15) nilA) (caN 1 m_ends_of)) (joinG)) (vr 15) (cmT (neG))))) (sqS (rtS (cst (.d (.bool false))))
  skS) skS)
  (sqS (asS (b2 (bnd (conA (cst (txt [])) (conA (cst (txt [46, 120])) (conA (cst (txt [46, 121, 122])) (conA (cst (txt [113])) (conA (cst (txt [46, 97, 47, 98])) nilA))))) lstG) (bnd (conA (vr 1) (conA (cst (.d (.int 5))) nilA)) (caN 2 m__law_roll)) ixG) (setR 18))
  (sqS (asS (b2 (m1 (vr 8) (cst (txt [47])) (splitG)) (bnd (cst (.d (.int 1))) negG) ixG) (setR 19))
  (sqS (asS ((andV (b2 (vr 19) (bnd (conA (cst (txt [])) (conA (cst (txt [46])) (conA (cst (txt [46, 46])) nilA))) lstG) (cmV (inG true))) (b2 (vr 18) (bnd (conA (cst (txt [113])) (conA (cst (txt [46, 97, 47, 98])) nilA)) lstG) (cmV (inG true))))) (setR 10))
  (sqS (ifS (b2 (toldV 1 [80, 97, 116, 104, 69, 114, 114, 111, 114] (bnd (conA (vr 2) (conA (vr 18) nilA)) (caN 2 m_with_end))) (ifV (bnd (vr 10) truT) (b2 (b2 (slV (vr 8) noP (bnd (b2 (bnd (conA (vr 8) nilA) lenG) (bnd (conA (vr 19) nilA) lenG) subG) inP)) (b2 (bnd (conA (vr 19) nilA) (caN 1 m_ends_of)) (cst (.d (.int 0))) ixG) addG) (vr 18) addG) (cst (txt [80, 97, 116, 104, 69, 114, 114, 111, 114]))) (cmT (neG))) (sqS (rtS (cst (.d (.bool false))))
  skS) skS)
  skS))))))))))))))))))))))))))))))))))
  (sqS (rtS (caM m__law_plain []))
  skS))
noncomputable def m_law : Mf := mOf 24 f_law
theorem fo_law (M : Md P w K mg cls) {c Pt f : Addr} {fd : FuncData} (F : FunC K "law" "law" (top 32) f fd c) (TB : LamX.TabB base mg c Pt) (hT : (Pt, (("law" : Str) ++ ".<locals>." ++ "<lambda>")) ∈ T) (hu : ∀ p ∈ T, p.1 = Pt → p.2 = (("law" : Str) ++ ".<locals>." ++ "<lambda>")) (D__law_rounds : Dfn P w K mg base 2 "_law_rounds" (spR true K T cls clo 2 m__law_rounds)) (D__law_plain : Dfn P w K mg base 19 "_law_plain" (spM K T cls clo 0 m__law_plain)) (D_made_plain : Dfn P w K mg base 9 "made_plain" (spM K T cls clo 1 m_made_plain)) (D_joined_path : Dfn P w K mg base 10 "joined_path" (spM K T cls clo 2 m_joined_path)) (D__law_drawn : Dfn P w K mg base 6 "_law_drawn" (spM K T cls clo 1 m__law_drawn)) (D__law_plain_path : Dfn P w K mg base 1 "_law_plain_path" (spM K T cls clo 1 m__law_plain_path)) (D__law_led : Dfn P w K mg base 1 "_law_led" (spM K T cls clo 2 m__law_led)) (D_parent_of : Dfn P w K mg base 11 "parent_of" (spM K T cls clo 1 m_parent_of)) (D_is_within : Dfn P w K mg base 10 "is_within" (spM K T cls clo 2 m_is_within)) (D__law_within : Dfn P w K mg base 1 "_law_within" (spM K T cls clo 2 m__law_within)) (D__law_roll : Dfn P w K mg base 5 "_law_roll" (spM K T cls clo 2 m__law_roll)) (D_parts_of : Dfn P w K mg base 8 "parts_of" (spM K T cls clo 1 m_parts_of)) (D_is_whole : Dfn P w K mg base 1 "is_whole" (spM K T cls clo 1 m_is_whole)) (D_name_of : Dfn P w K mg base 10 "name_of" (spM K T cls clo 1 m_name_of)) (D_depth_of : Dfn P w K mg base 16 "depth_of" (spM K T cls clo 1 m_depth_of)) (D_told_from : Dfn P w K mg base 10 "told_from" (spM K T cls clo 2 m_told_from)) (D_shared_path : Dfn P w K mg base 16 "shared_path" (spM K T cls clo 1 m_shared_path)) (D_in_turn : Dfn P w K mg base 16 "in_turn" (spM K T cls clo 1 m_in_turn)) (D_ends_of : Dfn P w K mg base 2 "ends_of" (spM K T cls clo 1 m_ends_of)) (D__law_shared : Dfn P w K mg base 1 "_law_shared" (spM K T cls clo 1 m__law_shared)) (D_with_end : Dfn P w K mg base 11 "with_end" (spM K T cls clo 2 m_with_end)) : FnOk P w K mg base (L2.CX P w) 22 f fd ["script"] (spM K T cls clo 1 m_law) := by
  exact fn_mkL (k := 21) (g := f_law) F sc_law rfl rfl rfl TB hT hu (fun W as A outer s H E hr cs lm => by
  have ct := cs.toCt
  exact (es_cons (es_rounds cs (i := 1) (er_call ct (D__law_rounds.mono (by decide)) hr (by rfl) (ea_cons (ev_var (i := 0)) (ea_cons (ev_int) ea_nil))) (es_cons (es_asg (ev_tup (ea_cons (ev_call ct (D__law_drawn.mono (by decide)) hr (by rfl) (ea_cons (ev_var (i := 1)) ea_nil)) (ea_cons (ev_call ct (D__law_drawn.mono (by decide)) hr (by rfl) (ea_cons (ev_var (i := 1)) ea_nil)) ea_nil))) (eg_tup ct (eg_cons (eg_name ct (i := 2)) (eg_cons (eg_name ct (i := 3)) eg_nil))))
  (es_cons (es_asg (ev_lst (ea_cons (ev_str (by rfl)) (ea_cons (ev_str (by rfl)) (ea_cons (ev_str (by rfl)) (ea_cons (ev_str (by rfl)) (ea_cons (ev_str (by rfl)) (ea_cons (ev_str (by rfl)) (ea_cons (ev_str (by rfl)) ea_nil)))))))) (eg_name ct (i := 4)))
  (es_cons (es_asg (ev_call ct (D_made_plain.mono (by decide)) hr (by rfl) (ea_cons (ev_var (i := 2)) ea_nil)) (eg_name ct (i := 5)))
  (es_cons (es_if ((et_or (et_cmp (op_neA ct) (ne_ok ct.K) (ev_var (i := 5)) (ev_call ct (D__law_plain_path.mono (by decide)) hr (by rfl) (ea_cons (ev_var (i := 2)) ea_nil))) (et_or (et_cmp (op_neA ct) (ne_ok ct.K) (ev_call ct (D_made_plain.mono (by decide)) hr (by rfl) (ea_cons (ev_var (i := 5)) ea_nil)) (ev_var (i := 5))) (et_or1 (et_cmp (op_neA ct) (ne_ok ct.K) (ev_call ct (D__law_led.mono (by decide)) hr (by rfl) (ea_cons (ev_var (i := 4)) (ea_cons (ev_var (i := 5)) ea_nil))) (ev_call ct (D__law_led.mono (by decide)) hr (by rfl) (ea_cons (ev_var (i := 4)) (ea_cons (ev_var (i := 2)) ea_nil))))))).pt) (es_cons (es_ret (ev_bl))
  es_nil) es_nil)
  (es_cons (es_if (et_cmp (op_neA ct) (ne_ok ct.K) (ev_callTy (call_listA) (list_ok ct.K) (by rfl) M.n_list PyProof.Rows.boot_list (ea_cons (ev_call ct (D_parts_of.mono (by decide)) hr (by rfl) (ea_cons (ev_var (i := 2)) ea_nil)) ea_nil)) (ev_frz (en_lc ct (own := [("part", 22)]) (blkOk_by (by rfl)) (ei_seq ct (ev_m1 PySem.F.slot_str_split PySem.F.type_str_split mt_split (split_ok) (ev_var (i := 2)) (ev_str (by rfl)))) (fun _ _ _ _ _ _ _ ct => ⟨(eg_name ct (i := 22)), (epts_one (et_cmp (op_notInA ct) (in_ok ct.K) (ev_var (i := 22)) (ev_lst (ea_cons (ev_str (by rfl)) (ea_cons (ev_str (by rfl)) ea_nil))))), (ev_var (i := 22))⟩)))) (es_cons (es_ret (ev_bl))
  es_nil) es_nil)
  (es_cons (es_asg (ev_call ct (D_joined_path.mono (by decide)) hr (by rfl) (ea_cons (ev_var (i := 2)) (ea_cons (ev_var (i := 3)) ea_nil))) (eg_name ct (i := 6)))
  (es_cons (es_if (et_cmp (op_neA ct) (ne_ok ct.K) (ev_var (i := 6)) (ev_call ct (D__law_plain_path.mono (by decide)) hr (by rfl) (ea_cons (ev_if (et_cmp (op_eqA ct) (eq_ok ct.K) (ev_sl ct (ev_var (i := 3)) ep_no (ep_in (ev_int))) (ev_str (by rfl))) (ev_var (i := 3)) (ev_op op_addA (add_ok ct.K) (ev_op op_addA (add_ok ct.K) (ev_var (i := 2)) (ev_str (by rfl))) (ev_var (i := 3)))) ea_nil))) (es_cons (es_ret (ev_bl))
  es_nil) es_nil)
  (es_cons (es_if (et_cmp (op_neA ct) (ne_ok ct.K) (ev_call ct (D__law_led.mono (by decide)) hr (by rfl) (ea_cons (ev_var (i := 4)) (ea_cons (ev_var (i := 6)) ea_nil))) (ev_call ct (D__law_led.mono (by decide)) hr (by rfl) (ea_cons (ev_call ct (D__law_led.mono (by decide)) hr (by rfl) (ea_cons (ev_var (i := 4)) (ea_cons (ev_var (i := 2)) ea_nil))) (ea_cons (ev_var (i := 3)) ea_nil)))) (es_cons (es_ret (ev_bl))
  es_nil) es_nil)
  (es_cons (es_if (et_cmp (op_neA ct) (ne_ok ct.K) (ev_call ct (D_parent_of.mono (by decide)) hr (by rfl) (ea_cons (ev_var (i := 2)) ea_nil)) (ev_call ct (D__law_plain_path.mono (by decide)) hr (by rfl) (ea_cons (ev_op op_addA (add_ok ct.K) (ev_var (i := 2)) (ev_str (by rfl))) ea_nil))) (es_cons (es_ret (ev_bl))
  es_nil) es_nil)
  (es_cons (es_if ((et_or (et_cmp (op_neA ct) (ne_ok ct.K) (ev_call ct (D_is_whole.mono (by decide)) hr (by rfl) (ea_cons (ev_var (i := 2)) ea_nil)) (ev_cmp (op_eqA ct) (eq_ok ct.K) (ev_sl ct (ev_var (i := 2)) ep_no (ep_in (ev_int))) (ev_str (by rfl)))) (et_or (et_cmp (op_neA ct) (ne_ok ct.K) (ev_call ct (D_name_of.mono (by decide)) hr (by rfl) (ea_cons (ev_var (i := 2)) ea_nil)) (ev_ix ix_seq (ix_ok ct.K) (ev_m1 PySem.F.slot_str_split PySem.F.type_str_split mt_split (split_ok) (ev_var (i := 5)) (ev_str (by rfl))) (ev_neg (ev_int)))) (et_or1 (et_cmp (op_neA ct) (ne_ok ct.K) (ev_call ct (D_depth_of.mono (by decide)) hr (by rfl) (ea_cons (ev_var (i := 2)) ea_nil)) (ev_op op_subA (sub_ok) (ev_callB (call_lenA) (len_ok ct.K) (by rfl) M.n_len PySem.boot_len (ea_cons (ev_frz (en_lc ct (own := [("part", 22)]) (blkOk_by (by rfl)) (ei_seq ct (ev_m1 PySem.F.slot_str_split PySem.F.type_str_split mt_split (split_ok) (ev_var (i := 5)) (ev_str (by rfl)))) (fun _ _ _ _ _ _ _ ct => ⟨(eg_name ct (i := 22)), (epts_one (et_cmp (op_notInA ct) (in_ok ct.K) (ev_var (i := 22)) (ev_lst (ea_cons (ev_str (by rfl)) (ea_cons (ev_str (by rfl)) (ea_cons (ev_str (by rfl)) ea_nil)))))), (ev_int)⟩))) ea_nil)) (ev_lm ct PySem.F.slot_list_count PySem.F.type_list_count mt_lcountS (cnt_ok ct.K) (ev_m1 PySem.F.slot_str_split PySem.F.type_str_split mt_split (split_ok) (ev_var (i := 5)) (ev_str (by rfl))) (ea_cons (ev_str (by rfl)) ea_nil))))))).pt) (es_cons (es_ret (ev_bl))
  es_nil) es_nil)
  (es_cons (es_asg (ev_told (k := 19) ct lm M.t__law_told M.x_PathError hr (fun _ _ _ _ _ _ _ hr ct => (ev_call ct (D_told_from.mono (by decide)) hr (by rfl) (ea_cons (ev_var (i := 2)) (ea_cons (ev_var (i := 3)) ea_nil))))) (eg_name ct (i := 7)))
  (es_cons (es_par ct (i := 8) (j := 9) (ea_cons (ev_call ct (D__law_plain_path.mono (by decide)) hr (by rfl) (ea_cons (ev_var (i := 2)) ea_nil)) (ea_cons (ev_call ct (D__law_plain_path.mono (by decide)) hr (by rfl) (ea_cons (ev_var (i := 3)) ea_nil)) ea_nil)))
  (es_cons (es_asg (ev_if (et_cmp (op_inA ct) (in_ok ct.K) (ev_str (by rfl)) (ev_lst (ea_cons (ev_sl ct (ev_var (i := 2)) ep_no (ep_in (ev_int))) (ea_cons (ev_sl ct (ev_var (i := 3)) ep_no (ep_in (ev_int))) ea_nil)))) (ev_cmp (op_eqA ct) (eq_ok ct.K) (ev_sl ct (ev_var (i := 2)) ep_no (ep_in (ev_int))) (ev_sl ct (ev_var (i := 3)) ep_no (ep_in (ev_int)))) (ev_bl)) (eg_name ct (i := 10)))
  (es_cons (es_asg ((ev_and ct (ev_var (i := 10)) (ev_and ct (ev_cmp (op_notInA ct) (in_ok ct.K) (ev_str (by rfl)) (ev_m1 PySem.F.slot_str_split PySem.F.type_str_split mt_split (split_ok) (ev_var (i := 8)) (ev_str (by rfl)))) (ev_one (ev_cmp (op_notInA ct) (in_ok ct.K) (ev_str (by rfl)) (ev_m1 PySem.F.slot_str_split PySem.F.type_str_split mt_split (split_ok) (ev_var (i := 9)) (ev_str (by rfl)))))))) (eg_name ct (i := 10)))
  (es_cons (es_if (et_cmp (op_eqA ct) (eq_ok ct.K) (ev_cmp (op_eqA ct) (eq_ok ct.K) (ev_var (i := 7)) (ev_str (by rfl))) (ev_var (i := 10))) (es_cons (es_ret (ev_bl))
  es_nil) es_nil)
  (es_cons (es_if ((et_and (et_tru ct (ev_var (i := 10))) (et_and1 ((et_or (et_cmp (op_neA ct) (ne_ok ct.K) (ev_call ct (D__law_plain_path.mono (by decide)) hr (by rfl) (ea_cons (ev_if (et_cmp (op_neA ct) (ne_ok ct.K) (ev_var (i := 9)) (ev_str (by rfl))) (ev_op op_addA (add_ok ct.K) (ev_op op_addA (add_ok ct.K) (ev_var (i := 9)) (ev_str (by rfl))) (ev_var (i := 7))) (ev_op op_addA (add_ok ct.K) (ev_str (by rfl)) (ev_var (i := 7)))) ea_nil)) (ev_var (i := 8))) (et_or1 (et_cmp (op_neA ct) (ne_ok ct.K) (ev_var (i := 7)) (ev_call ct (D__law_plain_path.mono (by decide)) hr (by rfl) (ea_cons (ev_var (i := 7)) ea_nil))))).pt))).pt) (es_cons (es_ret (ev_bl))
  es_nil) es_nil)
  (es_cons (es_if (et_cmp (op_neA ct) (ne_ok ct.K) (ev_call ct (D_is_within.mono (by decide)) hr (by rfl) (ea_cons (ev_var (i := 2)) (ea_cons (ev_var (i := 3)) ea_nil))) (ev_call ct (D__law_within.mono (by decide)) hr (by rfl) (ea_cons (ev_var (i := 8)) (ea_cons (ev_var (i := 9)) ea_nil)))) (es_cons (es_ret (ev_bl))
  es_nil) es_nil)
  (es_cons (es_asg (ev_frz (en_lc ct (own := [("k", 20)]) (blkOk_by (by rfl)) (ei_range1 (by rfl) M.n_range (ea_cons (ev_op op_addA (add_ok ct.K) (ev_int) (ev_call ct (D__law_roll.mono (by decide)) hr (by rfl) (ea_cons (ev_var (i := 1)) (ea_cons (ev_int) ea_nil)))) ea_nil)) (fun _ _ _ _ _ _ _ ct => ⟨(eg_name ct (i := 20)), epts_nil, (ev_call ct (D__law_drawn.mono (by decide)) hr (by rfl) (ea_cons (ev_var (i := 1)) ea_nil))⟩))) (eg_name ct (i := 11)))
  (es_cons (es_asg (ev_cmp (op_eqA ct) (eq_ok ct.K) (ev_lenDict ct (by rfl) (by rfl) M.n_len M.n_dict (ea_cons (ev_frz (en_lc ct (own := [("row", 21)]) (blkOk_by (by rfl)) (ei_seq ct (ev_var (i := 11))) (fun _ _ _ _ _ _ _ ct => ⟨(eg_name ct (i := 21)), epts_nil, (ev_tup (ea_cons (ev_cmp (op_eqA ct) (eq_ok ct.K) (ev_sl ct (ev_var (i := 21)) ep_no (ep_in (ev_int))) (ev_str (by rfl))) (ea_cons (ev_int) ea_nil)))⟩))) ea_nil)) (ev_int)) (eg_name ct (i := 12)))
  (es_cons (es_asg (ev_told (k := 19) ct lm M.t__law_told M.x_PathError hr (fun _ _ _ _ _ _ _ hr ct => (ev_call ct (D_shared_path.mono (by decide)) hr (by rfl) (ea_cons (ev_var (i := 11)) ea_nil)))) (eg_name ct (i := 7)))
  (es_cons (es_if ((et_or (et_cmp (op_eqA ct) (eq_ok ct.K) (ev_cmp (op_eqA ct) (eq_ok ct.K) (ev_var (i := 7)) (ev_str (by rfl))) (ev_var (i := 12))) (et_or1 ((et_and (et_tru ct (ev_var (i := 12))) (et_and1 (et_cmp (op_neA ct) (ne_ok ct.K) (ev_var (i := 7)) (ev_call ct (D__law_shared.mono (by decide)) hr (by rfl) (ea_cons (ev_frz (en_lc ct (own := [("row", 21)]) (blkOk_by (by rfl)) (ei_seq ct (ev_var (i := 11))) (fun _ _ _ _ _ _ _ ct => ⟨(eg_name ct (i := 21)), epts_nil, (ev_call ct (D__law_plain_path.mono (by decide)) hr (by rfl) (ea_cons (ev_var (i := 21)) ea_nil))⟩))) ea_nil))))).pt))).pt) (es_cons (es_ret (ev_bl))
  es_nil) es_nil)
  (es_cons (es_asg (ev_onTy (call_list_dK ct.calm) listD_ok (by rfl) M.n_list PyProof.Rows.boot_list (en_callTy (call_dictA ct.calm) (dictN_ok ct.K) (by rfl) M.n_dict PyProof.Rows.boot_dict (ea_cons (ev_frz (en_lc ct (own := [("row", 21)]) (blkOk_by (by rfl)) (ei_seq ct (ev_var (i := 11))) (fun _ _ _ _ _ _ _ ct => ⟨(eg_name ct (i := 21)), epts_nil, (ev_tup (ea_cons (ev_call ct (D__law_plain_path.mono (by decide)) hr (by rfl) (ea_cons (ev_var (i := 21)) ea_nil)) (ea_cons (ev_int) ea_nil)))⟩))) ea_nil))) (eg_name ct (i := 13)))
  (es_cons (es_lc ct (i := 14) (own := [("row", 21)]) (blkOk_by (by rfl)) (ei_seq ct (ev_callB (cr_sortedD ct.un) (sorted_ok ct.K) (by rfl) M.n_sorted PyProof.Rows.boot_sorted (ea_cons (ev_frz (en_lc ct (own := [("path", 23)]) (blkOk_by (by rfl)) (ei_seq ct (ev_var (i := 13))) (fun _ _ _ _ _ _ _ ct => ⟨(eg_name ct (i := 23)), epts_nil, (ev_tup (ea_cons (ev_cmp (op_neA ct) (ne_ok ct.K) (ev_sl ct (ev_var (i := 23)) ep_no (ep_in (ev_int))) (ev_str (by rfl))) (ea_cons (ev_callTy (call_tupleA) (tuple_ok ct.K) (by rfl) M.n_tuple PyProof.Rows.boot_tuple (ea_cons (ev_frz (en_lc ct (own := [("part", 22)]) (blkOk_by (by rfl)) (ei_seq ct (ev_m1 PySem.F.slot_str_split PySem.F.type_str_split mt_split (split_ok) (ev_var (i := 23)) (ev_str (by rfl)))) (fun _ _ _ _ _ _ _ ct => ⟨(eg_name ct (i := 22)), (epts_one (et_cmp (op_notInA ct) (in_ok ct.K) (ev_var (i := 22)) (ev_lst (ea_cons (ev_str (by rfl)) (ea_cons (ev_str (by rfl)) ea_nil))))), (ev_var (i := 22))⟩))) ea_nil)) (ea_cons (ev_var (i := 23)) ea_nil))))⟩))) ea_nil))) (fun _ _ _ _ _ _ _ ct => ⟨(eg_name ct (i := 21)), epts_nil, (ev_ix ix_seq (ix_ok ct.K) (ev_var (i := 21)) (ev_int))⟩))
  (es_cons (es_if (et_cmp (op_neA ct) (ne_ok ct.K) (ev_callTy (call_listA) (list_ok ct.K) (by rfl) M.n_list PyProof.Rows.boot_list (ea_cons (ev_call ct (D_in_turn.mono (by decide)) hr (by rfl) (ea_cons (ev_var (i := 11)) ea_nil)) ea_nil)) (ev_var (i := 14))) (es_cons (es_ret (ev_bl))
  es_nil) es_nil)
  (es_cons (es_asg (ev_m1 PySem.F.slot_str_join PySem.F.type_str_join mt_join (join_ok ct.K) (ev_str (by rfl)) (ev_frz (en_lc ct (own := [("k", 20)]) (blkOk_by (by rfl)) (ei_range1 (by rfl) M.n_range (ea_cons (ev_op op_addA (add_ok ct.K) (ev_int) (ev_call ct (D__law_roll.mono (by decide)) hr (by rfl) (ea_cons (ev_var (i := 1)) (ea_cons (ev_int) ea_nil)))) ea_nil)) (fun _ _ _ _ _ _ _ ct => ⟨(eg_name ct (i := 20)), epts_nil, (ev_ix ix_seq (ix_ok ct.K) (ev_str (by rfl)) (ev_call ct (D__law_roll.mono (by decide)) hr (by rfl) (ea_cons (ev_var (i := 1)) (ea_cons (ev_int) ea_nil))))⟩)))) (eg_name ct (i := 15)))
  (es_cons (es_asg (ev_op op_subA (sub_ok) (ev_callB (call_lenA) (len_ok ct.K) (by rfl) M.n_len PySem.boot_len (ea_cons (ev_var (i := 15)) ea_nil)) (ev_callB (call_lenA) (len_ok ct.K) (by rfl) M.n_len PySem.boot_len (ea_cons (ev_m1 PySem.F.slot_str_lstrip PySem.F.type_str_lstrip mt_lstripChars (tt1_str) (ev_var (i := 15)) (ev_str (by rfl))) ea_nil))) (eg_name ct (i := 16)))
  (es_cons (es_asg (ev_m1 PySem.F.slot_str_rfind PySem.F.type_str_rfind mt_rfind (tt1_int (lim := sizeLine)) (ev_var (i := 15)) (ev_str (by rfl))) (eg_name ct (i := 17)))
  (es_cons (es_asg (ev_if (et_cmp op_ltA (ord_ok) (ev_var (i := 17)) (ev_var (i := 16))) (ev_tup (ea_cons (ev_var (i := 15)) (ea_cons (ev_str (by rfl)) ea_nil))) (ev_tup (ea_cons (ev_sl ct (ev_var (i := 15)) ep_no (ep_in (ev_var (i := 17)))) (ea_cons (ev_sl ct (ev_var (i := 15)) (ep_in (ev_var (i := 17))) ep_no) ea_nil)))) (eg_name ct (i := 14)))
  (es_cons (es_if ((et_or (et_cmp (op_neA ct) (ne_ok ct.K) (ev_call ct (D_ends_of.mono (by decide)) hr (by rfl) (ea_cons (ev_var (i := 15)) ea_nil)) (ev_var (i := 14))) (et_or1 (et_cmp (op_neA ct) (ne_ok ct.K) (ev_m1 PySem.F.slot_str_join PySem.F.type_str_join mt_join (join_ok ct.K) (ev_str (by rfl)) (ev_call ct (D_ends_of.mono (by decide)) hr (by rfl) (ea_cons (ev_var (i := 15)) ea_nil))) (ev_var (i := 15))))).pt) (es_cons (es_ret (ev_bl))
  es_nil) es_nil)
  (es_cons (es_asg (ev_ix ix_seq (ix_ok ct.K) (ev_lst (ea_cons (ev_str (by rfl)) (ea_cons (ev_str (by rfl)) (ea_cons (ev_str (by rfl)) (ea_cons (ev_str (by rfl)) (ea_cons (ev_str (by rfl)) ea_nil)))))) (ev_call ct (D__law_roll.mono (by decide)) hr (by rfl) (ea_cons (ev_var (i := 1)) (ea_cons (ev_int) ea_nil)))) (eg_name ct (i := 18)))
  (es_cons (es_asg (ev_ix ix_seq (ix_ok ct.K) (ev_m1 PySem.F.slot_str_split PySem.F.type_str_split mt_split (split_ok) (ev_var (i := 8)) (ev_str (by rfl))) (ev_neg (ev_int))) (eg_name ct (i := 19)))
  (es_cons (es_asg ((ev_and ct (ev_cmp (op_notInA ct) (in_ok ct.K) (ev_var (i := 19)) (ev_lst (ea_cons (ev_str (by rfl)) (ea_cons (ev_str (by rfl)) (ea_cons (ev_str (by rfl)) ea_nil))))) (ev_one (ev_cmp (op_notInA ct) (in_ok ct.K) (ev_var (i := 18)) (ev_lst (ea_cons (ev_str (by rfl)) (ea_cons (ev_str (by rfl)) ea_nil))))))) (eg_name ct (i := 10)))
  (es_cons (es_if (et_cmp (op_neA ct) (ne_ok ct.K) (ev_told (k := 19) ct lm M.t__law_told M.x_PathError hr (fun _ _ _ _ _ _ _ hr ct => (ev_call ct (D_with_end.mono (by decide)) hr (by rfl) (ea_cons (ev_var (i := 2)) (ea_cons (ev_var (i := 18)) ea_nil))))) (ev_if (et_tru ct (ev_var (i := 10))) (ev_op op_addA (add_ok ct.K) (ev_op op_addA (add_ok ct.K) (ev_sl ct (ev_var (i := 8)) ep_no (ep_in (ev_op op_subA (sub_ok) (ev_callB (call_lenA) (len_ok ct.K) (by rfl) M.n_len PySem.boot_len (ea_cons (ev_var (i := 8)) ea_nil)) (ev_callB (call_lenA) (len_ok ct.K) (by rfl) M.n_len PySem.boot_len (ea_cons (ev_var (i := 19)) ea_nil))))) (ev_ix ix_seq (ix_ok ct.K) (ev_call ct (D_ends_of.mono (by decide)) hr (by rfl) (ea_cons (ev_var (i := 19)) ea_nil)) (ev_int))) (ev_var (i := 18))) (ev_str (by rfl)))) (es_cons (es_ret (ev_bl))
  es_nil) es_nil)
  es_nil))))))))))))))))))))))))))))))))))
  (es_cons (es_ret (ev_call0 ct (D__law_plain.mono (by decide)) hr (by rfl)))
  es_nil)))
end
end Ev

set_option Elab.async false
set_option linter.all false
set_option maxRecDepth 100000
set_option maxHeartbeats 0
namespace Ev
open PySem L2
def df_check_path : He.DefD := ⟨("check_path", none), "check_path", "check_path", defArgs (top 7), defBody (top 7), defScope (top 7), [], []⟩
def df_is_whole : He.DefD := ⟨("is_whole", none), "is_whole", "is_whole", defArgs (top 8), defBody (top 8), defScope (top 8), [], []⟩
def df_parts_of : He.DefD := ⟨("parts_of", none), "parts_of", "parts_of", defArgs (top 9), defBody (top 9), defScope (top 9), [], []⟩
def df_made_plain : He.DefD := ⟨("made_plain", none), "made_plain", "made_plain", defArgs (top 10), defBody (top 10), defScope (top 10), [], []⟩
def df_joined_path : He.DefD := ⟨("joined_path", none), "joined_path", "joined_path", defArgs (top 11), defBody (top 11), defScope (top 11), [], []⟩
def df_parent_of : He.DefD := ⟨("parent_of", none), "parent_of", "parent_of", defArgs (top 12), defBody (top 12), defScope (top 12), [], []⟩
def df_name_of : He.DefD := ⟨("name_of", none), "name_of", "name_of", defArgs (top 13), defBody (top 13), defScope (top 13), [], []⟩
def df_ends_of : He.DefD := ⟨("ends_of", none), "ends_of", "ends_of", defArgs (top 14), defBody (top 14), defScope (top 14), [], []⟩
def df_with_end : He.DefD := ⟨("with_end", none), "with_end", "with_end", defArgs (top 15), defBody (top 15), defScope (top 15), [], []⟩
def df_told_from : He.DefD := ⟨("told_from", none), "told_from", "told_from", defArgs (top 16), defBody (top 16), defScope (top 16), [], []⟩
def df_shared_path : He.DefD := ⟨("shared_path", none), "shared_path", "shared_path", defArgs (top 17), defBody (top 17), defScope (top 17), [], []⟩
def df_is_within : He.DefD := ⟨("is_within", none), "is_within", "is_within", defArgs (top 18), defBody (top 18), defScope (top 18), [], []⟩
def df_in_turn : He.DefD := ⟨("in_turn", none), "in_turn", "in_turn", defArgs (top 19), defBody (top 19), defScope (top 19), [], []⟩
def df_depth_of : He.DefD := ⟨("depth_of", none), "depth_of", "depth_of", defArgs (top 20), defBody (top 20), defScope (top 20), [], []⟩
def df__law_dice : He.DefD := ⟨("_law_dice", none), "_law_dice", "_law_dice", defArgs (top 22), defBody (top 22), defScope (top 22), [], []⟩
def df__law_roll : He.DefD := ⟨("_law_roll", none), "_law_roll", "_law_roll", defArgs (top 23), defBody (top 23), defScope (top 23), [], []⟩
def df__law_rounds : He.DefD := ⟨("_law_rounds", none), "_law_rounds", "_law_rounds", defArgs (top 24), defBody (top 24), defScope (top 24), [], []⟩
def df__law_told : He.DefD := ⟨("_law_told", none), "_law_told", "_law_told", defArgs (top 25), defBody (top 25), defScope (top 25), [], []⟩
def df__law_drawn : He.DefD := ⟨("_law_drawn", none), "_law_drawn", "_law_drawn", defArgs (top 26), defBody (top 26), defScope (top 26), [], []⟩
def df__law_led : He.DefD := ⟨("_law_led", none), "_law_led", "_law_led", defArgs (top 27), defBody (top 27), defScope (top 27), [], []⟩
def df__law_plain_path : He.DefD := ⟨("_law_plain_path", none), "_law_plain_path", "_law_plain_path", defArgs (top 28), defBody (top 28), defScope (top 28), [], []⟩
def df__law_within : He.DefD := ⟨("_law_within", none), "_law_within", "_law_within", defArgs (top 29), defBody (top 29), defScope (top 29), [], []⟩
def df__law_shared : He.DefD := ⟨("_law_shared", none), "_law_shared", "_law_shared", defArgs (top 30), defBody (top 30), defScope (top 30), [], []⟩
def df__law_plain : He.DefD := ⟨("_law_plain", none), "_law_plain", "_law_plain", defArgs (top 31), defBody (top 31), defScope (top 31), [], []⟩
def df_law : He.DefD := ⟨("law", none), "law", "law", defArgs (top 32), defBody (top 32), defScope (top 32), [], []⟩
def dfs : List He.DefD := [df_check_path, df_is_whole, df_parts_of, df_made_plain, df_joined_path, df_parent_of, df_name_of, df_ends_of, df_with_end, df_told_from, df_shared_path, df_is_within, df_in_turn, df_depth_of, df__law_dice, df__law_roll, df__law_rounds, df__law_told, df__law_drawn, df__law_led, df__law_plain_path, df__law_within, df__law_shared, df__law_plain, df_law]
def fas : List He.Fa := [.free "len", .int "MOST_LONG" 120, .exc "PathError", .glo "PathError", .glo "check_path", .glo "is_whole", .free "int", .free "abs", .glo "_law_dice", .free "list", .glo "_law_led", .glo "_law_plain_path", .glo "_law_within", .free "max", .free "range", .glo "_law_shared", .str "HERE" (sOf [46]), .glo "ends_of", .glo "_law_rounds", .glo "_law_roll", .glo "_law_drawn", .free "tuple", .glo "parts_of", .str "UP" (sOf [46, 46]), .glo "made_plain", .glo "joined_path", .glo "name_of", .free "min", .glo "told_from", .glo "is_within", .glo "parent_of", .glo "with_end", .free "all", .free "any", .free "sorted", .free "sum", .glo "depth_of", .glo "in_turn", .glo "shared_path", .glo "_law_told", .exm "PathError" "PathError" true, .glo "_law_plain", .free "dict", .glo "law"]
def tfs : List He.Defn := [("parts_of", none), ("shared_path", none), ("in_turn", none), ("depth_of", none), ("_law_plain", none), ("law", none)]
abbrev hRow : PySem.W.OpenRow := PySem.W.OpenLaw.row PySem.Challenge.rw_shellstack_k01_paths_made_plain
def hEx (K : PySem.W.Frag) : Bool := decide ((tfs.map fun p => (He.cT K p).2).Nodup)
def hCls (K : PySem.W.Frag) : Nat → Addr := fun i => match i with
  | 0 => He.ga K "ShellFault"
  | 1 => He.ga K "PathError"
  | _ => 0
abbrev hHook : PySem.W.Hook := He.hookX 4 fas dfs [] tfs hEx
def hOb (s : PySem.W.SharedT) : He.AlX := He.obsX 4 fas dfs [] tfs hEx (HandSHeadRun.getT s)
theorem hOb_eq (s : PySem.W.SharedT) : hOb s = hHook.obs s.abs := He.obsX_eq (HandSHeadRun.getT_eq s)
def hNames0 : List PySem.Str := ["ShellFault", "PathError", "MOST_LONG", "HERE", "UP", "check_path", "is_whole", "parts_of", "made_plain", "joined_path", "parent_of", "name_of", "ends_of", "with_end", "told_from", "shared_path", "is_within", "in_turn", "depth_of", "_law_dice", "_law_roll", "_law_rounds", "_law_told", "_law_drawn", "_law_led", "_law_plain_path", "_law_within", "_law_shared", "_law_plain"]
def hNames : List PySem.Str := hNames0
theorem hRun (w : World) : HandSHeadRun.RunEq hRow (PySem.W.view hRow.prog [32]) hHook hOb 3000 hNames w := by
  intro os
  kernel_rfl

theorem hMd {P : Program} {w : World} {K : PySem.W.Frag} {h : Heap} {mg : Str → Option Value} (X : K.In h) (G : h.Ns mainGlobals mg) (c : He.SaysD fas dfs K) : Md P w K mg (hCls K) where
  n_len := He.free_ok X G (c.fact 0 (f := .free "len") rfl)
  g_MOST_LONG := He.int_ok X G (c.fact 1 (f := .int "MOST_LONG" 120) rfl)
  e_PathError := errC_mk X G (c.fact 3 (f := .glo "PathError") rfl) (c.fact 2 (f := .exc "PathError") rfl)
  d_check_path := fun_mk (K := K) X G (c.fact 4 (f := .glo "check_path") rfl) (c.def_ 0 (d := df_check_path) rfl)
  d_is_whole := fun_mk (K := K) X G (c.fact 5 (f := .glo "is_whole") rfl) (c.def_ 1 (d := df_is_whole) rfl)
  n_int := He.free_ok X G (c.fact 6 (f := .free "int") rfl)
  n_abs := He.free_ok X G (c.fact 7 (f := .free "abs") rfl)
  d__law_dice := fun_mk (K := K) X G (c.fact 8 (f := .glo "_law_dice") rfl) (c.def_ 14 (d := df__law_dice) rfl)
  n_list := He.free_ok X G (c.fact 9 (f := .free "list") rfl)
  d__law_led := fun_mk (K := K) X G (c.fact 10 (f := .glo "_law_led") rfl) (c.def_ 19 (d := df__law_led) rfl)
  d__law_plain_path := fun_mk (K := K) X G (c.fact 11 (f := .glo "_law_plain_path") rfl) (c.def_ 20 (d := df__law_plain_path) rfl)
  d__law_within := fun_mk (K := K) X G (c.fact 12 (f := .glo "_law_within") rfl) (c.def_ 21 (d := df__law_within) rfl)
  n_max := He.free_ok X G (c.fact 13 (f := .free "max") rfl)
  n_range := He.free_ok X G (c.fact 14 (f := .free "range") rfl)
  d__law_shared := fun_mk (K := K) X G (c.fact 15 (f := .glo "_law_shared") rfl) (c.def_ 22 (d := df__law_shared) rfl)
  g_HERE := He.str_ok X G (c.fact 16 (f := .str "HERE" (sOf [46])) rfl)
  d_ends_of := fun_mk (K := K) X G (c.fact 17 (f := .glo "ends_of") rfl) (c.def_ 7 (d := df_ends_of) rfl)
  d__law_rounds := fun_mk (K := K) X G (c.fact 18 (f := .glo "_law_rounds") rfl) (c.def_ 16 (d := df__law_rounds) rfl)
  d__law_roll := fun_mk (K := K) X G (c.fact 19 (f := .glo "_law_roll") rfl) (c.def_ 15 (d := df__law_roll) rfl)
  d__law_drawn := fun_mk (K := K) X G (c.fact 20 (f := .glo "_law_drawn") rfl) (c.def_ 18 (d := df__law_drawn) rfl)
  n_tuple := He.free_ok X G (c.fact 21 (f := .free "tuple") rfl)
  d_parts_of := fun_mk (K := K) X G (c.fact 22 (f := .glo "parts_of") rfl) (c.def_ 2 (d := df_parts_of) rfl)
  g_UP := He.str_ok X G (c.fact 23 (f := .str "UP" (sOf [46, 46])) rfl)
  d_made_plain := fun_mk (K := K) X G (c.fact 24 (f := .glo "made_plain") rfl) (c.def_ 3 (d := df_made_plain) rfl)
  d_joined_path := fun_mk (K := K) X G (c.fact 25 (f := .glo "joined_path") rfl) (c.def_ 4 (d := df_joined_path) rfl)
  d_name_of := fun_mk (K := K) X G (c.fact 26 (f := .glo "name_of") rfl) (c.def_ 6 (d := df_name_of) rfl)
  n_min := He.free_ok X G (c.fact 27 (f := .free "min") rfl)
  d_told_from := fun_mk (K := K) X G (c.fact 28 (f := .glo "told_from") rfl) (c.def_ 9 (d := df_told_from) rfl)
  d_is_within := fun_mk (K := K) X G (c.fact 29 (f := .glo "is_within") rfl) (c.def_ 11 (d := df_is_within) rfl)
  d_parent_of := fun_mk (K := K) X G (c.fact 30 (f := .glo "parent_of") rfl) (c.def_ 5 (d := df_parent_of) rfl)
  d_with_end := fun_mk (K := K) X G (c.fact 31 (f := .glo "with_end") rfl) (c.def_ 8 (d := df_with_end) rfl)
  n_all := He.free_ok X G (c.fact 32 (f := .free "all") rfl)
  n_any := He.free_ok X G (c.fact 33 (f := .free "any") rfl)
  n_sorted := He.free_ok X G (c.fact 34 (f := .free "sorted") rfl)
  n_sum := He.free_ok X G (c.fact 35 (f := .free "sum") rfl)
  d_depth_of := fun_mk (K := K) X G (c.fact 36 (f := .glo "depth_of") rfl) (c.def_ 13 (d := df_depth_of) rfl)
  d_in_turn := fun_mk (K := K) X G (c.fact 37 (f := .glo "in_turn") rfl) (c.def_ 12 (d := df_in_turn) rfl)
  d_shared_path := fun_mk (K := K) X G (c.fact 38 (f := .glo "shared_path") rfl) (c.def_ 10 (d := df_shared_path) rfl)
  t__law_told := by
    obtain ⟨fd, F⟩ := c.def_ 17 (d := df__law_told) rfl
    have b := F.bindsN (ps := ["what"]) fun _ _ _ _ _ _ us hl => match us, hl with | [_], _ => rfl
    obtain ⟨oc, od, dV, kV, doc, pm, an, cdv, ct, osl, rfl, lk, hcd, _, _⟩ := F.ex
    exact ⟨_, _, _, dV, kV, doc, pm, cdv, ct, oc, an, od, osl, "what", "PathError", _, _, _, _, _, _, _, _, _, He.glo_ok X G (c.fact 39 (f := .glo "_law_told") rfl), F.kp, lk, hcd, b, ⟨rfl, rfl, rfl, by decide +kernel, rfl, by decide +kernel, by decide +kernel⟩, .inl rfl, rfl, He.glo_ok X G (c.fact 3 (f := .glo "PathError") rfl), by decide, by decide, by decide⟩
  x_PathError := He.exm_ok (c.fact 40 (f := .exm "PathError" "PathError" true) rfl)
  d__law_plain := fun_mk (K := K) X G (c.fact 41 (f := .glo "_law_plain") rfl) (c.def_ 23 (d := df__law_plain) rfl)
  n_dict := He.free_ok X G (c.fact 42 (f := .free "dict") rfl)
abbrev hT (K : PySem.W.Frag) : List (Addr × Str) := [((He.cT K ("parts_of", none)).2, (("parts_of" : Str) ++ ".<locals>." ++ "<genexpr>")), ((He.cT K ("shared_path", none)).2, (("shared_path" : Str) ++ ".<locals>." ++ "<genexpr>")), ((He.cT K ("in_turn", none)).2, (("in_turn" : Str) ++ ".<locals>." ++ "<genexpr>")), ((He.cT K ("depth_of", none)).2, (("depth_of" : Str) ++ ".<locals>." ++ "<genexpr>")), ((He.cT K ("_law_plain", none)).2, (("_law_plain" : Str) ++ ".<locals>." ++ "<lambda>")), ((He.cT K ("law", none)).2, (("law" : Str) ++ ".<locals>." ++ "<lambda>"))]
abbrev hClo : Nat → ClD := cloS (top 31) 0 (("_law_plain" : Str) ++ ".<locals>." ++ "<lambda>")
theorem hLaw {l : PySem.W.OpenLaw} {w : World} {K : PySem.W.Frag} {h : Heap} {mg : Str → Option Value} {fa : Addr} (X : K.In h) (G : h.Ns mainGlobals mg) (hfa : mg "law" = some (.ref fa)) (c : He.SaysX fas dfs [] tfs hEx w h K)
    (plain : ∀ ns : List Int, ns.length ≤ 63 → ∃ e, m_law [.scr (ns.map .int)] [] = .ok (.d (.bool true)) e) : LamX.LawAtS l w K (L2.CX l.prog w) 22 63 "script" mg fa h := by
  have cd := c.t.d
  have M : Md l.prog w K mg (hCls K) := hMd X G cd
  have nd : ((hT K).map (·.1)).Nodup := of_decide_eq_true c.more
  obtain ⟨f, fd, F, hm, hb⟩ := funL_mk (K := K) (st := top 32) X G (cd.fact 43 (f := .glo "law") rfl) (cd.def_ 24 (d := df_law) rfl) fun _ _ _ _ _ _ us hl => match us, hl with | [_], _ => rfl
  have e := hfa.symm.trans hm
  cases e
  refine ⟨fd, tfs.map (He.cT K), spM K (hT K) (hCls K) hClo 1 m_law, fun p hp => ?_, fun p hp => ?_, fun p hp => ?_, hb, fun H a ns hl _ ht hs => ?_, fun base Xb Gb TB => ?_⟩
  · obtain ⟨q, hq, rfl⟩ := List.mem_map.mp hp
    exact c.empty q hq
  · obtain ⟨q, hq, rfl⟩ := List.mem_map.mp hp
    exact c.out q hq
  · obtain ⟨q, hq, rfl⟩ := List.mem_map.mp hp
    exact PySem.W.codeHd_of_K X (c.hd q hq)
  · obtain ⟨e, pe⟩ := plain ns hl
    refine law_sp (cs := tfs.map (He.cT K)) (fun p hp => ?_) ht hs pe
    simp only [hT, List.mem_cons, List.not_mem_nil, or_false] at hp
    rcases hp with rfl | rfl | rfl | rfl | rfl | rfl
    · exact ⟨He.cT K ("parts_of", none), List.mem_map.mpr ⟨_, by decide, rfl⟩, rfl⟩
    · exact ⟨He.cT K ("shared_path", none), List.mem_map.mpr ⟨_, by decide, rfl⟩, rfl⟩
    · exact ⟨He.cT K ("in_turn", none), List.mem_map.mpr ⟨_, by decide, rfl⟩, rfl⟩
    · exact ⟨He.cT K ("depth_of", none), List.mem_map.mpr ⟨_, by decide, rfl⟩, rfl⟩
    · exact ⟨He.cT K ("_law_plain", none), List.mem_map.mpr ⟨_, by decide, rfl⟩, rfl⟩
    · exact ⟨He.cT K ("law", none), List.mem_map.mpr ⟨_, by decide, rfl⟩, rfl⟩
  · have TBs : ∀ q ∈ tfs, LamX.TabB base mg (He.cT K q).1 (He.cT K q).2 := fun q hq => TB _ (List.mem_map.mpr ⟨q, hq, rfl⟩)
    have D_check_path := ok_check_path (base := base) (T := hT K) (clo := hClo) M
    have D_is_whole := ok_is_whole (base := base) (T := hT K) (clo := hClo) M
    have D__law_dice := ok__law_dice (base := base) (T := hT K) (clo := hClo) M
    have D__law_led := ok__law_led (base := base) (T := hT K) (clo := hClo) M
    have D__law_plain_path := ok__law_plain_path (base := base) (T := hT K) (clo := hClo) M
    have D__law_within := ok__law_within (base := base) (T := hT K) (clo := hClo) M
    have D__law_shared := ok__law_shared (base := base) (T := hT K) (clo := hClo) M
    have D_ends_of := ok_ends_of (base := base) (T := hT K) (clo := hClo) M D_check_path
    have D__law_rounds := ok__law_rounds (base := base) (T := hT K) (clo := hClo) M D__law_dice
    have D__law_roll := ok__law_roll (base := base) (T := hT K) (clo := hClo) M
    have D__law_drawn := ok__law_drawn (base := base) (T := hT K) (clo := hClo) M D__law_roll
    have D_parts_of := ok_parts_of (base := base) (T := hT K) (clo := hClo) M (funC_mk (K := K) X G (cd.fact 22 (f := .glo "parts_of") rfl) (cd.def_ 2 (d := df_parts_of) rfl)) (TBs _ (by decide : (("parts_of", none) : He.Defn) ∈ tfs)) (by simp [hT]) (hu_of nd (by simp [hT])) D_check_path
    have D_made_plain := ok_made_plain (base := base) (T := hT K) (clo := hClo) M D_parts_of D_is_whole
    have D_joined_path := ok_joined_path (base := base) (T := hT K) (clo := hClo) M D_check_path D_is_whole D_made_plain
    have D_name_of := ok_name_of (base := base) (T := hT K) (clo := hClo) M D_made_plain
    have D_told_from := ok_told_from (base := base) (T := hT K) (clo := hClo) M D_made_plain D_parts_of D_is_whole
    have D_is_within := ok_is_within (base := base) (T := hT K) (clo := hClo) M D_made_plain D_is_whole D_parts_of
    have D_parent_of := ok_parent_of (base := base) (T := hT K) (clo := hClo) M D_joined_path
    have D_with_end := ok_with_end (base := base) (T := hT K) (clo := hClo) M D_made_plain D_name_of D_ends_of
    have D_shared_path := ok_shared_path (base := base) (T := hT K) (clo := hClo) M (funC_mk (K := K) X G (cd.fact 38 (f := .glo "shared_path") rfl) (cd.def_ 10 (d := df_shared_path) rfl)) (TBs _ (by decide : (("shared_path", none) : He.Defn) ∈ tfs)) (by simp [hT]) (hu_of nd (by simp [hT])) D_parts_of D_is_whole D_made_plain
    have D_in_turn := ok_in_turn (base := base) (T := hT K) (clo := hClo) M (funC_mk (K := K) X G (cd.fact 37 (f := .glo "in_turn") rfl) (cd.def_ 12 (d := df_in_turn) rfl)) (TBs _ (by decide : (("in_turn", none) : He.Defn) ∈ tfs)) (by simp [hT]) (hu_of nd (by simp [hT])) D_made_plain D_parts_of D_is_whole
    have D_depth_of := ok_depth_of (base := base) (T := hT K) (clo := hClo) M (funC_mk (K := K) X G (cd.fact 36 (f := .glo "depth_of") rfl) (cd.def_ 13 (d := df_depth_of) rfl)) (TBs _ (by decide : (("depth_of", none) : He.Defn) ∈ tfs)) (by simp [hT]) (hu_of nd (by simp [hT])) D_parts_of D_made_plain
    have D__law_plain := ok__law_plain (base := base) (T := hT K) (clo := hClo) M (funC_mk (K := K) X G (cd.fact 41 (f := .glo "_law_plain") rfl) (cd.def_ 23 (d := df__law_plain) rfl)) (TBs _ (by decide : (("_law_plain", none) : He.Defn) ∈ tfs)) (by simp [hT]) (hu_of nd (by simp [hT])) rfl D_check_path D_parts_of D_made_plain D_joined_path D_parent_of D_name_of D_ends_of D_with_end D_told_from D_shared_path D_is_within D_in_turn D_depth_of
    exact fo_law M F (TBs _ (by decide : (("law", none) : He.Defn) ∈ tfs)) (by simp [hT]) (hu_of nd (by simp [hT])) D__law_rounds D__law_plain D_made_plain D_joined_path D__law_drawn D__law_plain_path D__law_led D_parent_of D_is_within D__law_within D__law_roll D_parts_of D_is_whole D_name_of D_depth_of D_told_from D_shared_path D_in_turn D_ends_of D__law_shared D_with_end
end Ev
open PySem PySem.W PySem.Calls PyProof.Rows
theorem hHolds (plain : ∀ ns : List Int, ns.length ≤ 63 → ∃ e, Ev.m_law [.scr (ns.map .int)] [] = .ok (.d (.bool true)) e) : PySem.Challenge.rw_shellstack_k01_paths_made_plain.Holds := by
  w_on; o_law
  refine HandSHeadRun.head_any (r := OpenLaw.row PySem.Challenge.rw_shellstack_k01_paths_made_plain) (q := view (OpenLaw.row PySem.Challenge.rw_shellstack_k01_paths_made_plain).prog [32]) (H := Ev.hHook) (ob := Ev.hOb) (M := 3000) (loose := Ev.hNames) (d := HandSHeadRun.topDef (OpenLaw.row PySem.Challenge.rw_shellstack_k01_paths_made_plain).prog 32) (kwd := []) Ev.hOb_eq
    (by kernel_rfl) (fun s => by kernel_rfl) Ev.hRun (by kernel_rfl) (by kernel_rfl) (by kernel_rfl) (by rfl) (by first | assumption | decide +kernel) (by decide +kernel) ⟨rfl, rfl, rfl, rfl, rfl, by decide +kernel⟩ ?hw ?hc
  case hw => w_witness2
  case hc =>
    refine LamX.walk_ofTsE (l := PySem.Challenge.rw_shellstack_k01_paths_made_plain) (n := 63) (k := 22) (x := "script") (CX := fun w => L2.CX PySem.Challenge.rw_shellstack_k01_paths_made_plain.prog w) rfl (by decide) (by kernel_rfl) ⟨rfl, by decide, by decide⟩ ?F (fun _ H s e s' ⟨_, _, _, _, _, _, _, _, _, _, _, _, z⟩ => z)
    intro w mg fa h Y G hmg0
    obtain ⟨K, KX, c⟩ := Y
    have hmg : mg ("law" : PySem.Str) = some (.ref fa) := by
      have e : (HandSHeadRun.topDef (OpenLaw.row PySem.Challenge.rw_shellstack_k01_paths_made_plain).prog 32).name = ("law" : PySem.Str) := by kernel_rfl
      rw [← e]
      exact hmg0
    exact ⟨K, KX, Ev.hLaw KX G hmg c plain⟩

set_option Elab.async false
set_option linter.all false
set_option maxRecDepth 100000
/-! ### the dice, whatever they hold -/
namespace Dc
open PySem L2 Ev
abbrev DO (a b c : Int) : Ob := .lst [.int a, .int b, .int c]
abbrev DE (a b c m : Int) (x : Option SV) : Ev.Env := ⟨[some (.fro (.hnd 0)), some (.fro (.d (.int m))), x], [DO a b c]⟩
section
variable (a b c m : Int) (x : Option SV)
theorem d0 : b2 (vr 0) (cst (.d (.int 0))) ixG (DE a b c m x) = .ok (.d (.int a)) (DE a b c m x) := by rfl
theorem d1 : b2 (vr 0) (cst (.d (.int 1))) ixG (DE a b c m x) = .ok (.d (.int b)) (DE a b c m x) := by rfl
theorem d2 : b2 (vr 0) (cst (.d (.int 2))) ixG (DE a b c m x) = .ok (.d (.int c)) (DE a b c m x) := by rfl
theorem v1 : vr 1 (DE a b c m x) = .ok (.d (.int m)) (DE a b c m x) := by rfl
theorem eq_int (i j : Int) (e : Ev.Env) : eqG (.d (.int i)) (.d (.int j)) e = some (decide (i = j)) := by
  unfold eqG
  have h : ∀ k : Int, SeqAt.shaped (.int k) = true := fun k => rfl
  simp only [dof, h, and_self, if_true]
  congr 1
theorem st0 {fv : Ev.Env → Rs R} {v : Int} (h : fv (DE a b c m x) = .ok (.d (.int v)) (DE a b c m x)) : stS fv (vr 0) (cst (.d (.int 0))) (DE a b c m x) = .nx (DE v b c m x) := by
  unfold stS bS
  rw [h]; rfl
theorem st1 {fv : Ev.Env → Rs R} {v : Int} (h : fv (DE a b c m x) = .ok (.d (.int v)) (DE a b c m x)) : stS fv (vr 0) (cst (.d (.int 1))) (DE a b c m x) = .nx (DE a v c m x) := by
  unfold stS bS
  rw [h]; rfl
theorem st2 {fv : Ev.Env → Rs R} {v : Int} (h : fv (DE a b c m x) = .ok (.d (.int v)) (DE a b c m x)) : stS fv (vr 0) (cst (.d (.int 2))) (DE a b c m x) = .nx (DE a b v m x) := by
  unfold stS bS
  rw [h]; rfl
theorem fdiv_of {i j : Int} {e : Ev.Env} (h1 : j ≠ 0) (h2 : j.natAbs < 1073741824) : fdivG (.d (.int i)) (.d (.int j)) e = .ok (.d (.int (i.fdiv j))) e := by
  unfold fdivG
  exact if_pos ⟨h1, h2⟩
theorem int_of {f : Ev.Env → Rs R} {e e1 : Ev.Env} {i : Int} (h : f e = .ok (.d (.int i)) e1) : bnd (conA f nilA) intG e = .ok (.d (.int i)) e1 := by
  rw [bnd_of (one_of h)]; rfl
theorem mod_of {i j : Int} {e : Ev.Env} (h1 : j ≠ 0) : modG (.d (.int i)) (.d (.int j)) e = .ok (.d (.int (i.fmod j))) e := by
  unfold modG
  exact if_pos h1
theorem mul_of {i j : Int} {e : Ev.Env} (h1 : -(2 ^ 64) < j) (h2 : j < 2 ^ 64) : mulG (.d (.int i)) (.d (.int j)) e = .ok (.d (.int (i * j))) e := by
  unfold mulG
  exact if_pos (.inr ⟨h1, h2⟩)
/-- whether a draw is told by the cell itself -/
def told (a c : Int) : Bool := decide (c = 2) || (decide (c = 1) && gtI a 0)
theorem c1 : orT (b2 (b2 (vr 0) (cst (.d (.int 2))) ixG) (cst (.d (.int 2))) (cmT (eqG))) ((andT (b2 (b2 (vr 0) (cst (.d (.int 2))) ixG) (cst (.d (.int 1))) (cmT (eqG))) (b2 (b2 (vr 0) (cst (.d (.int 0))) ixG) (cst (.d (.int 0))) (cmT (ltOf gtI gtL))))) (DE a b c m x) = .ok (told a c) (DE a b c m x) := by
  have e1 : b2 (b2 (vr 0) (cst (.d (.int 2))) ixG) (cst (.d (.int 2))) (cmT (eqG)) (DE a b c m x) = .ok (decide (c = 2)) (DE a b c m x) := by
    rw [b2c_of (d2 a b c m x), cmT, eq_int]
  have e2 : b2 (b2 (vr 0) (cst (.d (.int 2))) ixG) (cst (.d (.int 1))) (cmT (eqG)) (DE a b c m x) = .ok (decide (c = 1)) (DE a b c m x) := by
    rw [b2c_of (d2 a b c m x), cmT, eq_int]
  have e3 : b2 (b2 (vr 0) (cst (.d (.int 0))) ixG) (cst (.d (.int 0))) (cmT (ltOf gtI gtL)) (DE a b c m x) = .ok (gtI a 0) (DE a b c m x) := by
    rw [b2c_of (d0 a b c m x)]; rfl
  unfold told
  by_cases h : c = 2
  · rw [decide_eq_true h] at e1 ⊢
    exact orT_T e1
  · rw [decide_eq_false h] at e1 ⊢
    refine (orT_F e1 rfl).trans ?_
    by_cases g : c = 1
    · rw [decide_eq_true g] at e2 ⊢
      exact andT_T e2 e3
    · rw [decide_eq_false g] at e2 ⊢
      exact andT_F e2
theorem roll (hm : 1 ≤ m) (hM : m ≤ 100000000) : ∃ v a' b' c' : Int, 0 ≤ v ∧ v < m ∧ m__law_roll [.hnd 0, .d (.int m)] [DO a b c] = .ok (.d (.int v)) ⟨[], [DO a' b' c']⟩ := by
  have m0 : m ≠ 0 := by omega
  have mA : m.natAbs < 1073741824 := by omega
  have ee : inE 3 [.hnd 0, .d (.int m)] [DO a b c] = DE a b c m none := by simp [inE]
  have mr : m__law_roll = mOf 3 (f__law_roll (mRec 3 f__law_roll 3)) := rfl
  rw [mr]
  have h1 := c1 a b c m none
  cases q : told a c with
  | true =>
    rw [q] at h1
    refine ⟨a.fmod m, a.fdiv m, b, c, Int.fmod_nonneg_of_pos a (by omega), Int.fmod_lt_of_pos a (by omega), ?_⟩
    have s1 : asS (b2 (bnd (conA (b2 (vr 0) (cst (.d (.int 0))) ixG) nilA) intG) (vr 1) modG) (setR 2) (DE a b c m none) = .nx (DE a b c m (some (.fro (.d (.int (a.fmod m)))))) := by
      refine asS_of (x := .d (.int (a.fmod m))) (e1 := DE a b c m none) ?_ rfl
      rw [b2_of (int_of (d0 a b c m none)) (v1 a b c m none)]
      exact mod_of m0
    have s2 : stS (b2 (b2 (vr 0) (cst (.d (.int 0))) ixG) (vr 1) fdivG) (vr 0) (cst (.d (.int 0))) (DE a b c m (some (.fro (.d (.int (a.fmod m)))))) = .nx (DE (a.fdiv m) b c m (some (.fro (.d (.int (a.fmod m)))))) := by
      refine st0 _ _ _ _ _ ?_
      rw [b2_of (d0 a b c m _) (v1 a b c m _)]
      exact fdiv_of m0 mA
    exact mOf_ret (f := f__law_roll (mRec 3 f__law_roll 3)) (by rw [ee]; exact sqS_ret (ifS_T h1 (sqS_of s1 (sqS_of s2 (sqS_ret (rtS_of (x := .int (a.fmod m)) rfl))))))
  | false =>
    rw [q] at h1
    let A : Int := (a * 48271 + b * 69621 + 11).fmod 2147483647
    refine ⟨(A.fdiv 7).fmod m, A, b + 1, 0, Int.fmod_nonneg_of_pos _ (by omega), Int.fmod_lt_of_pos _ (by omega), ?_⟩
    have s1 : stS (cst (.d (.int 0))) (vr 0) (cst (.d (.int 2))) (DE a b c m none) = .nx (DE a b 0 m none) := st2 _ _ _ _ _ rfl
    have s2 : b2 (vr 1) (cst (.d (.int 100000000))) (cmT (ltOf gtI gtL)) (DE a b 0 m none) = .ok false (DE a b 0 m none) := by
      have g : gtI m 100000000 = false := decide_eq_false (by omega)
      have : b2 (vr 1) (cst (.d (.int 100000000))) (cmT (ltOf gtI gtL)) (DE a b 0 m none) = .ok (gtI m 100000000) (DE a b 0 m none) := rfl
      rw [this, g]
    have s3 : stS (b2 (bnd (conA (b2 (b2 (b2 (b2 (vr 0) (cst (.d (.int 0))) ixG) (cst (.d (.int 48271))) mulG) (b2 (b2 (vr 0) (cst (.d (.int 1))) ixG) (cst (.d (.int 69621))) mulG) addG) (cst (.d (.int 11))) addG) nilA) intG) (cst (.d (.int 2147483647))) modG) (vr 0) (cst (.d (.int 0))) (DE a b 0 m none) = .nx (DE A b 0 m none) := by
      refine st0 _ _ _ _ _ ?_
      have p1 : b2 (b2 (vr 0) (cst (.d (.int 0))) ixG) (cst (.d (.int 48271))) mulG (DE a b 0 m none) = .ok (.d (.int (a * 48271))) (DE a b 0 m none) := by
        rw [b2c_of (d0 a b 0 m none)]
        exact mul_of (by decide) (by decide)
      have p2 : b2 (b2 (vr 0) (cst (.d (.int 1))) ixG) (cst (.d (.int 69621))) mulG (DE a b 0 m none) = .ok (.d (.int (b * 69621))) (DE a b 0 m none) := by
        rw [b2c_of (d1 a b 0 m none)]
        exact mul_of (by decide) (by decide)
      have p3 : b2 (b2 (b2 (b2 (vr 0) (cst (.d (.int 0))) ixG) (cst (.d (.int 48271))) mulG) (b2 (b2 (vr 0) (cst (.d (.int 1))) ixG) (cst (.d (.int 69621))) mulG) addG) (cst (.d (.int 11))) addG (DE a b 0 m none) = .ok (.d (.int (a * 48271 + b * 69621 + 11))) (DE a b 0 m none) := by
        rw [b2c_of (b2_of p1 p2)]; rfl
      rw [b2c_of (int_of p3)]
      exact mod_of (by decide)
    have s4 : stS (b2 (b2 (vr 0) (cst (.d (.int 1))) ixG) (cst (.d (.int 1))) addG) (vr 0) (cst (.d (.int 1))) (DE A b 0 m none) = .nx (DE A (b + 1) 0 m none) := by
      refine st1 _ _ _ _ _ ?_
      rw [b2c_of (d1 A b 0 m none)]; rfl
    have s5 : b2 (bnd (conA (b2 (b2 (vr 0) (cst (.d (.int 0))) ixG) (cst (.d (.int 7))) fdivG) nilA) intG) (vr 1) modG (DE A (b + 1) 0 m none) = .ok (.d (.int ((A.fdiv 7).fmod m))) (DE A (b + 1) 0 m none) := by
      have p1 : b2 (b2 (vr 0) (cst (.d (.int 0))) ixG) (cst (.d (.int 7))) fdivG (DE A (b + 1) 0 m none) = .ok (.d (.int (A.fdiv 7))) (DE A (b + 1) 0 m none) := by
        rw [b2c_of (d0 A (b + 1) 0 m none)]
        exact fdiv_of (by decide) (by decide)
      rw [b2_of (int_of p1) (v1 A (b + 1) 0 m none)]
      exact mod_of m0
    exact mOf_ret (f := f__law_roll (mRec 3 f__law_roll 3)) (by rw [ee]; exact sqS_of (ifS_F h1 rfl) (sqS_of s1 (sqS_of (ifS_F s2 rfl) (sqS_of s3 (sqS_of s4 (sqS_ret (rtS_of (x := .int ((A.fdiv 7).fmod m)) s5)))))))
/-- a draw in a def or the law: r the root's or the handle's name -/
theorem rollE {r : R} {fd : Ev.Env → Rs R} {e : Ev.Env} (hr : (∃ i, r = .loc i) ∨ ∃ i, r = .hnd i) (hv : fd e = .ok r e) (ho : rootOf e r = some (DO a b c)) (hm : 1 ≤ m) (hM : m ≤ 100000000) : ∃ v a' b' c' : Int, 0 ≤ v ∧ v < m ∧ bnd (conA fd (conA (cst (.d (.int m))) nilA)) (caN 2 m__law_roll) e = .ok (.d (.int v)) (putR e r (DO a' b' c')) := by
  obtain ⟨v, a', b', c', h1, h2, h3⟩ := roll a b c m hm hM
  refine ⟨v, a', b', c', h1, h2, ?_⟩
  rw [bnd_of (show conA fd (conA (cst (.d (.int m))) nilA) e = .ok [r, .d (.int m)] e from conA_of hv rfl)]
  rcases hr with ⟨i, rfl⟩ | ⟨i, rfl⟩
  · simp only [caN, caM, splitA, ho, h3, List.length_cons, List.length_nil, okR, if_true]
  · simp only [caN, caM, splitA, ho, h3, List.length_cons, List.length_nil, okR, if_true]
end
end Dc

set_option Elab.async false
set_option linter.all false
set_option maxRecDepth 100000
namespace Dc
open PySem L2 Ev
abbrev DN (n : Int) : Ev.Env := ⟨[some (.fro (.d (.int n)))], []⟩
theorem dn0 (n : Int) : vr 0 (DN n) = .ok (.d (.int n)) (DN n) := rfl
theorem dn_c (n : Int) : ch3 (b2 (cst (.d (.int 0))) (cst (.d (.int 10))) subG) (vr 0) (cst (.d (.int 10))) (ltOf ltI ltL) (ltOf ltI ltL) oT (DN n) = .ok (ltI (0 - 10) n && ltI n 10) (DN n) := by
  rw [a_ch3, bnd_of (show b2 (cst (.d (.int 0))) (cst (.d (.int 10))) subG (DN n) = .ok (.d (.int (0 - 10))) (DN n) from rfl), bnd_of (dn0 n)]
  have e1 : (ltOf ltI ltL) (R.d (.int (0 - 10))) (R.d (.int n)) (DN n) = some (ltI (0 - 10) n) := rfl
  simp only [e1]
  cases ltI (0 - 10) n with
  | true => rfl
  | false => rfl
theorem rtO_of {f : Ev.Env → Rs Ob} {e e1 : Ev.Env} {o : Ob} {b : Bool} (h : f e = .ok o e1) : rtO b f e = .rto b o e1 := by
  unfold rtO bS
  rw [h]
theorem lst3 (x y z : Dt) (e : Ev.Env) : lstN [.d x, .d y, .d z] e = .ok (.lst [x, y, z]) e := by
  have h : (3 : Nat) ≤ sizeLine := by decide
  simp [lstN, allD, dOf, h]
theorem mOfR_of {b : Bool} {n : Nat} {f : Ev.Env → Sr} {rs : List R} {hs : List Ob} {o : Ob} {e : Ev.Env} (h : f (inE n rs hs) = .rto b o e) : mOfR b n f rs hs = .ok o ⟨[], e.hs⟩ := by
  unfold mOfR
  rw [h]
  simp only [if_true]
theorem sqS_rto {s t : Ev.Env → Sr} {e e1 : Ev.Env} {b : Bool} {o : Ob} (h1 : s e = .rto b o e1) : sqS s t e = .rto b o e1 := by
  unfold sqS
  rw [h1]
theorem pow18 (e : Ev.Env) : ∃ p : Int, b2 (cst (.d (.int 10))) (cst (.d (.int 18))) powG e = .ok (.d (.int p)) e := ⟨_, rfl⟩
theorem s_dice (n : Int) : ∃ a b c : Int, m__law_dice [.d (.int n)] [] = .ok (DO a b c) ⟨[], []⟩ := by
  have ee : inE 1 [.d (.int n)] [] = DN n := by simp [inE]
  have hc := dn_c n
  cases q : (ltI (0 - 10) n && ltI n 10) with
  | true =>
    rw [q] at hc
    refine ⟨if n < 0 then -n else n, 0, 2, mOfR_of (f := f__law_dice) (e := DN n) ?_⟩
    rw [ee]
    refine sqS_rto (ifS_T hc (sqS_rto (rtO_of ?_)))
    rw [bnd_of (conA_of (show bnd (conA (vr 0) nilA) absG (DN n) = .ok (.d (.int (if n < 0 then -n else n))) (DN n) from rfl) (conA_of (cst_ok _ _) (one_of (cst_ok _ _))))]
    exact lst3 _ _ _ _
  | false =>
    rw [q] at hc
    obtain ⟨p, hp⟩ := pow18 (DN n)
    have hm : b2 (bnd (conA (vr 0) nilA) intG) (cst (.d (.int 1009))) modG (DN n) = .ok (.d (.int (n.fmod 1009))) (DN n) := by
      rw [b2c_of (int_of (dn0 n))]
      exact mod_of (by decide)
    have hg : b2 (vr 0) (b2 (cst (.d (.int 10))) (cst (.d (.int 18))) powG) (cmV (ltOf geI geL)) (DN n) = .ok (.d (.bool (geI n p))) (DN n) := by
      rw [b2_of (dn0 n) hp]; rfl
    refine ⟨n, 1 + n.fmod 1009, if geI n p then 1 else 0, mOfR_of (f := f__law_dice) (e := DN n) ?_⟩
    rw [ee]
    refine sqS_of (ifS_F hc rfl) (sqS_rto (rtO_of ?_))
    have h2 : b2 (cst (.d (.int 1))) (b2 (bnd (conA (vr 0) nilA) intG) (cst (.d (.int 1009))) modG) addG (DN n) = .ok (.d (.int (1 + n.fmod 1009))) (DN n) := by
      rw [b2_of (cst_ok _ _) hm]; rfl
    have h3 : bnd (conA (b2 (vr 0) (b2 (cst (.d (.int 10))) (cst (.d (.int 18))) powG) (cmV (ltOf geI geL))) nilA) intG (DN n) = .ok (.d (.int (if geI n p then 1 else 0))) (DN n) := by
      rw [bnd_of (one_of hg)]; rfl
    rw [bnd_of (conA_of (dn0 n) (conA_of h2 (one_of h3)))]
    exact lst3 _ _ _ _
/-- the rounds of one cell -/
theorem s_rounds (ns : List Int) : ∃ a b c : Int, m__law_rounds [.scr (ns.map .int), .d (.int 1)] [] = .ok (DO a b c) ⟨[], []⟩ := by
  have ee : inE 4 [.scr (ns.map .int), .d (.int 1)] [] = ⟨[some (.fro (.scr (ns.map .int))), some (.fro (.d (.int 1))), none, none], []⟩ := by simp [inE]
  have key : ∃ n : Int, ∃ e2 : Ev.Env, e2 = ⟨[some (.fro (.scr (ns.map .int))), some (.fro (.d (.int 1))), some (.fro (.d (.list [.int n]))), none], []⟩ ∧ sqS (asS (slV (vr 0) noP (bnd (vr 1) inP)) (setR 2)) (ifS (b2 (vr 2) (bnd nilA lstG) (cmT (eqG))) (sqS (asS (bnd (conA (cst (.d (.int 0))) nilA) lstG) (setR 2)) skS) skS) (inE 4 [.scr (ns.map .int), .d (.int 1)] []) = .nx e2 := by
    have z0 : (0 : Nat) ≤ sizeLine := by decide
    have z1 : (1 : Nat) ≤ sizeLine := by decide
    rw [ee]
    have l0 : ∀ e : Ev.Env, bnd nilA lstG e = .ok (.d (.list [])) e := fun e => by simp [bnd, a_nilA, lstG, allD, z0]
    have sh0 : SeqAt.shaped (.list []) = true := by decide +kernel
    have sh1 : ∀ n : Int, SeqAt.shaped (.list [.int n]) = true := fun n => rfl
    cases ns with
    | nil =>
      refine ⟨0, _, rfl, sqS_of (asS_of (x := .d (.list [])) (e1 := ⟨[some (.fro (.scr [])), some (.fro (.d (.int 1))), none, none], []⟩) rfl rfl) (ifS_T (e1 := ⟨[some (.fro (.scr [])), some (.fro (.d (.int 1))), some (.fro (.d (.list []))), none], []⟩) ?_ (sqS_of (asS_of (x := .d (.list [.int 0])) (e1 := ⟨[some (.fro (.scr [])), some (.fro (.d (.int 1))), some (.fro (.d (.list []))), none], []⟩) ?_ rfl) rfl))⟩
      · refine (b2_of (x := .d (.list [])) (y := .d (.list [])) (e1 := ⟨[some (.fro (.scr [])), some (.fro (.d (.int 1))), some (.fro (.d (.list []))), none], []⟩) (e2 := ⟨[some (.fro (.scr [])), some (.fro (.d (.int 1))), some (.fro (.d (.list []))), none], []⟩) rfl (l0 _)).trans ?_
        simp only [cmT, eqG, dof, sh0, and_self, if_true]
        rfl
      · simp [bnd, a_conA, a_nilA, cst, lstG, allD, dOf, z1]
    | cons n ns =>
      refine ⟨n, _, rfl, sqS_of (asS_of (x := .d (.list [.int n])) (e1 := ⟨[some (.fro (.scr ((n :: ns).map .int))), some (.fro (.d (.int 1))), none, none], []⟩) ?_ rfl) (ifS_F (e1 := ⟨[some (.fro (.scr ((n :: ns).map .int))), some (.fro (.d (.int 1))), some (.fro (.d (.list [.int n]))), none], []⟩) ?_ rfl)⟩
      · rw [slV_of (α := Unit) (fa := vr 0) (fl := noP) (fh := bnd (vr 1) inP) (x := .scr ((n :: ns).map .int)) (l := none) (h := some 1) (e1 := ⟨[some (.fro (.scr ((n :: ns).map .int))), some (.fro (.d (.int 1))), none, none], []⟩) (e2 := ⟨[some (.fro (.scr ((n :: ns).map .int))), some (.fro (.d (.int 1))), none, none], []⟩) (e3 := ⟨[some (.fro (.scr ((n :: ns).map .int))), some (.fro (.d (.int 1))), none, none], []⟩) rfl rfl rfl]
        have : cutA ((n :: ns).map PyData.int) none (some 1) = [.int n] := by
          unfold cutA
          have e1 : HT.sIx ((n :: ns).map PyData.int).length ((n :: ns).map PyData.int).length (some (1 : Int)) = 1 := by
            rw [show (some (1 : Int)) = some ((1 : Nat) : Int) from rfl, HT.sIx_nat]
            simp
          rw [e1, HT.sIx_none]
          simp
        simp only [slG, this]
      · refine (b2_of (x := .d (.list [.int n])) (y := .d (.list [])) (e1 := ⟨[some (.fro (.scr ((n :: ns).map .int))), some (.fro (.d (.int 1))), some (.fro (.d (.list [.int n]))), none], []⟩) (e2 := ⟨[some (.fro (.scr ((n :: ns).map .int))), some (.fro (.d (.int 1))), some (.fro (.d (.list [.int n]))), none], []⟩) rfl (l0 _)).trans ?_
        simp only [cmT, eqG, dof, sh0, sh1, and_self, if_true]
        rfl
  obtain ⟨n, e2, he, hk⟩ := key
  obtain ⟨a, b, c, hd⟩ := s_dice n
  refine ⟨a, b, c, mOfR_of (f := f__law_rounds) (e := ⟨[some (.fro (.scr (ns.map .int))), some (.fro (.d (.int 1))), some (.fro (.d (.list [.int n]))), none], []⟩) ?_⟩
  have h3 : rtO true (lc1 [3] (bnd (vr 2) itG) (setR 3) (bnd (conA (vr 3) nilA) (caR 1 m__law_dice))) e2 = .rto true (DO a b c) ⟨[some (.fro (.scr (ns.map .int))), some (.fro (.d (.int 1))), some (.fro (.d (.list [.int n]))), none], []⟩ := by
    subst he
    refine rtO_of ?_
    simp [lc1, bnd, vr, itG, wipE, setR, a_conA, a_nilA, cst, caR, splitA, hd, reE, froOf]
  have hq : ∀ (s1 s2 s3 : Ev.Env → Sr) (e : Ev.Env), sqS s1 s2 e = .nx e2 → sqS s1 (sqS s2 s3) e = s3 e2 := fun s1 s2 s3 e h => by
    unfold sqS at h ⊢
    cases q : s1 e <;> rw [q] at h <;> first | (cases h; done) | skip
    dsimp only at h ⊢
    rw [h]
  exact (hq _ _ _ _ hk).trans (sqS_rto h3)
end Dc

set_option Elab.async false
set_option linter.all false
set_option maxRecDepth 100000
/-! k01's plain law, over lists of signs -/
namespace K1
open PySem L2 Ev
abbrev dd : List Nat := [46, 46]
/-- cut at "/" -/
def sp : List Nat → List (List Nat)
  | [] => [[]]
  | c :: r => if c = 47 then [] :: sp r else match sp r with
    | h :: t => (c :: h) :: t
    | [] => [[c]]
theorem sp_hit (r : List Nat) : sp (47 :: r) = [] :: sp r := by rw [sp]; exact if_pos rfl
theorem sp_miss {c : Nat} (h : c ≠ 47) (r : List Nat) : sp (c :: r) = match sp r with
    | h :: t => (c :: h) :: t
    | [] => [[c]] := by rw [sp]; exact if_neg h
theorem sp_ne : ∀ l, sp l ≠ []
  | [] => by simp [sp]
  | c :: r => by
    unfold sp
    split
    · simp
    · split <;> simp
theorem sp_app : ∀ a b, sp (a ++ 47 :: b) = sp a ++ sp b
  | [], b => by simp [sp]
  | c :: a, b => by
    have ih := sp_app a b
    have n := sp_ne a
    rw [List.cons_append]
    by_cases h : c = 47
    · subst h
      rw [sp_hit, sp_hit, ih]; rfl
    · rw [sp_miss h, sp_miss h, ih]
      cases q : sp a with
      | nil => exact absurd q n
      | cons x t => rfl
theorem sp_nosep : ∀ {x}, 47 ∉ x → sp x = [x]
  | [], _ => rfl
  | c :: r, h => by
    have h1 : c ≠ 47 := fun z => h (by rw [z]; exact List.mem_cons_self)
    have ih := sp_nosep (x := r) fun z => h (List.mem_cons_of_mem _ z)
    rw [sp_miss h1, ih]
theorem mem_sp : ∀ {l x}, x ∈ sp l → 47 ∉ x ∧ ∀ c ∈ x, c ∈ l
  | [], x, h => by simp [sp] at h; subst h; simp
  | c :: r, x, h => by
    by_cases e : c = 47
    · subst e
      rw [sp_hit] at h
      rcases List.mem_cons.mp h with rfl | h
      · simp
      · obtain ⟨h1, h2⟩ := mem_sp h
        exact ⟨h1, fun a ha => List.mem_cons_of_mem _ (h2 a ha)⟩
    · rw [sp_miss e] at h
      split at h
      · rename_i y t q
        rcases List.mem_cons.mp h with rfl | h
        · obtain ⟨h1, h2⟩ := mem_sp (l := r) (x := y) (by rw [q]; exact List.mem_cons_self)
          refine ⟨fun z => ?_, fun a ha => ?_⟩
          · rcases List.mem_cons.mp z with z | z
            · exact e z.symm
            · exact h1 z
          · rcases List.mem_cons.mp ha with rfl | ha
            · exact List.mem_cons_self
            · exact List.mem_cons_of_mem _ (h2 a ha)
        · obtain ⟨h1, h2⟩ := mem_sp (l := r) (x := x) (by rw [q]; exact List.mem_cons_of_mem _ h)
          exact ⟨h1, fun a ha => List.mem_cons_of_mem _ (h2 a ha)⟩
      · rename_i q
        exact absurd q (sp_ne r)
abbrev jn (L : List (List Nat)) : List Nat := TL.joinL [47] L
theorem sp_jn : ∀ {L : List (List Nat)}, L ≠ [] → (∀ x ∈ L, 47 ∉ x) → sp (jn L) = L
  | [], h, _ => absurd rfl h
  | [x], _, h => sp_nosep (h x List.mem_cons_self)
  | x :: y :: r, _, h => by
    show sp (x ++ 47 :: jn (y :: r)) = _
    rw [sp_app, sp_nosep (h x List.mem_cons_self), sp_jn (by simp) fun z hz => h z (List.mem_cons_of_mem _ hz)]
    rfl
theorem spl_sp : ∀ (l acc : List Nat), TL.spl [47] 0 acc l = match sp l with
    | h :: t => (acc ++ h) :: t
    | [] => [acc]
  | [], acc => by simp [TL.spl, sp]
  | c :: r, acc => by
    by_cases h : c = 47
    · subst h
      rw [TL.spl_hit (by simp [TL.pre]), sp_hit]
      have ih := spl_sp r []
      show acc :: TL.spl [47] 0 [] r = _
      rw [ih]
      have n := sp_ne r
      cases q : sp r with
      | nil => exact absurd q n
      | cons x t => simp
    · rw [TL.spl_miss (by simp [TL.pre, h]), sp_miss h, spl_sp r (acc ++ [c])]
      have n := sp_ne r
      cases q : sp r with
      | nil => exact absurd q n
      | cons x t => simp
def nm (x : List Nat) : Bool := decide (x ≠ [] ∧ x ≠ [46])
theorem nm_iff {x : List Nat} : nm x = true ↔ x ≠ [] ∧ x ≠ [46] := by simp [nm]
def parts (l : List Nat) : List (List Nat) := (sp l).filter nm
def wh (l : List Nat) : Bool := decide (l.take 1 = [47])
def stepP (w : Bool) (s : Nat × List (List Nat)) (x : List Nat) : Nat × List (List Nat) := if x = dd then (if s.2 = [] then (if w then s.1 else s.1 + 1, []) else (s.1, s.2.dropLast)) else (s.1, s.2 ++ [x])
def resL (w : Bool) (L : List (List Nat)) : Nat × List (List Nat) := L.foldl (stepP w) (0, [])
def res (p : List Nat) : Nat × List (List Nat) := resL (wh p) (parts p)
def rows (u : Nat) (h : List (List Nat)) : List (List Nat) := List.replicate u dd ++ h
def pOf (w : Bool) (u : Nat) (h : List (List Nat)) : List Nat := if w then 47 :: jn (rows u h) else if rows u h = [] then [46] else jn (rows u h)
def plainL (p : List Nat) : List Nat := pOf (wh p) (res p).1 (res p).2
structure Nf (w : Bool) (u : Nat) (h : List (List Nat)) : Prop where
  u0 : w = true → u = 0
  hn : ∀ x ∈ h, nm x = true ∧ x ≠ dd ∧ 47 ∉ x
theorem nf_step {w : Bool} {s : Nat × List (List Nat)} {x : List Nat} (n : Nf w s.1 s.2) (hx : nm x = true) (h7 : 47 ∉ x) : Nf w (stepP w s x).1 (stepP w s x).2 := by
  unfold stepP
  split
  · split
    · refine ⟨fun h => ?_, by simp⟩
      simp only [h, if_true]
      exact n.u0 h
    · exact ⟨n.u0, fun y hy => n.hn y (List.dropLast_subset _ hy)⟩
  · rename_i h
    refine ⟨n.u0, fun y hy => ?_⟩
    rcases List.mem_append.mp hy with hy | hy
    · exact n.hn y hy
    · rw [List.mem_singleton.mp hy]; exact ⟨hx, h, h7⟩
theorem nf_fold {w : Bool} : ∀ {L : List (List Nat)} {s : Nat × List (List Nat)}, Nf w s.1 s.2 → (∀ x ∈ L, nm x = true ∧ 47 ∉ x) → Nf w (L.foldl (stepP w) s).1 (L.foldl (stepP w) s).2
  | [], s, n, _ => n
  | x :: L, s, n, h => nf_fold (L := L) (nf_step n (h x List.mem_cons_self).1 (h x List.mem_cons_self).2) fun y hy => h y (List.mem_cons_of_mem _ hy)
theorem parts_mem {l x : List Nat} (h : x ∈ parts l) : nm x = true ∧ 47 ∉ x ∧ ∀ c ∈ x, c ∈ l := by
  obtain ⟨h1, h2⟩ := List.mem_filter.mp h
  exact ⟨h2, (mem_sp h1).1, (mem_sp h1).2⟩
theorem nf_res (p : List Nat) : Nf (wh p) (res p).1 (res p).2 := nf_fold (s := (0, [])) ⟨fun _ => rfl, by simp⟩ fun x hx => ⟨(parts_mem hx).1, (parts_mem hx).2.1⟩
theorem rows_mem {w : Bool} {u : Nat} {h : List (List Nat)} (n : Nf w u h) : ∀ x ∈ rows u h, nm x = true ∧ 47 ∉ x := fun x hx => by
  rcases List.mem_append.mp hx with hx | hx
  · rw [(List.mem_replicate.mp hx).2]; exact ⟨by decide, by decide⟩
  · exact ⟨(n.hn x hx).1, (n.hn x hx).2.2⟩
theorem filter_all {α : Type} {p : α → Bool} {l : List α} (h : ∀ x ∈ l, p x = true) : l.filter p = l := List.filter_eq_self.mpr h
theorem parts_pOf {w : Bool} {u : Nat} {h : List (List Nat)} (n : Nf w u h) : parts (pOf w u h) = rows u h ∧ wh (pOf w u h) = w := by
  have m := rows_mem n
  unfold pOf
  cases w with
  | true =>
    simp only [if_true]
    refine ⟨?_, by simp [wh]⟩
    unfold parts
    show (sp ([] ++ 47 :: jn (rows u h))).filter nm = _
    rw [sp_app]
    by_cases e : rows u h = []
    · rw [e]; rfl
    · rw [sp_jn e fun x hx => (m x hx).2]
      show List.filter nm ([] :: rows u h) = _
      rw [List.filter_cons_of_neg (by decide), filter_all fun x hx => (m x hx).1]
  | false =>
    simp only [Bool.false_eq_true, if_false]
    by_cases e : rows u h = []
    · rw [if_pos e, e]; exact ⟨by decide, by decide⟩
    · rw [if_neg e]
      refine ⟨?_, ?_⟩
      · unfold parts
        rw [sp_jn e fun x hx => (m x hx).2, filter_all fun x hx => (m x hx).1]
      · cases q : rows u h with
        | nil => exact absurd q e
        | cons x t =>
          rw [q] at m
          obtain ⟨h1, h2⟩ := m x List.mem_cons_self
          cases x with
          | nil => exact absurd rfl (nm_iff.mp h1).1
          | cons c x =>
            have hc : c ≠ 47 := fun z => h2 (by rw [z]; exact List.mem_cons_self)
            cases t with
            | nil => simp [wh, jn, TL.joinL, hc]
            | cons y t => simp [wh, jn, TL.joinL, hc]
theorem fold_up (w : Bool) (hw : w = false) : ∀ (u k : Nat), (List.replicate u dd).foldl (stepP w) (k, []) = (k + u, [])
  | 0, k => rfl
  | u + 1, k => by
    subst hw
    rw [List.replicate_succ, List.foldl_cons]
    show (List.replicate u dd).foldl (stepP false) (k + 1, []) = _
    rw [fold_up false rfl u (k + 1)]
    congr 1; omega
theorem fold_push (w : Bool) : ∀ (h h0 : List (List Nat)) (u : Nat), (∀ x ∈ h, x ≠ dd) → h.foldl (stepP w) (u, h0) = (u, h0 ++ h)
  | [], h0, u, _ => by simp
  | x :: h, h0, u, n => by
    rw [List.foldl_cons]
    have e : stepP w (u, h0) x = (u, h0 ++ [x]) := by unfold stepP; rw [if_neg (n x List.mem_cons_self)]
    rw [e, fold_push w h _ u fun y hy => n y (List.mem_cons_of_mem _ hy), List.append_assoc]; rfl
theorem resL_rows {w : Bool} {u : Nat} {h : List (List Nat)} (n : Nf w u h) : resL w (rows u h) = (u, h) := by
  unfold resL rows
  rw [List.foldl_append]
  cases w with
  | true =>
    have e := n.u0 rfl
    subst e
    show h.foldl (stepP true) (0, []) = _
    rw [fold_push true h [] 0 fun x hx => (n.hn x hx).2.1]; rfl
  | false =>
    rw [fold_up false rfl, Nat.zero_add, fold_push false h [] u fun x hx => (n.hn x hx).2.1]; rfl
theorem res_pOf {w : Bool} {u : Nat} {h : List (List Nat)} (n : Nf w u h) : res (pOf w u h) = (u, h) := by
  unfold res
  rw [(parts_pOf n).1, (parts_pOf n).2]; exact resL_rows n
theorem plain_pOf {w : Bool} {u : Nat} {h : List (List Nat)} (n : Nf w u h) : plainL (pOf w u h) = pOf w u h := by
  unfold plainL
  rw [res_pOf n, (parts_pOf n).2]
theorem plain_idem (p : List Nat) : plainL (plainL p) = plainL p := plain_pOf (nf_res p)
theorem wh_plain (p : List Nat) : wh (plainL p) = wh p := (parts_pOf (nf_res p)).2
theorem parts_plain (p : List Nat) : parts (plainL p) = rows (res p).1 (res p).2 := (parts_pOf (nf_res p)).1
theorem res_plain (p : List Nat) : res (plainL p) = res p := res_pOf (nf_res p)
/-! ### where a path leads -/
def ledF (s : List (List Nat)) (x : List Nat) : List (List Nat) := if x = dd then s.dropLast else s ++ [x]
def led (s : List (List Nat)) (p : List Nat) : List (List Nat) := (parts p).foldl ledF (if wh p then [] else s)
theorem take_drop1 {α : Type} (s : List α) (u : Nat) : (s.take (s.length - u)).dropLast = s.take (s.length - (u + 1)) := by
  rw [List.dropLast_eq_take, List.take_take]
  congr 1
  rw [List.length_take]; omega
theorem led_fold (s : List (List Nat)) : ∀ (L : List (List Nat)) (u : Nat) (h : List (List Nat)), L.foldl ledF (s.take (s.length - u) ++ h) = s.take (s.length - (L.foldl (stepP false) (u, h)).1) ++ (L.foldl (stepP false) (u, h)).2
  | [], u, h => rfl
  | x :: L, u, h => by
    rw [List.foldl_cons, List.foldl_cons]
    by_cases e : x = dd
    · by_cases z : h = []
      · subst z
        have e1 : ledF (s.take (s.length - u) ++ []) x = s.take (s.length - (u + 1)) ++ [] := by
          unfold ledF; rw [if_pos e, List.append_nil, take_drop1, List.append_nil]
        have e2 : stepP false (u, []) x = (u + 1, []) := by unfold stepP; rw [if_pos e]; rfl
        rw [e1, e2, led_fold s L (u + 1) []]
      · have e1 : ledF (s.take (s.length - u) ++ h) x = s.take (s.length - u) ++ h.dropLast := by
          unfold ledF; rw [if_pos e, List.dropLast_append_of_ne_nil z]
        have e2 : stepP false (u, h) x = (u, h.dropLast) := by unfold stepP; rw [if_pos e, if_neg z]
        rw [e1, e2, led_fold s L u _]
    · have e1 : ledF (s.take (s.length - u) ++ h) x = s.take (s.length - u) ++ (h ++ [x]) := by
        unfold ledF; rw [if_neg e, List.append_assoc]
      have e2 : stepP false (u, h) x = (u, h ++ [x]) := by unfold stepP; rw [if_neg e]
      rw [e1, e2, led_fold s L u _]
theorem fold_snd (w : Bool) : ∀ (L : List (List Nat)) (u v : Nat) (h : List (List Nat)), (L.foldl (stepP w) (u, h)).2 = (L.foldl (stepP false) (v, h)).2
  | [], _, _, _ => rfl
  | x :: L, u, v, h => by
    rw [List.foldl_cons, List.foldl_cons]
    by_cases e : x = dd
    · by_cases z : h = []
      · subst z
        have e1 : stepP w (u, []) x = (if w then u else u + 1, []) := by unfold stepP; rw [if_pos e]; rfl
        have e2 : stepP false (v, []) x = (v + 1, []) := by unfold stepP; rw [if_pos e]; rfl
        rw [e1, e2]; exact fold_snd w L _ _ _
      · have e1 : ∀ (w : Bool) (u : Nat), stepP w (u, h) x = (u, h.dropLast) := fun w u => by unfold stepP; rw [if_pos e, if_neg z]
        rw [e1, e1]; exact fold_snd w L _ _ _
    · have e1 : ∀ (w : Bool) (u : Nat), stepP w (u, h) x = (u, h ++ [x]) := fun w u => by unfold stepP; rw [if_neg e]
      rw [e1, e1]; exact fold_snd w L _ _ _
theorem led_eq (s : List (List Nat)) (p : List Nat) : led s p = (if wh p then [] else s.take (s.length - (res p).1)) ++ (res p).2 := by
  unfold led res resL
  cases w : wh p with
  | true =>
    have := led_fold [] (parts p) 0 []
    simp only [List.take_nil, List.nil_append] at this
    simp only [if_true]
    rw [this, fold_snd true (parts p) 0 0 []]; rfl
  | false =>
    have := led_fold s (parts p) 0 []
    simp only [Nat.sub_zero, List.take_length, List.append_nil] at this
    simp only [Bool.false_eq_true, if_false]
    exact this
theorem led_plain (s : List (List Nat)) (p : List Nat) : led s (plainL p) = led s p := by
  rw [led_eq, led_eq, wh_plain, res_plain]
/-! ### joined -/
def joinP (p q : List Nat) : List Nat := if wh q then q else p ++ 47 :: q
theorem wh_app {p : List Nat} (q : List Nat) (h : p ≠ []) : wh (p ++ q) = wh p := by
  cases p with
  | nil => exact absurd rfl h
  | cons c r => simp [wh]
theorem parts_app (a b : List Nat) : parts (a ++ 47 :: b) = parts a ++ parts b := by
  unfold parts; rw [sp_app, List.filter_append]
theorem led_join (s : List (List Nat)) {p q : List Nat} (h : p ≠ []) : led s (joinP p q) = led (led s p) q := by
  unfold joinP
  cases w : wh q with
  | true =>
    simp only [if_true]
    rw [led_eq, led_eq, w]; rfl
  | false =>
    simp only [Bool.false_eq_true, if_false]
    unfold led
    rw [wh_app _ h, parts_app, List.foldl_append, w]; rfl
end K1

set_option Elab.async false
set_option linter.all false
set_option maxRecDepth 100000
namespace K1
open PySem L2 Ev
/-! ### told from another -/
def cp : List (List Nat) → List (List Nat) → Nat
  | x :: l, y :: m => if x = y then cp l m + 1 else 0
  | _, _ => 0
theorem cp_le : ∀ l m : List (List Nat), cp l m ≤ l.length ∧ cp l m ≤ m.length
  | [], m => by simp [cp]
  | x :: l, [] => by simp [cp]
  | x :: l, y :: m => by
    have := cp_le l m
    unfold cp
    split <;> simp <;> omega
theorem cp_take : ∀ l m : List (List Nat), l.take (cp l m) = m.take (cp l m)
  | [], m => by simp [cp]
  | x :: l, [] => by simp [cp]
  | x :: l, y :: m => by
    unfold cp
    split
    · rename_i e
      rw [List.take_succ_cons, List.take_succ_cons, cp_take l m, e]
    · simp
theorem cp_in : ∀ (l m : List (List Nat)) (k : Nat), k < cp l m → l[k]? = m[k]? ∧ k < l.length ∧ k < m.length
  | [], m, k, h => by simp [cp] at h
  | x :: l, [], k, h => by simp [cp] at h
  | x :: l, y :: m, k, h => by
    unfold cp at h
    split at h
    · rename_i e
      cases k with
      | zero => simp [e]
      | succ k =>
        have := cp_in l m k (by omega)
        simpa using this
    · omega
theorem cp_end : ∀ l m : List (List Nat), cp l m < l.length → cp l m < m.length → l[cp l m]? ≠ m[cp l m]?
  | [], m, h, _ => by simp at h
  | x :: l, [], _, h => by simp at h
  | x :: l, y :: m, h1, h2 => by
    unfold cp at h1 h2 ⊢
    split at h1
    · rename_i e
      rw [if_pos e] at h2 ⊢
      have := cp_end l m (by simpa using h1) (by simpa using h2)
      simpa using this
    · rename_i e
      rw [if_neg e]
      simpa using e
def upsT (p q : List Nat) : Nat := (res q).2.length - cp (res p).2 (res q).2
def restT (p q : List Nat) : List (List Nat) := (res p).2.drop (cp (res p).2 (res q).2)
def toldL (p q : List Nat) : List Nat := pOf false (upsT p q) (restT p q)
def goodT (p q : List Nat) : Bool := decide (wh p = wh q ∧ (res p).1 = 0 ∧ (res q).1 = 0)
theorem nf_told (p q : List Nat) : Nf false (upsT p q) (restT p q) := ⟨(fun h => by cases h), fun x hx => (nf_res p).hn x (List.mem_of_mem_drop hx)⟩
theorem told_plain (p q : List Nat) : plainL (toldL p q) = toldL p q := plain_pOf (nf_told p q)
theorem fold_ups (w : Bool) : ∀ (k u : Nat) (h : List (List Nat)), k ≤ h.length → (List.replicate k dd).foldl (stepP w) (u, h) = (u, h.take (h.length - k))
  | 0, u, h, _ => by simp
  | k + 1, u, h, hk => by
    rw [List.replicate_succ, List.foldl_cons]
    have z : h ≠ [] := fun z => by subst z; simp at hk
    have e : stepP w (u, h) dd = (u, h.dropLast) := by unfold stepP; rw [if_pos rfl, if_neg z]
    rw [e, fold_ups w k u h.dropLast (by rw [List.length_dropLast]; omega), List.length_dropLast, List.dropLast_eq_take, List.take_take]
    congr 2; omega
def backT (p q : List Nat) : List Nat := if plainL q ≠ [47] then plainL q ++ 47 :: toldL p q else 47 :: toldL p q
theorem plain_ne (p : List Nat) : plainL p ≠ [] := by
  unfold plainL pOf
  split
  · simp
  · split
    · simp
    · rename_i h
      intro z
      have n := rows_mem (nf_res p)
      cases q : rows (res p).1 (res p).2 with
      | nil => exact h q
      | cons x t =>
        rw [q] at n z
        have := (nm_iff.mp (n x List.mem_cons_self).1).1
        cases t with
        | nil => simp [jn, TL.joinL] at z; exact this z
        | cons y t => simp [jn, TL.joinL] at z
theorem told_back {p q : List Nat} (g : goodT p q = true) : plainL (backT p q) = plainL p := by
  obtain ⟨g1, g2, g3⟩ := of_decide_eq_true g
  have np := nf_res p
  have nq := nf_res q
  have hw : wh (backT p q) = wh q := by
    unfold backT
    split
    · rw [wh_app _ (plain_ne q), wh_plain]
    · rename_i h
      have h : plainL q = [47] := Classical.not_not.mp h
      have e := wh_plain q
      rw [h] at e
      rw [← e]
      simp [wh]
  have hp : parts (backT p q) = (res q).2 ++ rows (upsT p q) (restT p q) := by
    have e1 : parts (plainL q) = (res q).2 := by rw [parts_plain, g3]; rfl
    have e2 : parts (toldL p q) = rows (upsT p q) (restT p q) := (parts_pOf (nf_told p q)).1
    unfold backT
    split
    · rw [parts_app, e1, e2]
    · rename_i h
      have h : plainL q = [47] := Classical.not_not.mp h
      show parts ([] ++ 47 :: toldL p q) = _
      rw [parts_app, e2]
      rw [h] at e1
      have e3 : parts [47] = [] := by decide
      rw [← e1, e3]; rfl
  have hr : res (backT p q) = (0, (res p).2) := by
    have e0 : res (backT p q) = (parts (backT p q)).foldl (stepP (wh (backT p q))) (0, []) := rfl
    rw [e0, hw, hp, List.foldl_append]
    have e1 : ((res q).2).foldl (stepP (wh q)) (0, []) = (0, (res q).2) := fold_push _ _ [] 0 fun x hx => (nq.hn x hx).2.1
    rw [e1]
    unfold rows
    rw [List.foldl_append, fold_ups (wh q) (upsT p q) 0 (res q).2 (Nat.sub_le _ _)]
    have e2 : (res q).2.length - upsT p q = cp (res p).2 (res q).2 := by
      have := (cp_le (res p).2 (res q).2).2
      unfold upsT; omega
    rw [e2, fold_push (wh q) (restT p q) _ 0 fun x hx => (np.hn x (List.mem_of_mem_drop hx)).2.1]
    unfold restT
    rw [← cp_take, List.take_append_drop]
  unfold plainL
  rw [hr, hw, ← g1, g2]
theorem dd_sp (p : List Nat) : dd ∈ sp (plainL p) ↔ (res p).1 ≠ 0 := by
  have e : dd ∈ sp (plainL p) ↔ dd ∈ parts (plainL p) := by
    unfold parts
    rw [List.mem_filter]
    exact ⟨fun h => ⟨h, by decide⟩, fun h => h.1⟩
  rw [e, parts_plain]
  unfold rows
  rw [List.mem_append, List.mem_replicate]
  constructor
  · rintro (h | h)
    · exact h.1
    · exact absurd rfl ((nf_res p).hn dd h).2.1
  · exact fun h => .inl ⟨h, rfl⟩
theorem dd_parts (p : List Nat) : dd ∈ parts (plainL p) ↔ (res p).1 ≠ 0 := by
  rw [← dd_sp]
  unfold parts
  rw [List.mem_filter]
  exact ⟨fun h => h.1, fun h => ⟨h, by decide⟩⟩
/-! ### signs -/
theorem jn_chars : ∀ {L : List (List Nat)} {c : Nat}, c ∈ jn L → c = 47 ∨ ∃ x ∈ L, c ∈ x
  | [], c, h => by simp [jn, TL.joinL] at h
  | [x], c, h => .inr ⟨x, List.mem_cons_self, h⟩
  | x :: y :: r, c, h => by
    have h : c ∈ x ++ 47 :: jn (y :: r) := h
    rcases List.mem_append.mp h with h | h
    · exact .inr ⟨x, List.mem_cons_self, h⟩
    · rcases List.mem_cons.mp h with h | h
      · exact .inl h
      · rcases jn_chars h with h | ⟨z, hz, h⟩
        · exact .inl h
        · exact .inr ⟨z, List.mem_cons_of_mem _ hz, h⟩
theorem foldP_mem {w : Bool} : ∀ (L : List (List Nat)) (s : Nat × List (List Nat)) (x : List Nat), x ∈ (L.foldl (stepP w) s).2 → x ∈ s.2 ∨ x ∈ L
  | [], s, x, h => .inl h
  | y :: L, s, x, h => by
    rw [List.foldl_cons] at h
    rcases foldP_mem L _ x h with h | h
    · unfold stepP at h
      split at h
      · split at h
        · simp at h
        · exact .inl (List.dropLast_subset _ h)
      · rcases List.mem_append.mp h with h | h
        · exact .inl h
        · exact .inr (by rw [List.mem_singleton.mp h]; exact List.mem_cons_self)
    · exact .inr (List.mem_cons_of_mem _ h)
theorem res_chars {p x : List Nat} {c : Nat} (h : x ∈ (res p).2) (hc : c ∈ x) : c ∈ p := by
  rcases foldP_mem _ _ _ h with h | h
  · simp at h
  · exact (parts_mem h).2.2 c hc
theorem pOf_chars {w : Bool} {u : Nat} {h : List (List Nat)} {c : Nat} (hc : c ∈ pOf w u h) : c = 47 ∨ c = 46 ∨ ∃ x ∈ h, c ∈ x := by
  have key : c ∈ jn (rows u h) → c = 47 ∨ c = 46 ∨ ∃ x ∈ h, c ∈ x := fun hc => by
    rcases jn_chars hc with z | ⟨x, hx, z⟩
    · exact .inl z
    · rcases List.mem_append.mp hx with hx | hx
      · rw [(List.mem_replicate.mp hx).2] at z
        simp at z
        exact .inr (.inl z)
      · exact .inr (.inr ⟨x, hx, z⟩)
  unfold pOf at hc
  split at hc
  · rcases List.mem_cons.mp hc with z | z
    · exact .inl z
    · exact key z
  · split at hc
    · exact .inr (.inl (List.mem_singleton.mp hc))
    · exact key hc
theorem plain_chars {p : List Nat} {c : Nat} (hc : c ∈ plainL p) : c = 47 ∨ c = 46 ∨ c ∈ p := by
  rcases pOf_chars hc with h | h | ⟨x, hx, h⟩
  · exact .inl h
  · exact .inr (.inl h)
  · exact .inr (.inr (res_chars hx h))
theorem told_chars {p q : List Nat} {c : Nat} (hc : c ∈ toldL p q) : c = 47 ∨ c = 46 ∨ c ∈ p := by
  rcases pOf_chars hc with h | h | ⟨x, hx, h⟩
  · exact .inl h
  · exact .inr (.inl h)
  · exact .inr (.inr (res_chars (List.mem_of_mem_drop hx) h))
/-! ### sizes -/
theorem jn_len : ∀ (L : List (List Nat)), (jn L).length + 1 = (L.map (·.length + 1)).sum ∨ L = []
  | [] => .inr rfl
  | [x] => .inl (by simp [jn, TL.joinL])
  | x :: y :: r => by
    rcases jn_len (y :: r) with h | h
    · left
      show (x ++ 47 :: jn (y :: r)).length + 1 = _
      rw [List.length_append, List.length_cons, List.map_cons, List.sum_cons, ← h]; omega
    · cases h
theorem sp_len : ∀ (l : List Nat), ((sp l).map (·.length + 1)).sum = l.length + 1
  | [] => by simp [sp]
  | c :: r => by
    have ih := sp_len r
    by_cases h : c = 47
    · subst h
      rw [sp_hit, List.map_cons, List.sum_cons, ih]; simp; omega
    · rw [sp_miss h]
      cases q : sp r with
      | nil => exact absurd q (sp_ne r)
      | cons x t =>
        rw [q] at ih
        simp only [List.map_cons, List.sum_cons, List.length_cons] at ih ⊢
        omega
theorem filter_sum (f : List Nat → Nat) (p : List Nat → Bool) : ∀ L : List (List Nat), ((L.filter p).map f).sum ≤ (L.map f).sum
  | [] => by simp
  | x :: L => by
    have := filter_sum f p L
    rw [List.filter_cons]
    split <;> simp <;> omega
theorem parts_len (l : List Nat) : ((parts l).map (·.length + 1)).sum ≤ l.length + 1 := by
  rw [← sp_len]; exact filter_sum _ _ _
def szS (s : Nat × List (List Nat)) : Nat := 3 * s.1 + (s.2.map (·.length + 1)).sum
theorem sum_dropLast : ∀ (h : List (List Nat)), (h.dropLast.map (·.length + 1)).sum ≤ (h.map (·.length + 1)).sum
  | [] => by simp
  | [x] => by simp
  | x :: y :: r => by
    have := sum_dropLast (y :: r)
    simp only [List.dropLast_cons_cons, List.map_cons, List.sum_cons] at this ⊢
    omega
theorem foldP_sz {w : Bool} : ∀ (L : List (List Nat)) (s : Nat × List (List Nat)), szS (L.foldl (stepP w) s) ≤ szS s + (L.map (·.length + 1)).sum
  | [], s => by simp
  | x :: L, s => by
    rw [List.foldl_cons]
    have ih := foldP_sz (w := w) L (stepP w s x)
    have st : szS (stepP w s x) ≤ szS s + (x.length + 1) := by
      unfold stepP
      split
      · rename_i e
        subst e
        split
        · rename_i z
          have : szS s = 3 * s.1 := by unfold szS; rw [z]; simp
          rw [this]
          unfold szS
          cases w <;> simp <;> omega
        · unfold szS
          have := sum_dropLast s.2
          simp only; omega
      · unfold szS
        simp; omega
    simp only [List.map_cons, List.sum_cons]
    omega
theorem res_sz (p : List Nat) : szS (res p) ≤ p.length + 1 := by
  have := foldP_sz (w := wh p) (parts p) (0, [])
  have h2 := parts_len p
  have e : szS ((0 : Nat), ([] : List (List Nat))) = 0 := rfl
  unfold res resL
  rw [e] at this
  omega
theorem rows_sum (u : Nat) (h : List (List Nat)) : ((rows u h).map (·.length + 1)).sum = szS (u, h) := by
  unfold rows szS
  rw [List.map_append, List.sum_append, List.map_replicate]
  simp; omega
theorem pOf_len {w : Bool} {u : Nat} {h : List (List Nat)} : (pOf w u h).length ≤ szS (u, h) + 1 := by
  have e := rows_sum u h
  unfold pOf
  rcases jn_len (rows u h) with z | z
  · split
    · rw [List.length_cons]; omega
    · split
      · simp
      · omega
  · rw [z]
    split <;> simp [jn, TL.joinL]
theorem plain_len (p : List Nat) (h : p ≠ []) : 1 ≤ (plainL p).length ∧ (plainL p).length ≤ p.length + 1 := by
  refine ⟨List.length_pos_iff.mpr (plain_ne p), ?_⟩
  have h2 := res_sz p
  have e := rows_sum (res p).1 (res p).2
  unfold plainL pOf
  rcases jn_len (rows (res p).1 (res p).2) with z | z
  · split
    · rw [List.length_cons]
      have : szS ((res p).1, (res p).2) = szS (res p) := rfl
      omega
    · split
      · have := List.length_pos_iff.mpr h
        simp
      · have : szS ((res p).1, (res p).2) = szS (res p) := rfl
        omega
  · rw [z]
    have := List.length_pos_iff.mpr h
    split <;> simp [jn, TL.joinL] 
theorem parts_count (l : List Nat) : 2 * (parts l).length ≤ l.length + 1 := by
  have h := parts_len l
  have : 2 * (parts l).length ≤ ((parts l).map (·.length + 1)).sum := by
    have m : ∀ x ∈ parts l, 1 ≤ x.length := fun x hx => List.length_pos_iff.mpr (nm_iff.mp (parts_mem hx).1).1
    revert m
    generalize parts l = L
    intro m
    induction L with
    | nil => simp
    | cons x L ih =>
      have h1 := m x List.mem_cons_self
      have h2 := ih fun y hy => m y (List.mem_cons_of_mem _ hy)
      simp only [List.length_cons, List.map_cons, List.sum_cons]; omega
  omega
end K1

set_option Elab.async false
set_option linter.all false
set_option maxRecDepth 100000
set_option maxHeartbeats 1000000
namespace K1
open PySem L2 Ev
theorem small {n : Nat} (h : n ≤ 100000) : n ≤ sizeLine := by rw [PySem.sizeLine_eq]; omega
/-! ### data -/
abbrev tx (l : List Nat) : Dt := .str (sOf l)
def DL (L : List (List Nat)) : List Dt := L.map fun x => .str (sOf x)
@[simp] theorem dl_nil : DL [] = [] := rfl
@[simp] theorem dl_cons (x : List Nat) (L : List (List Nat)) : DL (x :: L) = tx x :: DL L := rfl
@[simp] theorem dl_app (L M : List (List Nat)) : DL (L ++ M) = DL L ++ DL M := List.map_append
@[simp] theorem dl_len (L : List (List Nat)) : (DL L).length = L.length := List.length_map _
@[simp] theorem dl_sing (x : List Nat) : DL [x] = [tx x] := rfl
theorem dl_rep (n : Nat) (x : List Nat) : DL (List.replicate n x) = List.replicate n (tx x) := List.map_replicate
@[simp] theorem eqv_tx (a b : List Nat) : PyData.eqv (tx a) (tx b) = decide (a = b) := by
  show (sOf a == sOf b) = decide (a = b)
  by_cases h : a = b
  · subst h; simp
  · rw [decide_eq_false h]
    exact beq_eq_false_iff_ne.mpr fun z => h (sOf_inj.mp z)
theorem eqv_dl : ∀ L M : List (List Nat), PyData.eqvAll (DL L) (DL M) = decide (L = M)
  | [], [] => by simp [PyData.eqvAll]
  | [], y :: M => by simp [PyData.eqvAll]
  | x :: L, [] => by simp [PyData.eqvAll]
  | x :: L, y :: M => by
    rw [dl_cons, dl_cons, PyData.eqvAll, eqv_tx, eqv_dl L M]
    by_cases h : x = y <;> by_cases g : L = M <;> simp [h, g]
@[simp] theorem eqv_list (L M : List (List Nat)) : PyData.eqv (.list (DL L)) (.list (DL M)) = decide (L = M) := by rw [PyData.eqv]; exact eqv_dl L M
@[simp] theorem eqv_tup (L M : List (List Nat)) : PyData.eqv (.tuple (DL L)) (.tuple (DL M)) = decide (L = M) := by rw [PyData.eqv]; exact eqv_dl L M
@[simp] theorem eqv_list0 (L : List (List Nat)) : PyData.eqv (.list (DL L)) (.list []) = decide (L = []) := eqv_list L []
@[simp] theorem eqv_00 : PyData.eqv (.list []) (.list []) = true := by rfl
@[simp] theorem eqv_c0 (x : Dt) (l : List Dt) : PyData.eqv (.list (x :: l)) (.list []) = false := by rfl
@[simp] theorem eqv_int (i j : Int) : PyData.eqv (.int i) (.int j) = decide (i = j) := by
  rw [PyData.eqv]
  by_cases h : i = j <;> simp [h]
@[simp] theorem eqv_bl (i j : Bool) : PyData.eqv (.bool i) (.bool j) = decide (i = j) := by
  rw [PyData.eqv]
  by_cases h : i = j <;> simp [h]
/-- signs that a text may hold -/
def Oc (l : List Nat) : Prop := ∀ c ∈ l, c < 1114112
def Ocs (L : List (List Nat)) : Prop := ∀ x ∈ L, Oc x
theorem ok_oc {l : List Nat} (h : Oc l) : PyData.strOk (sOf l) = true := by
  unfold PyData.strOk
  simp only [Array.all_eq_true_iff_forall_mem, decide_eq_true_eq]
  intro c hc
  exact h c (by simpa [sOf] using hc)
theorem sh_tx {l : List Nat} (h : Oc l) : SeqAt.shaped (tx l) = true := by
  unfold SeqAt.shaped
  rw [PyData.canLay0, ok_oc h, PyData.depth]; rfl
@[simp] theorem sh_int (i : Int) : SeqAt.shaped (.int i) = true := by rfl
@[simp] theorem sh_bl (i : Bool) : SeqAt.shaped (.bool i) = true := by rfl
theorem lay_dl : ∀ L, Ocs L → PyData.canLayAll0 (DL L) = true
  | [], _ => by rfl
  | x :: L, h => by
    rw [dl_cons, PyData.canLayAll0, lay_dl L fun y hy => h y (List.mem_cons_of_mem _ hy), PyData.canLay0, ok_oc (h x List.mem_cons_self)]; rfl
theorem dep_dl : ∀ L, PyData.depthAll (DL L) ≤ 1
  | [] => by simp [PyData.depthAll]
  | x :: L => by
    have := dep_dl L
    rw [dl_cons, PyData.depthAll]
    have : PyData.depth (tx x) ≤ 1 := by simp [PyData.depth]
    omega
theorem sh_list {L : List (List Nat)} (h : Ocs L) : SeqAt.shaped (.list (DL L)) = true := by
  have h1 := lay_dl L h
  have h2 := dep_dl L
  unfold SeqAt.shaped
  rw [PyData.canLay0, PyData.depth, h1]
  simp
  omega
theorem sh_tup {L : List (List Nat)} (h : Ocs L) : SeqAt.shaped (.tuple (DL L)) = true := by
  have h1 := lay_dl L h
  have h2 := dep_dl L
  unfold SeqAt.shaped
  rw [PyData.canLay0, PyData.depth, h1]
  simp
  omega
@[simp] theorem sh_list0 : SeqAt.shaped (.list []) = true := sh_list (L := []) fun _ h => by cases h
@[simp] theorem fl_tx (s : Str) : flatD (.str s) = true := rfl
theorem fl_dl (L : List (List Nat)) : (DL L).all flatD = true := by
  unfold DL
  rw [List.all_map]
  exact List.all_eq_true.mpr fun x _ => rfl
theorem has_dl (x : List Nat) (L : List (List Nat)) : hasD (tx x) (DL L) = decide (x ∈ L) := by
  unfold hasD DL
  rw [List.any_map]
  induction L with
  | nil => simp
  | cons y L ih =>
    rw [List.any_cons, ih]
    show (PyData.eqv (tx y) (tx x) || _) = _
    rw [eqv_tx]
    by_cases h : y = x
    · subst h; simp
    · have h' : ¬ x = y := fun z => h z.symm
      by_cases g : x ∈ L <;> simp [h, h', g]
/-- text in a list, a tuple of texts -/
theorem in_list (neg : Bool) (x : List Nat) (L : List (List Nat)) (e : Ev.Env) : inG neg (.d (tx x)) (.d (.list (DL L))) e = some (if neg then !decide (x ∈ L) else decide (x ∈ L)) := by
  simp [inG, lof, fl_dl, has_dl]
theorem in_tup (neg : Bool) (x : List Nat) (L : List (List Nat)) (e : Ev.Env) : inG neg (.d (tx x)) (.d (.tuple (DL L))) e = some (if neg then !decide (x ∈ L) else decide (x ∈ L)) := by
  simp [inG, lof, tof, fl_dl, has_dl]
/-! ### cut and joined -/
theorem split_sp (l : List Nat) : strsD (Txt.split (sOf l) (sOf [47])) = DL (sp l) := by
  have h := TL.split_spl (sOf l) (sOf [47]) (by simp) (TL.kind_ok (by simp [sOf]))
  have h2 : (Txt.split (sOf l) (sOf [47])).map tl = sp l := by
    refine h.trans ?_
    have e := spl_sp l []
    have n := sp_ne l
    show TL.spl [47] 0 [] l = sp l
    rw [e]
    cases q : sp l with
    | nil => exact absurd q n
    | cons a b => rfl
  have h3 : Txt.split (sOf l) (sOf [47]) = (sp l).map sOf := by
    rw [← h2, List.map_map]
    have : (sOf ∘ tl) = id := funext fun s => sOf_tl s
    rw [this, List.map_id]
  unfold strsD
  rw [h3, List.map_map]; rfl
theorem e_split {l : List Nat} (h : l.length ≤ 100000) (e : Ev.Env) : splitG (sOf l) (txt [47]) e = .ok (.d (.list (DL (sp l)))) e := by
  have : l.length + 2 ≤ sizeLine := by rw [PySem.sizeLine_eq]; omega
  simp [splitG, split_sp, this]
theorem strs_dl : ∀ L : List (List Nat), strsOf (DL L) = some (L.map sOf)
  | [] => rfl
  | x :: L => by
    rw [dl_cons]
    simp [strsOf, strs_dl L]
theorem join_jn (L : List (List Nat)) : Txt.join (sOf [47]) (L.map sOf) = sOf (jn L) := by
  rw [TL.join_eq]
  have h := TL.tl_join (sOf [47]) (L.map sOf)
  rw [List.map_map] at h
  have : (TL.tl ∘ sOf) = (id : List Nat → List Nat) := funext fun s => rfl
  rw [this, List.map_id] at h
  rw [← sOf_tl (Str.join (sOf [47]) (L.map sOf))]
  exact congrArg sOf h
def szL (L : List (List Nat)) : Nat := (L.map (·.length + 1)).sum
theorem szL_eq : ∀ (L : List (List Nat)), ((L.map sOf).map (·.length)).sum + L.length = szL L
  | [] => rfl
  | x :: L => by
    have := szL_eq L
    simp only [szL, List.map_cons, List.sum_cons, len_sOf, List.length_cons] at this ⊢
    omega
theorem e_joinL {L : List (List Nat)} (h : szL L ≤ 100000) (e : Ev.Env) : joinG (sOf [47]) (.d (.list (DL L))) e = .ok (txt (jn L)) e := by
  have h2 := szL_eq L
  have : ((L.map sOf).map (·.length)).sum + (L.map sOf).length * (sOf [47]).length ≤ 16777216 := by
    rw [List.length_map, len_sOf]; simp only [List.length_cons, List.length_nil]; omega
  simp only [joinG, seqOf, lof, strs_dl, this, if_true, join_jn]
theorem e_joinT {L : List (List Nat)} (h : szL L ≤ 100000) (e : Ev.Env) : joinG (sOf [47]) (.d (.tuple (DL L))) e = .ok (txt (jn L)) e := by
  have h2 := szL_eq L
  have : ((L.map sOf).map (·.length)).sum + (L.map sOf).length * (sOf [47]).length ≤ 16777216 := by
    rw [List.length_map, len_sOf]; simp only [List.length_cons, List.length_nil]; omega
  simp only [joinG, seqOf, lof, tof, strs_dl, this, if_true, join_jn]
theorem cut_to {α : Type} (l : List α) (k : Nat) : cutA l none (some (k : Int)) = l.take k := by
  unfold cutA
  rw [HT.sIx_nat, HT.sIx_none, List.drop_zero, Nat.sub_zero]
  by_cases h : k ≤ l.length
  · rw [Nat.min_eq_left h]
  · rw [Nat.min_eq_right (by omega), List.take_length, List.take_of_length_le (by omega)]
theorem cut_from {α : Type} (l : List α) (k : Nat) : cutA l (some (k : Int)) none = l.drop k := by
  unfold cutA
  rw [HT.sIx_nat, HT.sIx_none]
  by_cases h : k ≤ l.length
  · rw [Nat.min_eq_left h]
    exact List.take_of_length_le (by rw [List.length_drop]; omega)
  · rw [Nat.min_eq_right (by omega), List.drop_length, List.drop_of_length_le (by omega), List.take_nil]
@[simp] theorem cut_1 {α : Type} (l : List α) : cutA l none (some 1) = l.take 1 := cut_to l 1
@[simp] theorem cut_last {α : Type} (l : List α) : cutA l none (some (-1)) = l.dropLast := by
  unfold cutA
  have e : HT.sIx l.length l.length (some (-1)) = l.length - 1 := by
    show (if (-1 : Int) < 0 then ((-1 : Int) + (l.length : Int)).toNat else min (-1 : Int).toNat l.length) = _
    rw [if_pos (by decide)]; omega
  rw [e, HT.sIx_none, List.drop_zero, Nat.sub_zero, List.dropLast_eq_take]
theorem dl_take (L : List (List Nat)) (k : Nat) : (DL L).take k = DL (L.take k) := (List.map_take).symm
theorem dl_drop (L : List (List Nat)) (k : Nat) : (DL L).drop k = DL (L.drop k) := (List.map_drop).symm
theorem dl_dropLast (L : List (List Nat)) : (DL L).dropLast = DL L.dropLast := by unfold DL; rw [List.map_dropLast]
end K1

set_option Elab.async false
set_option linter.all false
set_option maxRecDepth 100000
set_option maxHeartbeats 1000000
namespace K1
open PySem L2 Ev
structure Pw (l : List Nat) : Prop where
  ne : 1 ≤ l.length
  le : l.length ≤ 120
  oc : Oc l
theorem Pw.nn {l : List Nat} (h : Pw l) : l ≠ [] := List.length_pos_iff.mp h.ne
theorem Pw.sz {l : List Nat} (h : Pw l) : l.length ≤ sizeLine := small (by have := h.le; omega)
theorem oc_take {l : List Nat} (h : Oc l) (k : Nat) : Oc (l.take k) := fun c hc => h c (List.mem_of_mem_take hc)
theorem oc_drop {l : List Nat} (h : Oc l) (k : Nat) : Oc (l.drop k) := fun c hc => h c (List.mem_of_mem_drop hc)
theorem oc_app {l m : List Nat} (h : Oc l) (g : Oc m) : Oc (l ++ m) := fun c hc => (List.mem_append.mp hc).elim (h c) (g c)
theorem oc_47 : Oc [47] := by unfold Oc; simp
theorem oc_46 : Oc [46] := by unfold Oc; simp
theorem oc_0 : Oc [] := by unfold Oc; simp
theorem oc_dd : Oc dd := by unfold Oc dd; simp
theorem oc_sp {l : List Nat} (h : Oc l) : Ocs (sp l) := fun x hx c hc => h c ((mem_sp hx).2 c hc)
theorem oc_parts {l : List Nat} (h : Oc l) : Ocs (parts l) := fun x hx c hc => h c ((parts_mem hx).2.2 c hc)
theorem oc_plain {l : List Nat} (h : Oc l) : Oc (plainL l) := fun c hc => by
  rcases plain_chars hc with rfl | rfl | z
  · decide
  · decide
  · exact h c z
theorem s_check {l : List Nat} (h : Pw l) (hs : List Ob) : m_check_path [txt l] hs = .ok (.d .none) ⟨[], hs⟩ := by
  have h1 := h.sz
  have h2 := h.ne
  have h3 := h.le
  have e1 : decide ((1 : Int) ≤ (l.length : Int)) = true := decide_eq_true (by omega)
  have e2 : decide ((l.length : Int) ≤ 120) = true := decide_eq_true (by omega)
  simp [m_check_path, f_check_path, mOf, inE, a_nilA, a_conA, a_b2, a_noP, a_slV, a_oT, a_oV, a_yesT, a_andT, a_orT, a_notT, a_ifV, a_orV, a_andV, a_notV, a_xS, a_rtS, a_ifS, a_asS, a_anS, a_skS, a_raS, a_frS, a_frz, a_m1, a_lmA, a_stS, a_onN, a_rtO, a_prS, a_ch3, a_lcN, a_tupGx, a_colGx, a_anyGx, bnd, bS, sqS, cst, vr, vrF, setR, caN, caM, splitA, okR, cmV, cmT, eqG, neG, dof, lof, tof, slG, inP, tupG, lstG, lstN, allD, dOf, lenG, ltOf, addG, subG, mulG, negG, intG, truT, truG, itG, appG, popG, rootOf, putR, agS, addI, tpG, conG, nilG, lsG, listG, tupleG, seqOf, h1, e1, e2, -decide_eq_true_eq]
theorem s_check0 {l : List Nat} (h1 : l.length ≤ sizeLine) (h : ¬ (1 ≤ l.length ∧ l.length ≤ 120)) (hs : List Ob) : m_check_path [txt l] hs = .err 1 ⟨[], hs⟩ := by
  by_cases h2 : 1 ≤ l.length
  · have e1 : decide ((1 : Int) ≤ (l.length : Int)) = true := decide_eq_true (by omega)
    have e2 : decide ((l.length : Int) ≤ 120) = false := decide_eq_false (by omega)
    simp [m_check_path, f_check_path, mOf, inE, a_nilA, a_conA, a_b2, a_noP, a_slV, a_oT, a_oV, a_yesT, a_andT, a_orT, a_notT, a_ifV, a_orV, a_andV, a_notV, a_xS, a_rtS, a_ifS, a_asS, a_anS, a_skS, a_raS, a_frS, a_frz, a_m1, a_lmA, a_stS, a_onN, a_rtO, a_prS, a_ch3, a_lcN, a_tupGx, a_colGx, a_anyGx, bnd, bS, sqS, cst, vr, vrF, setR, caN, caM, splitA, okR, cmV, cmT, eqG, neG, dof, lof, tof, slG, inP, tupG, lstG, lstN, allD, dOf, lenG, ltOf, addG, subG, mulG, negG, intG, truT, truG, itG, appG, popG, rootOf, putR, agS, addI, tpG, conG, nilG, lsG, listG, tupleG, seqOf, h1, e1, e2, -decide_eq_true_eq]
  · have e1 : decide ((1 : Int) ≤ (l.length : Int)) = false := decide_eq_false (by omega)
    simp [m_check_path, f_check_path, mOf, inE, a_nilA, a_conA, a_b2, a_noP, a_slV, a_oT, a_oV, a_yesT, a_andT, a_orT, a_notT, a_ifV, a_orV, a_andV, a_notV, a_xS, a_rtS, a_ifS, a_asS, a_anS, a_skS, a_raS, a_frS, a_frz, a_m1, a_lmA, a_stS, a_onN, a_rtO, a_prS, a_ch3, a_lcN, a_tupGx, a_colGx, a_anyGx, bnd, bS, sqS, cst, vr, vrF, setR, caN, caM, splitA, okR, cmV, cmT, eqG, neG, dof, lof, tof, slG, inP, tupG, lstG, lstN, allD, dOf, lenG, ltOf, addG, subG, mulG, negG, intG, truT, truG, itG, appG, popG, rootOf, putR, agS, addI, tpG, conG, nilG, lsG, listG, tupleG, seqOf, h1, e1, -decide_eq_true_eq]
theorem s_whole {l : List Nat} (h1 : l.length ≤ sizeLine) (h : Oc l) (hs : List Ob) : m_is_whole [txt l] hs = .ok (.d (.bool (wh l))) ⟨[], hs⟩ := by
  have h2 := sh_tx (oc_take h 1)
  have h3 := sh_tx oc_47
  simp [m_is_whole, f_is_whole, mOf, inE, a_nilA, a_conA, a_b2, a_noP, a_slV, a_oT, a_oV, a_yesT, a_andT, a_orT, a_notT, a_ifV, a_orV, a_andV, a_notV, a_xS, a_rtS, a_ifS, a_asS, a_anS, a_skS, a_raS, a_frS, a_frz, a_m1, a_lmA, a_stS, a_onN, a_rtO, a_prS, a_ch3, a_lcN, a_tupGx, a_colGx, a_anyGx, bnd, bS, sqS, cst, vr, vrF, setR, caN, caM, splitA, okR, cmV, cmT, eqG, neG, dof, lof, tof, slG, inP, tupG, lstG, lstN, allD, dOf, lenG, ltOf, addG, subG, mulG, negG, intG, truT, truG, itG, appG, popG, rootOf, putR, agS, addI, tpG, conG, nilG, lsG, listG, tupleG, seqOf, h1, h2, h3, wh]
theorem sum_ge : ∀ L : List (List Nat), L.length ≤ (L.map (·.length + 1)).sum
  | [] => by simp
  | x :: L => by
    have := sum_ge L
    simp only [List.map_cons, List.sum_cons, List.length_cons]; omega
theorem sp_cnt (l : List Nat) : (sp l).length ≤ l.length + 1 := by rw [← sp_len]; exact sum_ge _
/-- the names of a path, by a comprehension over its pieces -/
theorem lc_names {i : Nat} {e : Ev.Env} {tc : Ev.Env → Rs Bool} (l : List Nat) (hl : l.length ≤ 1000) (vs : List Nat) (E1 : List Nat → Ev.Env) (h1 : ∀ x, setR i (.d (tx x)) e = some (E1 x)) (h2 : ∀ x, x ∈ sp l → tc (E1 x) = .ok (nm x) (E1 x)) (h3 : ∀ x, vr i (E1 x) = .ok (.d (tx x)) (E1 x)) (h4 : ∀ x, wipE vs (E1 x) = e) :
    lcL vs (setR i) tc (vr i) ((sp l).map fun x => R.d (tx x)) [] e = .ok (DL (parts l)) e := by
  have h := lcL_gen (vs := vs) (t := setR i) (tc := tc) (fe := vr i) (fun x => R.d (tx x)) nm tx e (sp l) (fun x hx => by
    refine ⟨E1 x, h1 x, ?_⟩
    have e1 := h2 x hx
    cases q : nm x with
    | true => exact .inl ⟨rfl, E1 x, E1 x, by rw [e1, q], h3 x, h4 x⟩
    | false => exact .inr ⟨rfl, E1 x, by rw [e1, q], h4 x⟩) [] (by
      have := sp_cnt l
      simp; exact small (by omega))
  rw [h]; rfl
theorem it_dl (L : List (List Nat)) : (DL L).map R.d = L.map fun x => R.d (tx x) := by unfold DL; rw [List.map_map]; rfl
theorem s_parts {l : List Nat} (h : Pw l) (hs : List Ob) : m_parts_of [txt l] hs = .ok (.d (.tuple (DL (parts l)))) ⟨[], hs⟩ := by
  have h0 := s_check h []
  have h5 := fun e => e_split (l := l) (by have := h.le; omega) e
  have key := lc_names (i := 1) (e := ⟨[some (.fro (txt l)), none], hs⟩) (tc := b2 (vr 1) (bnd (conA (cst (txt [])) (conA (cst (txt [46])) nilA)) tupG) (cmT (inG true))) l (by have := h.le; omega) [1] (fun x => ⟨[some (.fro (txt l)), some (.fro (txt x))], hs⟩) (fun x => by simp [setR]) (fun x _ => by
      have e := in_tup true x [[], [46]] ⟨[some (.fro (txt l)), some (.fro (txt x))], hs⟩
      simp only [dl_cons, dl_nil] at e
      have z : (2 : Nat) ≤ sizeLine := by decide
      simp [mOf, inE, a_nilA, a_conA, a_b2, a_noP, a_slV, a_oT, a_oV, a_yesT, a_andT, a_orT, a_notT, a_ifV, a_orV, a_andV, a_notV, a_xS, a_rtS, a_ifS, a_asS, a_anS, a_skS, a_raS, a_frS, a_frz, a_m1, a_lmA, a_stS, a_onN, a_rtO, a_prS, a_ch3, a_lcN, a_tupGx, a_colGx, a_anyGx, bnd, bS, sqS, cst, vr, vrF, setR, caN, caM, splitA, okR, cmV, cmT, eqG, neG, dof, lof, tof, slG, inP, tupG, lstG, lstN, allD, dOf, lenG, ltOf, addG, subG, mulG, negG, intG, truT, truG, itG, appG, popG, rootOf, putR, agS, addI, tpG, conG, nilG, lsG, listG, tupleG, seqOf, e, z, nm]) (fun x => by simp [vr]) (fun x => by simp [wipE])
  have w1 : wipE [1] ⟨[some (.fro (txt l)), none], hs⟩ = ⟨[some (.fro (txt l)), none], hs⟩ := by simp [wipE]
  have w2 : ∀ e, reE [1] e ⟨[some (.fro (txt l)), none], hs⟩ = ⟨[some (.fro (txt l)), froOf e.sl[1]?], hs⟩ := fun e => by simp [reE]
  simp [m_parts_of, f_parts_of, mOf, inE, a_nilA, a_conA, a_b2, a_noP, a_slV, a_oT, a_oV, a_yesT, a_andT, a_orT, a_notT, a_ifV, a_orV, a_andV, a_notV, a_xS, a_rtS, a_ifS, a_asS, a_anS, a_skS, a_raS, a_frS, a_frz, a_m1, a_lmA, a_stS, a_onN, a_rtO, a_prS, a_ch3, a_lcN, a_tupGx, a_colGx, a_anyGx, bnd, bS, sqS, cst, vr, vrF, setR, caN, caM, splitA, okR, cmV, cmT, eqG, neG, dof, lof, tof, slG, inP, tupG, lstG, lstN, allD, dOf, lenG, ltOf, addG, subG, mulG, negG, intG, truT, truG, itG, appG, popG, rootOf, putR, agS, addI, tpG, conG, nilG, lsG, listG, tupleG, seqOf, h0, h5, it_dl, w1, w2, key]
theorem at_last (s : List (List Nat)) (y : List Nat) : atI (DL (s ++ [y])) (-1) = some (tx y) := by
  have e : (DL (s ++ [y])).length = s.length + 1 := by simp
  have z : ixN (DL (s ++ [y])).length (-1) = some s.length := by
    rw [e]
    unfold ixN
    rw [if_neg (by decide), if_pos (by omega)]
    congr 1; omega
  unfold atI
  rw [z]
  simp
theorem nil_or_snoc {α : Type} : ∀ l : List α, l = [] ∨ ∃ m x, l = m ++ [x]
  | [] => .inl rfl
  | a :: l => .inr (by
    rcases nil_or_snoc l with rfl | ⟨m, x, rfl⟩
    · exact ⟨[], a, rfl⟩
    · exact ⟨a :: m, x, rfl⟩)
theorem made_loop {l : List Nat} (h : Pw l) (hs : List Ob) (f : Ev.Env → Sr) (hf : f = (sqS (ifS (b2 (vr 2) (cst (txt [46, 46])) (cmT (neG))) (sqS (xS (lmA (vr 1) (conA (vr 2) nilA) appG))
  skS) (sqS (ifS ((andT (b2 (vr 1) (bnd nilA lstG) (cmT (neG))) (b2 (b2 (vr 1) (bnd (cst (.d (.int 1))) negG) ixG) (cst (txt [46, 46])) (cmT (neG))))) (sqS (xS (lmA (vr 1) nilA popG))
  skS) (sqS (ifS (notT (bnd (bnd (conA (vr 0) nilA) (caN 1 m_is_whole)) truT)) (sqS (xS (lmA (vr 1) (conA (cst (txt [46, 46])) nilA) appG))
  skS) skS)
  skS))
  skS))
  skS)) : ∃ o2, forL (setR 2) f ((parts l).map fun x => R.d (tx x)) ⟨[some (.fro (txt l)), some (.own (.lst [])), none, none], hs⟩ = .nx ⟨[some (.fro (txt l)), some (.own (.lst (DL (rows (res l).1 (res l).2)))), o2, none], hs⟩ := by
  have hw := s_whole h.sz h.oc []
  have hp := oc_parts h.oc
  obtain ⟨e', h1, n, _, _, o2, rfl⟩ := forL_genN (fun x => R.d (tx x)) (stepP (wh l)) (parts l) (t := setR 2) (f := f) (fun k s e => Nf (wh l) s.1 s.2 ∧ (rows s.1 s.2).length ≤ k ∧ Ocs (rows s.1 s.2) ∧ ∃ o2, e = ⟨[some (.fro (txt l)), some (.own (.lst (DL (rows s.1 s.2)))), o2, none], hs⟩) (fun k s e x hx ⟨n, hk, ho, o2, he⟩ => by
    subst he
    have hx' := List.mem_of_getElem? hx
    have hkl : k < (parts l).length := (List.getElem?_eq_some_iff.mp hx).1
    have hc := parts_count l
    have hl := h.le
    have hz : (DL (rows s.1 s.2)).length < sizeLine := by rw [dl_len, PySem.sizeLine_eq]; omega
    refine ⟨⟨[some (.fro (txt l)), some (.own (.lst (DL (rows s.1 s.2)))), some (.fro (txt x)), none], hs⟩, by simp [setR], ?_⟩
    have nx := nf_step n (parts_mem hx').1 (parts_mem hx').2.1
    have ox := hp x hx'
    by_cases hd : x = dd
    · subst hd
      obtain ⟨u, g⟩ := s
      rcases nil_or_snoc g with rfl | ⟨g', y, rfl⟩
      · cases u with
        | zero =>
          cases w : wh l with
          | true =>
            refine ⟨⟨[some (.fro (txt l)), some (.own (.lst [])), some (.fro (txt dd)), none], hs⟩, ?_, by rw [w] at nx; exact nx, by simp [stepP, rows], by simp [stepP, rows, Ocs], some (.fro (txt dd)), by simp [stepP, rows]⟩
            simp [hf, rows, mOf, inE, a_nilA, a_conA, a_b2, a_noP, a_slV, a_oT, a_oV, a_yesT, a_andT, a_orT, a_notT, a_ifV, a_orV, a_andV, a_notV, a_xS, a_rtS, a_ifS, a_asS, a_anS, a_skS, a_raS, a_frS, a_frz, a_m1, a_lmA, a_stS, a_onN, a_rtO, a_prS, a_ch3, a_lcN, a_tupGx, a_colGx, a_anyGx, bnd, bS, sqS, cst, vr, vrF, setR, caN, caM, splitA, okR, cmV, cmT, eqG, neG, dof, lof, tof, slG, inP, tupG, lstG, lstN, allD, dOf, lenG, ltOf, addG, subG, mulG, negG, intG, truT, truG, itG, appG, popG, rootOf, putR, agS, addI, tpG, conG, nilG, lsG, listG, tupleG, seqOf, hw, w, sh_tx oc_dd]
          | false =>
            refine ⟨⟨[some (.fro (txt l)), some (.own (.lst [tx dd])), some (.fro (txt dd)), none], hs⟩, ?_, by rw [w] at nx; exact nx, by simp [stepP, rows], by simpa [stepP, rows, Ocs] using oc_dd, some (.fro (txt dd)), by simp [stepP, rows]⟩
            have hz' : (0 : Nat) < sizeLine := by decide
            simp [hf, rows, mOf, inE, a_nilA, a_conA, a_b2, a_noP, a_slV, a_oT, a_oV, a_yesT, a_andT, a_orT, a_notT, a_ifV, a_orV, a_andV, a_notV, a_xS, a_rtS, a_ifS, a_asS, a_anS, a_skS, a_raS, a_frS, a_frz, a_m1, a_lmA, a_stS, a_onN, a_rtO, a_prS, a_ch3, a_lcN, a_tupGx, a_colGx, a_anyGx, bnd, bS, sqS, cst, vr, vrF, setR, caN, caM, splitA, okR, cmV, cmT, eqG, neG, dof, lof, tof, slG, inP, tupG, lstG, lstN, allD, dOf, lenG, ltOf, addG, subG, mulG, negG, intG, truT, truG, itG, appG, popG, rootOf, putR, agS, addI, tpG, conG, nilG, lsG, listG, tupleG, seqOf, hw, w, sh_tx oc_dd, hz']
        | succ u =>
          have w : wh l = false := by
            cases q : wh l with
            | false => rfl
            | true => exact absurd (n.u0 q) (by simp)
          have er : rows (u + 1) [] = rows u [] ++ [dd] := by simp [rows, List.replicate_succ']
          have e2 : rows (u + 1 + 1) [] = rows (u + 1) [] ++ [dd] := by simp [rows, List.replicate_succ']
          have ne : ¬ rows (u + 1) [] = [] := by rw [er]; simp
          have sl := sh_list ho
          have es : stepP (wh l) (u + 1, []) dd = (u + 2, []) := by simp [stepP, w]
          have la : atI (DL (rows (u + 1) [])) (-1) = some (tx dd) := by rw [er]; exact at_last _ _
          have eq0 : PyData.eqv (.list (DL (rows (u + 1) []))) (.list []) = false := by rw [eqv_list0, decide_eq_false ne]
          refine ⟨⟨[some (.fro (txt l)), some (.own (.lst (DL (rows (u + 1 + 1) [])))), some (.fro (txt dd)), none], hs⟩, ?_, nx, by rw [es]; simp [rows] at hk ⊢; omega, by rw [es]; exact fun z hz => by simp [rows] at hz; rw [hz]; exact oc_dd, some (.fro (txt dd)), by rw [es]⟩
          rw [e2]
          simp only [dl_len] at hz
          simp [hf, mOf, inE, a_nilA, a_conA, a_b2, a_noP, a_slV, a_oT, a_oV, a_yesT, a_andT, a_orT, a_notT, a_ifV, a_orV, a_andV, a_notV, a_xS, a_rtS, a_ifS, a_asS, a_anS, a_skS, a_raS, a_frS, a_frz, a_m1, a_lmA, a_stS, a_onN, a_rtO, a_prS, a_ch3, a_lcN, a_tupGx, a_colGx, a_anyGx, bnd, bS, sqS, cst, vr, vrF, setR, caN, caM, splitA, okR, cmV, cmT, eqG, neG, dof, lof, tof, slG, inP, tupG, lstG, lstN, allD, dOf, lenG, ltOf, addG, subG, mulG, negG, intG, truT, truG, itG, appG, popG, rootOf, putR, agS, addI, tpG, conG, nilG, lsG, listG, tupleG, seqOf, hw, w, sh_tx oc_dd, sl, la, eq0, hz, ixG]
      · have er : rows u (g' ++ [y]) = rows u g' ++ [y] := by simp [rows]
        have ne : ¬ rows u (g' ++ [y]) = [] := by rw [er]; simp
        have yd : y ≠ dd := (n.hn y (by simp)).2.1
        have sl := sh_list ho
        have oy : Oc y := ho y (by rw [er]; simp)
        have es : stepP (wh l) (u, g' ++ [y]) dd = (u, g') := by simp [stepP]
        have la : atI (DL (rows u (g' ++ [y]))) (-1) = some (tx y) := by rw [er]; exact at_last _ _
        have eq0 : PyData.eqv (.list (DL (rows u (g' ++ [y])))) (.list []) = false := by rw [eqv_list0, decide_eq_false ne]
        have lp : (DL (rows u (g' ++ [y])))[(DL (rows u (g' ++ [y]))).length - 1]? = some (tx y) := by rw [er]; simp
        have dl : (DL (rows u (g' ++ [y]))).dropLast = DL (rows u g') := by rw [er, dl_dropLast]; simp
        refine ⟨⟨[some (.fro (txt l)), some (.own (.lst (DL (rows u g')))), some (.fro (txt dd)), none], hs⟩, ?_, nx, by rw [es]; rw [er] at hk; simp at hk ⊢; omega, by rw [es]; exact fun z hz => ho z (by rw [er]; exact List.mem_append_left _ hz), some (.fro (txt dd)), by rw [es]⟩
        simp [hf, mOf, inE, a_nilA, a_conA, a_b2, a_noP, a_slV, a_oT, a_oV, a_yesT, a_andT, a_orT, a_notT, a_ifV, a_orV, a_andV, a_notV, a_xS, a_rtS, a_ifS, a_asS, a_anS, a_skS, a_raS, a_frS, a_frz, a_m1, a_lmA, a_stS, a_onN, a_rtO, a_prS, a_ch3, a_lcN, a_tupGx, a_colGx, a_anyGx, bnd, bS, sqS, cst, vr, vrF, setR, caN, caM, splitA, okR, cmV, cmT, eqG, neG, dof, lof, tof, slG, inP, tupG, lstG, lstN, allD, dOf, lenG, ltOf, addG, subG, mulG, negG, intG, truT, truG, itG, appG, popG, rootOf, putR, agS, addI, tpG, conG, nilG, lsG, listG, tupleG, seqOf, hw, sh_tx oc_dd, sl, la, eq0, lp, dl, ixG, sh_tx oy, yd, -dl_app, -dl_len]
    · have es : stepP (wh l) s x = (s.1, s.2 ++ [x]) := by simp [stepP, hd]
      have er : rows s.1 (s.2 ++ [x]) = rows s.1 s.2 ++ [x] := by simp [rows]
      refine ⟨⟨[some (.fro (txt l)), some (.own (.lst (DL (rows s.1 (s.2 ++ [x]))))), some (.fro (txt x)), none], hs⟩, ?_, nx, by rw [es, er]; simp; omega, by rw [es, er]; exact fun z hz => (List.mem_append.mp hz).elim (ho z) fun z' => by rw [List.mem_singleton.mp z']; exact ox, some (.fro (txt x)), by rw [es]⟩
      rw [er]
      simp only [dl_len] at hz
      simp [hf, mOf, inE, a_nilA, a_conA, a_b2, a_noP, a_slV, a_oT, a_oV, a_yesT, a_andT, a_orT, a_notT, a_ifV, a_orV, a_andV, a_notV, a_xS, a_rtS, a_ifS, a_asS, a_anS, a_skS, a_raS, a_frS, a_frz, a_m1, a_lmA, a_stS, a_onN, a_rtO, a_prS, a_ch3, a_lcN, a_tupGx, a_colGx, a_anyGx, bnd, bS, sqS, cst, vr, vrF, setR, caN, caM, splitA, okR, cmV, cmT, eqG, neG, dof, lof, tof, slG, inP, tupG, lstG, lstN, allD, dOf, lenG, ltOf, addG, subG, mulG, negG, intG, truT, truG, itG, appG, popG, rootOf, putR, agS, addI, tpG, conG, nilG, lsG, listG, tupleG, seqOf, sh_tx oc_dd, sh_tx ox, hd, hz]) (0, []) ⟨[some (.fro (txt l)), some (.own (.lst [])), none, none], hs⟩ ⟨⟨fun _ => rfl, by simp⟩, by simp [rows], by simp [rows, Ocs], none, by simp [rows]⟩
  exact ⟨o2, h1⟩
end K1

set_option Elab.async false
set_option linter.all false
set_option maxRecDepth 100000
set_option maxHeartbeats 1000000
namespace K1
open PySem L2 Ev
theorem szL_rows (l : List Nat) : szL (rows (res l).1 (res l).2) ≤ l.length + 1 := by
  have := rows_sum (res l).1 (res l).2
  have h2 := res_sz l
  unfold szL
  rw [this]; exact h2
theorem oc_rows {l : List Nat} (h : Oc l) : Ocs (rows (res l).1 (res l).2) := fun x hx => by
  rcases List.mem_append.mp hx with hx | hx
  · rw [(List.mem_replicate.mp hx).2]; exact oc_dd
  · exact fun c hc => h c (res_chars hx hc)
theorem oc_jn {L : List (List Nat)} (h : Ocs L) : Oc (jn L) := fun c hc => by
  rcases jn_chars hc with rfl | ⟨x, hx, z⟩
  · decide
  · exact h x hx c z
theorem jn_szL (L : List (List Nat)) : (jn L).length ≤ szL L := by
  rcases jn_len L with z | z
  · unfold szL; omega
  · rw [z]; simp [jn, TL.joinL]
theorem jn_nil {u : Nat} {h : List (List Nat)} {w : Bool} (n : Nf w u h) : jn (rows u h) = [] ↔ rows u h = [] := by
  constructor
  · intro z
    cases q : rows u h with
    | nil => rfl
    | cons x t =>
      exfalso
      have m := rows_mem n
      rw [q] at m z
      have := (nm_iff.mp (m x List.mem_cons_self).1).1
      cases t with
      | nil => simp [jn, TL.joinL] at z; exact this z
      | cons y t => simp [jn, TL.joinL] at z
  · intro z; rw [z]; rfl
theorem s_made {l : List Nat} (h : Pw l) (hs : List Ob) : m_made_plain [txt l] hs = .ok (txt (plainL l)) ⟨[], hs⟩ := by
  have hw := s_whole h.sz h.oc []
  have hp := s_parts h []
  obtain ⟨o2, hl⟩ := made_loop h hs _ rfl
  have sz := szL_rows l
  have hj := fun e => e_joinL (L := rows (res l).1 (res l).2) (by have := h.le; omega) e
  have oj := oc_jn (oc_rows h.oc)
  have lj := jn_szL (rows (res l).1 (res l).2)
  have z0 : (0 : Nat) ≤ sizeLine := Nat.zero_le _
  have z1 : 1 + (jn (rows (res l).1 (res l).2)).length ≤ sizeLine := small (by have := h.le; omega)
  have jz := jn_nil (nf_res l)
  cases w : wh l with
  | true =>
    have ep : plainL l = 47 :: jn (rows (res l).1 (res l).2) := by unfold plainL pOf; rw [w]; rfl
    simp [m_made_plain, f_made_plain, mOf, inE, a_nilA, a_conA, a_b2, a_noP, a_slV, a_oT, a_oV, a_yesT, a_andT, a_orT, a_notT, a_ifV, a_orV, a_andV, a_notV, a_xS, a_rtS, a_ifS, a_asS, a_anS, a_skS, a_raS, a_frS, a_frz, a_m1, a_lmA, a_stS, a_onN, a_rtO, a_prS, a_ch3, a_lcN, a_tupGx, a_colGx, a_anyGx, bnd, bS, sqS, cst, vr, vrF, setR, caN, caM, splitA, okR, cmV, cmT, eqG, neG, dof, lof, tof, slG, inP, tupG, lstG, lstN, allD, dOf, lenG, ltOf, addG, subG, mulG, negG, intG, truT, truG, itG, appG, popG, rootOf, putR, agS, addI, tpG, conG, nilG, lsG, listG, tupleG, seqOf, hp, it_dl, hl, hj, hw, w, ep, z0, z1]
  | false =>
    by_cases e : rows (res l).1 (res l).2 = []
    · have ep : plainL l = [46] := by unfold plainL pOf; rw [w, if_pos e]; rfl
      have ej := jz.mpr e
      simp [m_made_plain, f_made_plain, mOf, inE, a_nilA, a_conA, a_b2, a_noP, a_slV, a_oT, a_oV, a_yesT, a_andT, a_orT, a_notT, a_ifV, a_orV, a_andV, a_notV, a_xS, a_rtS, a_ifS, a_asS, a_anS, a_skS, a_raS, a_frS, a_frz, a_m1, a_lmA, a_stS, a_onN, a_rtO, a_prS, a_ch3, a_lcN, a_tupGx, a_colGx, a_anyGx, bnd, bS, sqS, cst, vr, vrF, setR, caN, caM, splitA, okR, cmV, cmT, eqG, neG, dof, lof, tof, slG, inP, tupG, lstG, lstN, allD, dOf, lenG, ltOf, addG, subG, mulG, negG, intG, truT, truG, itG, appG, popG, rootOf, putR, agS, addI, tpG, conG, nilG, lsG, listG, tupleG, seqOf, hp, it_dl, hl, hj, hw, w, ep, z0, ej, sh_tx oc_0]
    · have ep : plainL l = jn (rows (res l).1 (res l).2) := by unfold plainL pOf; rw [w, if_neg e]; rfl
      have ej : ¬ jn (rows (res l).1 (res l).2) = [] := fun z => e (jz.mp z)
      simp [m_made_plain, f_made_plain, mOf, inE, a_nilA, a_conA, a_b2, a_noP, a_slV, a_oT, a_oV, a_yesT, a_andT, a_orT, a_notT, a_ifV, a_orV, a_andV, a_notV, a_xS, a_rtS, a_ifS, a_asS, a_anS, a_skS, a_raS, a_frS, a_frz, a_m1, a_lmA, a_stS, a_onN, a_rtO, a_prS, a_ch3, a_lcN, a_tupGx, a_colGx, a_anyGx, bnd, bS, sqS, cst, vr, vrF, setR, caN, caM, splitA, okR, cmV, cmT, eqG, neG, dof, lof, tof, slG, inP, tupG, lstG, lstN, allD, dOf, lenG, ltOf, addG, subG, mulG, negG, intG, truT, truG, itG, appG, popG, rootOf, putR, agS, addI, tpG, conG, nilG, lsG, listG, tupleG, seqOf, hp, it_dl, hl, hj, hw, w, ep, z0, ej, sh_tx oc_0, sh_tx oj]
end K1

set_option Elab.async false
set_option linter.all false
set_option maxRecDepth 100000
set_option maxHeartbeats 1000000
namespace K1
open PySem L2 Ev
theorem rep_flat (n : Nat) (x : Dt) : (List.replicate n [x]).flatten = List.replicate n x := by
  induction n with
  | zero => rfl
  | succ n ih => rw [List.replicate_succ, List.flatten_cons, ih]; rfl
def stepN (w : Bool) (s : Nat × List (List Nat)) (x : List Nat) : Nat × List (List Nat) := if nm x = true then stepP w s x else s
theorem foldN (w : Bool) (l : List Nat) (s : Nat × List (List Nat)) : (sp l).foldl (stepN w) s = (parts l).foldl (stepP w) s := by
  unfold parts
  rw [List.foldl_filter]; rfl
theorem lpp_loop {l : List Nat} (hl : l.length ≤ 1000) (ho : Oc l) (hs : List Ob) (f : Ev.Env → Sr) (hf : f = (sqS (ifS ((andT (b2 (vr 3) (cst (txt [46, 46])) (cmT (eqG))) (b2 (vr 2) (bnd nilA lstG) (cmT (eqG))))) (sqS (asS (b2 (vr 1) (bnd (conA (b2 (slV (vr 0) noP (bnd (cst (.d (.int 1))) inP)) (cst (txt [47])) (cmV (neG))) nilA) intG) addG) (setR 1))
  skS) (sqS (ifS (b2 (vr 3) (cst (txt [46, 46])) (cmT (eqG))) (sqS (asS (slV (vr 2) noP (bnd (bnd (cst (.d (.int 1))) negG) inP)) (setR 2))
  skS) (sqS (ifS (b2 (vr 3) (bnd (conA (cst (txt [])) (conA (cst (txt [46])) nilA)) lstG) (cmT (inG true))) (sqS (asS (b2 (vr 2) (bnd (conA (vr 3) nilA) lstG) addG) (setR 2))
  skS) skS)
  skS))
  skS))
  skS)) : ∃ o3, forL (setR 3) f ((sp l).map fun x => R.d (tx x)) ⟨[some (.fro (txt l)), some (.fro (.d (.int 0))), some (.fro (.d (.list []))), none, none], hs⟩ = .nx ⟨[some (.fro (txt l)), some (.fro (.d (.int ((res l).1 : Nat)))), some (.fro (.d (.list (DL (res l).2)))), o3, none], hs⟩ := by
  have hp := oc_sp ho
  have hz1 : l.length ≤ sizeLine := small (by omega)
  have h2 := sh_tx (oc_take ho 1)
  have h3 := sh_tx oc_47
  have z1 : (1 : Nat) ≤ sizeLine := by decide
  have z2 : (2 : Nat) ≤ sizeLine := by decide
  obtain ⟨e', h1, n, _, _, _, o3, rfl⟩ := forL_genN (fun x => R.d (tx x)) (stepN (wh l)) (sp l) (t := setR 3) (f := f) (fun k s e => Nf (wh l) s.1 s.2 ∧ s.1 ≤ k ∧ s.2.length ≤ k ∧ Ocs s.2 ∧ ∃ o3, e = ⟨[some (.fro (txt l)), some (.fro (.d (.int (s.1 : Nat)))), some (.fro (.d (.list (DL s.2)))), o3, none], hs⟩) (fun k s e x hx ⟨n, hu, hk, oh, o3, he⟩ => by
    subst he
    have hx' := List.mem_of_getElem? hx
    have hkl : k < (sp l).length := (List.getElem?_eq_some_iff.mp hx).1
    have hc := sp_cnt l
    have hz : s.2.length + 1 ≤ sizeLine := by rw [PySem.sizeLine_eq]; omega
    have ox := hp x hx'
    have h7 := (mem_sp hx').1
    have sl := sh_list oh
    refine ⟨⟨[some (.fro (txt l)), some (.fro (.d (.int (s.1 : Nat)))), some (.fro (.d (.list (DL s.2)))), some (.fro (txt x)), none], hs⟩, by simp [setR], ?_⟩
    by_cases hd : x = dd
    · subst hd
      have nx := nf_step n (x := dd) (by decide) (by decide)
      have es0 : stepN (wh l) s dd = stepP (wh l) s dd := by simp [stepN, nm]
      rw [es0]
      obtain ⟨u, g⟩ := s
      by_cases hg : g = []
      · subst hg
        cases w : wh l with
        | true =>
          have w' : l.take 1 = [47] := of_decide_eq_true w
          rw [w] at nx
          refine ⟨⟨[some (.fro (txt l)), some (.fro (.d (.int (u : Nat)))), some (.fro (.d (.list []))), some (.fro (txt dd)), none], hs⟩, ?_, nx, by simp [stepP]; simp at hu; omega, by simp [stepP], by simp [stepP, Ocs], some (.fro (txt dd)), by simp [stepP]⟩
          simp [hf, mOf, inE, a_nilA, a_conA, a_b2, a_noP, a_slV, a_oT, a_oV, a_yesT, a_andT, a_orT, a_notT, a_ifV, a_orV, a_andV, a_notV, a_xS, a_rtS, a_ifS, a_asS, a_anS, a_skS, a_raS, a_frS, a_frz, a_m1, a_lmA, a_stS, a_onN, a_rtO, a_prS, a_ch3, a_lcN, a_tupGx, a_colGx, a_anyGx, bnd, bS, sqS, cst, vr, vrF, setR, caN, caM, splitA, okR, cmV, cmT, eqG, neG, dof, lof, tof, slG, inP, tupG, lstG, lstN, allD, dOf, lenG, ltOf, addG, subG, mulG, negG, intG, truT, truG, itG, appG, popG, rootOf, putR, agS, addI, tpG, conG, nilG, lsG, listG, tupleG, seqOf, sh_tx oc_dd, hz1, h2, h3, w']
        | false =>
          have w' : ¬ l.take 1 = [47] := of_decide_eq_false w
          rw [w] at nx
          refine ⟨⟨[some (.fro (txt l)), some (.fro (.d (.int ((u + 1 : Nat) : Nat)))), some (.fro (.d (.list []))), some (.fro (txt dd)), none], hs⟩, ?_, nx, by simp [stepP]; simp at hu; omega, by simp [stepP], by simp [stepP, Ocs], some (.fro (txt dd)), by simp [stepP]⟩
          simp [hf, mOf, inE, a_nilA, a_conA, a_b2, a_noP, a_slV, a_oT, a_oV, a_yesT, a_andT, a_orT, a_notT, a_ifV, a_orV, a_andV, a_notV, a_xS, a_rtS, a_ifS, a_asS, a_anS, a_skS, a_raS, a_frS, a_frz, a_m1, a_lmA, a_stS, a_onN, a_rtO, a_prS, a_ch3, a_lcN, a_tupGx, a_colGx, a_anyGx, bnd, bS, sqS, cst, vr, vrF, setR, caN, caM, splitA, okR, cmV, cmT, eqG, neG, dof, lof, tof, slG, inP, tupG, lstG, lstN, allD, dOf, lenG, ltOf, addG, subG, mulG, negG, intG, truT, truG, itG, appG, popG, rootOf, putR, agS, addI, tpG, conG, nilG, lsG, listG, tupleG, seqOf, sh_tx oc_dd, hz1, h2, h3, w']
      · have es : stepP (wh l) (u, g) dd = (u, g.dropLast) := by simp [stepP, hg]
        refine ⟨⟨[some (.fro (txt l)), some (.fro (.d (.int (u : Nat)))), some (.fro (.d (.list (DL g.dropLast)))), some (.fro (txt dd)), none], hs⟩, ?_, nx, by rw [es]; simp at hu ⊢; omega, by rw [es]; simp at hk ⊢; omega, by rw [es]; exact fun z hz => oh z (List.dropLast_subset _ hz), some (.fro (txt dd)), by rw [es]⟩
        simp [hf, mOf, inE, a_nilA, a_conA, a_b2, a_noP, a_slV, a_oT, a_oV, a_yesT, a_andT, a_orT, a_notT, a_ifV, a_orV, a_andV, a_notV, a_xS, a_rtS, a_ifS, a_asS, a_anS, a_skS, a_raS, a_frS, a_frz, a_m1, a_lmA, a_stS, a_onN, a_rtO, a_prS, a_ch3, a_lcN, a_tupGx, a_colGx, a_anyGx, bnd, bS, sqS, cst, vr, vrF, setR, caN, caM, splitA, okR, cmV, cmT, eqG, neG, dof, lof, tof, slG, inP, tupG, lstG, lstN, allD, dOf, lenG, ltOf, addG, subG, mulG, negG, intG, truT, truG, itG, appG, popG, rootOf, putR, agS, addI, tpG, conG, nilG, lsG, listG, tupleG, seqOf, sh_tx oc_dd, sl, hg, dl_dropLast]
    · cases hn : nm x with
      | true =>
        have es : stepN (wh l) s x = (s.1, s.2 ++ [x]) := by simp [stepN, hn, stepP, hd]
        have nx := nf_step n hn h7
        have es1 : stepP (wh l) s x = (s.1, s.2 ++ [x]) := by simp [stepP, hd]
        rw [es1] at nx
        obtain ⟨n1, n2⟩ := nm_iff.mp hn
        have il := in_list true x [[], [46]] ⟨[some (.fro (txt l)), some (.fro (.d (.int (s.1 : Nat)))), some (.fro (.d (.list (DL s.2)))), some (.fro (txt x)), none], hs⟩
        simp only [dl_cons, dl_nil] at il
        refine ⟨⟨[some (.fro (txt l)), some (.fro (.d (.int (s.1 : Nat)))), some (.fro (.d (.list (DL (s.2 ++ [x]))))), some (.fro (txt x)), none], hs⟩, ?_, by rw [es]; exact nx, by rw [es]; omega, by rw [es]; simp; omega, by rw [es]; exact fun z hz => (List.mem_append.mp hz).elim (oh z) fun z' => by rw [List.mem_singleton.mp z']; exact ox, some (.fro (txt x)), by rw [es]⟩
        simp [hf, mOf, inE, a_nilA, a_conA, a_b2, a_noP, a_slV, a_oT, a_oV, a_yesT, a_andT, a_orT, a_notT, a_ifV, a_orV, a_andV, a_notV, a_xS, a_rtS, a_ifS, a_asS, a_anS, a_skS, a_raS, a_frS, a_frz, a_m1, a_lmA, a_stS, a_onN, a_rtO, a_prS, a_ch3, a_lcN, a_tupGx, a_colGx, a_anyGx, bnd, bS, sqS, cst, vr, vrF, setR, caN, caM, splitA, okR, cmV, cmT, eqG, neG, dof, lof, tof, slG, inP, tupG, lstG, lstN, allD, dOf, lenG, ltOf, addG, subG, mulG, negG, intG, truT, truG, itG, appG, popG, rootOf, putR, agS, addI, tpG, conG, nilG, lsG, listG, tupleG, seqOf, sh_tx oc_dd, sh_tx ox, hd, il, n1, n2, z1, z2, hz]
      | false =>
        have es : stepN (wh l) s x = s := by simp [stepN, hn]
        have n0 : x = [] ∨ x = [46] := by
          by_cases q : x = []
          · exact .inl q
          · by_cases q2 : x = [46]
            · exact .inr q2
            · exact absurd (nm_iff.mpr ⟨q, q2⟩) (by rw [hn]; decide)
        have il := in_list true x [[], [46]] ⟨[some (.fro (txt l)), some (.fro (.d (.int (s.1 : Nat)))), some (.fro (.d (.list (DL s.2)))), some (.fro (txt x)), none], hs⟩
        simp only [dl_cons, dl_nil] at il
        have n1 : decide (x ∈ ([[], [46]] : List (List Nat))) = true := decide_eq_true (by rcases n0 with rfl | rfl <;> simp)
        rw [n1] at il
        refine ⟨⟨[some (.fro (txt l)), some (.fro (.d (.int (s.1 : Nat)))), some (.fro (.d (.list (DL s.2)))), some (.fro (txt x)), none], hs⟩, ?_, by rw [es]; exact n, by rw [es]; omega, by rw [es]; omega, by rw [es]; exact oh, some (.fro (txt x)), by rw [es]⟩
        simp [hf, mOf, inE, a_nilA, a_conA, a_b2, a_noP, a_slV, a_oT, a_oV, a_yesT, a_andT, a_orT, a_notT, a_ifV, a_orV, a_andV, a_notV, a_xS, a_rtS, a_ifS, a_asS, a_anS, a_skS, a_raS, a_frS, a_frz, a_m1, a_lmA, a_stS, a_onN, a_rtO, a_prS, a_ch3, a_lcN, a_tupGx, a_colGx, a_anyGx, bnd, bS, sqS, cst, vr, vrF, setR, caN, caM, splitA, okR, cmV, cmT, eqG, neG, dof, lof, tof, slG, inP, tupG, lstG, lstN, allD, dOf, lenG, ltOf, addG, subG, mulG, negG, intG, truT, truG, itG, appG, popG, rootOf, putR, agS, addI, tpG, conG, nilG, lsG, listG, tupleG, seqOf, sh_tx oc_dd, sh_tx ox, hd, il, z1, z2]) (0, []) ⟨[some (.fro (txt l)), some (.fro (.d (.int 0))), some (.fro (.d (.list []))), none, none], hs⟩ ⟨⟨fun _ => rfl, by simp⟩, by simp, by simp, by simp [Ocs], none, by simp⟩
  rw [foldN] at h1
  exact ⟨o3, h1⟩
end K1

set_option Elab.async false
set_option linter.all false
set_option maxRecDepth 100000
set_option maxHeartbeats 1000000
namespace K1
open PySem L2 Ev
theorem mul_rep (u : Nat) (x : Dt) (h : u ≤ 100000) (e : Ev.Env) : mulG (.d (.list [x])) (.d (.int (u : Nat))) e = .ok (.d (.list (List.replicate u x))) e := by
  have h1 : -(2 ^ 63) ≤ ((u : Nat) : Int) ∧ ((u : Nat) : Int) < 2 ^ 63 ∧ [x].length * ((u : Nat) : Int).toNat ≤ sizeLine := by
    refine ⟨by omega, by omega, ?_⟩
    rw [List.length_singleton, Nat.one_mul, Int.toNat_natCast]
    exact small h
  simp only [mulG, lof]
  rw [if_pos h1, Int.toNat_natCast, rep_flat]
theorem s_lpp {l : List Nat} (hl : l.length ≤ 1000) (ho : Oc l) (hs : List Ob) : m__law_plain_path [txt l] hs = .ok (txt (plainL l)) ⟨[], hs⟩ := by
  have hz1 : l.length ≤ sizeLine := small (by omega)
  have h2 := sh_tx (oc_take ho 1)
  have h3 := sh_tx oc_47
  have h5 := fun e => e_split (l := l) (by omega) e
  obtain ⟨o3, hlp⟩ := lpp_loop hl ho hs _ rfl
  have sz := szL_rows l
  have hj := fun e => e_joinL (L := rows (res l).1 (res l).2) (by omega) e
  have oj := oc_jn (oc_rows ho)
  have lj := jn_szL (rows (res l).1 (res l).2)
  have z0 : (0 : Nat) ≤ sizeLine := Nat.zero_le _
  have zj : 1 + (jn (rows (res l).1 (res l).2)).length ≤ sizeLine := small (by omega)
  have zr : (rows (res l).1 (res l).2).length ≤ l.length + 1 := by
    have := sum_ge (rows (res l).1 (res l).2)
    have e : ((rows (res l).1 (res l).2).map (·.length + 1)).sum = szL (rows (res l).1 (res l).2) := rfl
    omega
  have zr2 : (res l).1 + (res l).2.length ≤ l.length + 1 := by simpa [rows] using zr
  have z1 : (1 : Nat) ≤ sizeLine := by decide
  have zz : (res l).1 + (res l).2.length ≤ sizeLine := small (by omega)
  have er : List.replicate (res l).1 (tx dd) ++ DL (res l).2 = DL (rows (res l).1 (res l).2) := by simp [rows, dl_rep]
  have jz := jn_nil (nf_res l)
  have hs3 : ∀ E : Ev.Env, vr 1 E = .ok (.d (.int ((res l).1 : Nat))) E → vr 2 E = .ok (.d (.list (DL (res l).2))) E → m1 (cst (txt [47])) (b2 (b2 (bnd (conA (cst (txt [46, 46])) nilA) lstG) (vr 1) mulG) (vr 2) addG) (joinG) E = .ok (txt (jn (rows (res l).1 (res l).2))) E := fun E v1 v2 => by
    have a1 : bnd (conA (cst (txt [46, 46])) nilA) lstG E = .ok (.d (.list [tx dd])) E := by simp [mOf, inE, a_nilA, a_conA, a_b2, a_noP, a_slV, a_oT, a_oV, a_yesT, a_andT, a_orT, a_notT, a_ifV, a_orV, a_andV, a_notV, a_xS, a_rtS, a_ifS, a_asS, a_anS, a_skS, a_raS, a_frS, a_frz, a_m1, a_lmA, a_stS, a_onN, a_rtO, a_prS, a_ch3, a_lcN, a_tupGx, a_colGx, a_anyGx, bnd, bS, sqS, cst, vr, vrF, setR, caN, caM, splitA, okR, cmV, cmT, eqG, neG, dof, lof, tof, slG, inP, tupG, lstG, lstN, allD, dOf, lenG, ltOf, addG, subG, mulG, negG, intG, truT, truG, itG, appG, popG, rootOf, putR, agS, addI, tpG, conG, nilG, lsG, listG, tupleG, seqOf, z1]
    have a2 := (b2_of (g := mulG) a1 v1).trans (mul_rep (res l).1 (tx dd) (by omega) E)
    have a3 : addG (.d (.list (List.replicate (res l).1 (tx dd)))) (.d (.list (DL (res l).2))) E = .ok (.d (.list (DL (rows (res l).1 (res l).2)))) E := by
      simp only [addG, lof, List.length_replicate, dl_len]
      rw [if_pos zz, er]
    exact (m1_of (s := sOf [47]) rfl ((b2_of a2 v2).trans a3)).trans (hj E)
  have s3 : asS (m1 (cst (txt [47])) (b2 (b2 (bnd (conA (cst (txt [46, 46])) nilA) lstG) (vr 1) mulG) (vr 2) addG) (joinG)) (setR 4) ⟨[some (.fro (txt l)), some (.fro (.d (.int ((res l).1 : Nat)))), some (.fro (.d (.list (DL (res l).2)))), o3, none], hs⟩ = .nx ⟨[some (.fro (txt l)), some (.fro (.d (.int ((res l).1 : Nat)))), some (.fro (.d (.list (DL (res l).2)))), o3, some (.fro (txt (jn (rows (res l).1 (res l).2))))], hs⟩ := asS_of (hs3 _ (by simp [vr]) (by simp [vr])) (by simp [setR])
  have s1 : prS 1 2 (conA (cst (.d (.int 0))) (conA (bnd nilA lstG) nilA)) (inE 5 [txt l] hs) = .nx ⟨[some (.fro (txt l)), some (.fro (.d (.int 0))), some (.fro (.d (.list []))), none, none], hs⟩ := by simp [mOf, inE, a_nilA, a_conA, a_b2, a_noP, a_slV, a_oT, a_oV, a_yesT, a_andT, a_orT, a_notT, a_ifV, a_orV, a_andV, a_notV, a_xS, a_rtS, a_ifS, a_asS, a_anS, a_skS, a_raS, a_frS, a_frz, a_m1, a_lmA, a_stS, a_onN, a_rtO, a_prS, a_ch3, a_lcN, a_tupGx, a_colGx, a_anyGx, bnd, bS, sqS, cst, vr, vrF, setR, caN, caM, splitA, okR, cmV, cmT, eqG, neG, dof, lof, tof, slG, inP, tupG, lstG, lstN, allD, dOf, lenG, ltOf, addG, subG, mulG, negG, intG, truT, truG, itG, appG, popG, rootOf, putR, agS, addI, tpG, conG, nilG, lsG, listG, tupleG, seqOf, z0]
  have s2i : bnd (m1 (vr 0) (cst (txt [47])) (splitG)) itG ⟨[some (.fro (txt l)), some (.fro (.d (.int 0))), some (.fro (.d (.list []))), none, none], hs⟩ = .ok ((sp l).map fun x => R.d (tx x)) ⟨[some (.fro (txt l)), some (.fro (.d (.int 0))), some (.fro (.d (.list []))), none, none], hs⟩ := by
    simp [bnd, a_m1, vr, cst, h5, itG, it_dl]
  have s4 : ifV (b2 (slV (vr 0) noP (bnd (cst (.d (.int 1))) inP)) (cst (txt [47])) (cmT (eqG))) (b2 (cst (txt [47])) (vr 4) addG) ((orV (vr 4) (cst (txt [46])))) ⟨[some (.fro (txt l)), some (.fro (.d (.int ((res l).1 : Nat)))), some (.fro (.d (.list (DL (res l).2)))), o3, some (.fro (txt (jn (rows (res l).1 (res l).2))))], hs⟩ = .ok (txt (plainL l)) ⟨[some (.fro (txt l)), some (.fro (.d (.int ((res l).1 : Nat)))), some (.fro (.d (.list (DL (res l).2)))), o3, some (.fro (txt (jn (rows (res l).1 (res l).2))))], hs⟩ := by
    cases w : wh l with
    | true =>
      have w' : l.take 1 = [47] := of_decide_eq_true w
      have ep : plainL l = 47 :: jn (rows (res l).1 (res l).2) := by unfold plainL pOf; rw [w]; rfl
      simp [mOf, inE, a_nilA, a_conA, a_b2, a_noP, a_slV, a_oT, a_oV, a_yesT, a_andT, a_orT, a_notT, a_ifV, a_orV, a_andV, a_notV, a_xS, a_rtS, a_ifS, a_asS, a_anS, a_skS, a_raS, a_frS, a_frz, a_m1, a_lmA, a_stS, a_onN, a_rtO, a_prS, a_ch3, a_lcN, a_tupGx, a_colGx, a_anyGx, bnd, bS, sqS, cst, vr, vrF, setR, caN, caM, splitA, okR, cmV, cmT, eqG, neG, dof, lof, tof, slG, inP, tupG, lstG, lstN, allD, dOf, lenG, ltOf, addG, subG, mulG, negG, intG, truT, truG, itG, appG, popG, rootOf, putR, agS, addI, tpG, conG, nilG, lsG, listG, tupleG, seqOf, hz1, h2, h3, w', ep, zj]
    | false =>
      have w' : ¬ l.take 1 = [47] := of_decide_eq_false w
      by_cases e : rows (res l).1 (res l).2 = []
      · have ep : plainL l = [46] := by unfold plainL pOf; rw [w, if_pos e]; rfl
        have ej := jz.mpr e
        simp [mOf, inE, a_nilA, a_conA, a_b2, a_noP, a_slV, a_oT, a_oV, a_yesT, a_andT, a_orT, a_notT, a_ifV, a_orV, a_andV, a_notV, a_xS, a_rtS, a_ifS, a_asS, a_anS, a_skS, a_raS, a_frS, a_frz, a_m1, a_lmA, a_stS, a_onN, a_rtO, a_prS, a_ch3, a_lcN, a_tupGx, a_colGx, a_anyGx, bnd, bS, sqS, cst, vr, vrF, setR, caN, caM, splitA, okR, cmV, cmT, eqG, neG, dof, lof, tof, slG, inP, tupG, lstG, lstN, allD, dOf, lenG, ltOf, addG, subG, mulG, negG, intG, truT, truG, itG, appG, popG, rootOf, putR, agS, addI, tpG, conG, nilG, lsG, listG, tupleG, seqOf, hz1, h2, h3, w', ep, ej]
      · have ep : plainL l = jn (rows (res l).1 (res l).2) := by unfold plainL pOf; rw [w, if_neg e]; rfl
        have ej : ¬ jn (rows (res l).1 (res l).2) = [] := fun z => e (jz.mp z)
        have ie : (jn (rows (res l).1 (res l).2)).isEmpty = false := by simpa using ej
        have zk : (jn (rows (res l).1 (res l).2)).length ≤ sizeLine := by omega
        simp [mOf, inE, a_nilA, a_conA, a_b2, a_noP, a_slV, a_oT, a_oV, a_yesT, a_andT, a_orT, a_notT, a_ifV, a_orV, a_andV, a_notV, a_xS, a_rtS, a_ifS, a_asS, a_anS, a_skS, a_raS, a_frS, a_frz, a_m1, a_lmA, a_stS, a_onN, a_rtO, a_prS, a_ch3, a_lcN, a_tupGx, a_colGx, a_anyGx, bnd, bS, sqS, cst, vr, vrF, setR, caN, caM, splitA, okR, cmV, cmT, eqG, neG, dof, lof, tof, slG, inP, tupG, lstG, lstN, allD, dOf, lenG, ltOf, addG, subG, mulG, negG, intG, truT, truG, itG, appG, popG, rootOf, putR, agS, addI, tpG, conG, nilG, lsG, listG, tupleG, seqOf, hz1, h2, h3, w', ep, ej, ie, zk]
  exact mOf_ret (f := f__law_plain_path) (sqS_of s1 (sqS_of ((frS_of s2i).trans hlp) (sqS_of s3 (sqS_ret (rtS_of s4)))))
end K1

set_option Elab.async false
set_option linter.all false
set_option maxRecDepth 100000
set_option maxHeartbeats 1000000
namespace K1
open PySem L2 Ev
def stepD (s : List (List Nat)) (x : List Nat) : List (List Nat) := if nm x = true then ledF s x else s
theorem foldD (l : List Nat) (s : List (List Nat)) : (sp l).foldl stepD s = (parts l).foldl ledF s := by
  unfold parts
  rw [List.foldl_filter]; rfl
theorem not_nm {x : List Nat} (h : nm x = false) : x ∈ ([[], [46]] : List (List Nat)) := by
  by_cases q : x = []
  · rw [q]; simp
  · by_cases q2 : x = [46]
    · rw [q2]; simp
    · exact absurd (nm_iff.mpr ⟨q, q2⟩) (by rw [h]; decide)
theorem is_nm {x : List Nat} (h : nm x = true) : ¬ x ∈ ([[], [46]] : List (List Nat)) := by
  have := nm_iff.mp h
  simp [this.1, this.2]
theorem led_loop {S : List (List Nat)} {l : List Nat} (hS : S.length ≤ 1000) (oS : Ocs S) (hl : l.length ≤ 1000) (ho : Oc l) (hs : List Ob) (f : Ev.Env → Sr) (hf : f = (sqS (asS (ifV (b2 (vr 3) (cst (txt [46, 46])) (cmT (eqG))) (slV (vr 2) noP (bnd (bnd (cst (.d (.int 1))) negG) inP)) (ifV (b2 (vr 3) (bnd (conA (cst (txt [])) (conA (cst (txt [46])) nilA)) lstG) (cmT (inG true))) (b2 (vr 2) (bnd (conA (vr 3) nilA) lstG) addG) (vr 2))) (setR 2))
  skS)) (s0 : List (List Nat)) (h0 : s0.length ≤ 1000) : ∃ o3, forL (setR 3) f ((sp l).map fun x => R.d (tx x)) ⟨[some (.fro (.d (.list (DL S)))), some (.fro (txt l)), some (.fro (.d (.list (DL s0)))), none], hs⟩ = .nx ⟨[some (.fro (.d (.list (DL S)))), some (.fro (txt l)), some (.fro (.d (.list (DL ((parts l).foldl ledF s0))))), o3], hs⟩ := by
  have hp := oc_sp ho
  have z1 : (1 : Nat) ≤ sizeLine := by decide
  have z2 : (2 : Nat) ≤ sizeLine := by decide
  obtain ⟨e', h1, _, o3, rfl⟩ := forL_genN (fun x => R.d (tx x)) stepD (sp l) (t := setR 3) (f := f) (fun k s e => s.length ≤ k + 1000 ∧ ∃ o3, e = ⟨[some (.fro (.d (.list (DL S)))), some (.fro (txt l)), some (.fro (.d (.list (DL s)))), o3], hs⟩) (fun k s e x hx ⟨hk, o3, he⟩ => by
    subst he
    have hx' := List.mem_of_getElem? hx
    have hkl : k < (sp l).length := (List.getElem?_eq_some_iff.mp hx).1
    have hc := sp_cnt l
    have hz : s.length + 1 ≤ sizeLine := small (by omega)
    have ox := hp x hx'
    refine ⟨⟨[some (.fro (.d (.list (DL S)))), some (.fro (txt l)), some (.fro (.d (.list (DL s)))), some (.fro (txt x))], hs⟩, by simp [setR], ⟨[some (.fro (.d (.list (DL S)))), some (.fro (txt l)), some (.fro (.d (.list (DL (stepD s x))))), some (.fro (txt x))], hs⟩, ?_, ?_, some (.fro (txt x)), rfl⟩
    · by_cases hd : x = dd
      · subst hd
        have es0 : stepD s dd = s.dropLast := by simp [stepD, nm, ledF]
        rw [es0]
        simp [hf, mOf, inE, a_nilA, a_conA, a_b2, a_noP, a_slV, a_oT, a_oV, a_yesT, a_andT, a_orT, a_notT, a_ifV, a_orV, a_andV, a_notV, a_xS, a_rtS, a_ifS, a_asS, a_anS, a_skS, a_raS, a_frS, a_frz, a_m1, a_lmA, a_stS, a_onN, a_rtO, a_prS, a_ch3, a_lcN, a_tupGx, a_colGx, a_anyGx, bnd, bS, sqS, cst, vr, vrF, setR, caN, caM, splitA, okR, cmV, cmT, eqG, neG, dof, lof, tof, slG, inP, tupG, lstG, lstN, allD, dOf, lenG, ltOf, addG, subG, mulG, negG, intG, truT, truG, itG, appG, popG, rootOf, putR, agS, addI, tpG, conG, nilG, lsG, listG, tupleG, seqOf, sh_tx oc_dd, dl_dropLast]
      · have il := in_list true x [[], [46]] ⟨[some (.fro (.d (.list (DL S)))), some (.fro (txt l)), some (.fro (.d (.list (DL s)))), some (.fro (txt x))], hs⟩
        simp only [dl_cons, dl_nil] at il
        cases hn : nm x with
        | true =>
          have es : stepD s x = s ++ [x] := by simp [stepD, hn, ledF, hd]
          have n1 := is_nm hn
          simp only [n1, decide_false, if_true, Bool.not_false] at il
          rw [es]
          simp [hf, mOf, inE, a_nilA, a_conA, a_b2, a_noP, a_slV, a_oT, a_oV, a_yesT, a_andT, a_orT, a_notT, a_ifV, a_orV, a_andV, a_notV, a_xS, a_rtS, a_ifS, a_asS, a_anS, a_skS, a_raS, a_frS, a_frz, a_m1, a_lmA, a_stS, a_onN, a_rtO, a_prS, a_ch3, a_lcN, a_tupGx, a_colGx, a_anyGx, bnd, bS, sqS, cst, vr, vrF, setR, caN, caM, splitA, okR, cmV, cmT, eqG, neG, dof, lof, tof, slG, inP, tupG, lstG, lstN, allD, dOf, lenG, ltOf, addG, subG, mulG, negG, intG, truT, truG, itG, appG, popG, rootOf, putR, agS, addI, tpG, conG, nilG, lsG, listG, tupleG, seqOf, sh_tx oc_dd, sh_tx ox, hd, il, z1, z2, hz]
        | false =>
          have es : stepD s x = s := by simp [stepD, hn]
          have n1 := not_nm hn
          simp only [n1, decide_true, if_true, Bool.not_true] at il
          rw [es]
          simp [hf, mOf, inE, a_nilA, a_conA, a_b2, a_noP, a_slV, a_oT, a_oV, a_yesT, a_andT, a_orT, a_notT, a_ifV, a_orV, a_andV, a_notV, a_xS, a_rtS, a_ifS, a_asS, a_anS, a_skS, a_raS, a_frS, a_frz, a_m1, a_lmA, a_stS, a_onN, a_rtO, a_prS, a_ch3, a_lcN, a_tupGx, a_colGx, a_anyGx, bnd, bS, sqS, cst, vr, vrF, setR, caN, caM, splitA, okR, cmV, cmT, eqG, neG, dof, lof, tof, slG, inP, tupG, lstG, lstN, allD, dOf, lenG, ltOf, addG, subG, mulG, negG, intG, truT, truG, itG, appG, popG, rootOf, putR, agS, addI, tpG, conG, nilG, lsG, listG, tupleG, seqOf, sh_tx oc_dd, sh_tx ox, hd, il, z1, z2]
    · unfold stepD ledF
      split
      · split
        · simp; omega
        · simp; omega
      · omega) s0 ⟨[some (.fro (.d (.list (DL S)))), some (.fro (txt l)), some (.fro (.d (.list (DL s0)))), none], hs⟩ ⟨by omega, none, rfl⟩
  rw [foldD] at h1
  exact ⟨o3, h1⟩
theorem s_led {S : List (List Nat)} {l : List Nat} (hS : S.length ≤ 1000) (oS : Ocs S) (hl : l.length ≤ 1000) (ho : Oc l) (hs : List Ob) : m__law_led [.d (.list (DL S)), txt l] hs = .ok (.d (.list (DL (led S l)))) ⟨[], hs⟩ := by
  have hz1 : l.length ≤ sizeLine := small (by omega)
  have h2 := sh_tx (oc_take ho 1)
  have h3 := sh_tx oc_47
  have z0 : (0 : Nat) ≤ sizeLine := by decide
  have h5 := fun e => e_split (l := l) (by omega) e
  have s1 : asS (ifV (b2 (slV (vr 1) noP (bnd (cst (.d (.int 1))) inP)) (cst (txt [47])) (cmT (eqG))) (bnd nilA lstG) (bnd (conA (vr 0) nilA) listG)) (setR 2) (inE 4 [.d (.list (DL S)), txt l] hs) = .nx ⟨[some (.fro (.d (.list (DL S)))), some (.fro (txt l)), some (.fro (.d (.list (DL (if wh l then [] else S))))), none], hs⟩ := by
    cases w : wh l with
    | true =>
      have w' : l.take 1 = [47] := of_decide_eq_true w
      simp [mOf, inE, a_nilA, a_conA, a_b2, a_noP, a_slV, a_oT, a_oV, a_yesT, a_andT, a_orT, a_notT, a_ifV, a_orV, a_andV, a_notV, a_xS, a_rtS, a_ifS, a_asS, a_anS, a_skS, a_raS, a_frS, a_frz, a_m1, a_lmA, a_stS, a_onN, a_rtO, a_prS, a_ch3, a_lcN, a_tupGx, a_colGx, a_anyGx, bnd, bS, sqS, cst, vr, vrF, setR, caN, caM, splitA, okR, cmV, cmT, eqG, neG, dof, lof, tof, slG, inP, tupG, lstG, lstN, allD, dOf, lenG, ltOf, addG, subG, mulG, negG, intG, truT, truG, itG, appG, popG, rootOf, putR, agS, addI, tpG, conG, nilG, lsG, listG, tupleG, seqOf, hz1, h2, h3, w', z0]
    | false =>
      have w' : ¬ l.take 1 = [47] := of_decide_eq_false w
      simp [mOf, inE, a_nilA, a_conA, a_b2, a_noP, a_slV, a_oT, a_oV, a_yesT, a_andT, a_orT, a_notT, a_ifV, a_orV, a_andV, a_notV, a_xS, a_rtS, a_ifS, a_asS, a_anS, a_skS, a_raS, a_frS, a_frz, a_m1, a_lmA, a_stS, a_onN, a_rtO, a_prS, a_ch3, a_lcN, a_tupGx, a_colGx, a_anyGx, bnd, bS, sqS, cst, vr, vrF, setR, caN, caM, splitA, okR, cmV, cmT, eqG, neG, dof, lof, tof, slG, inP, tupG, lstG, lstN, allD, dOf, lenG, ltOf, addG, subG, mulG, negG, intG, truT, truG, itG, appG, popG, rootOf, putR, agS, addI, tpG, conG, nilG, lsG, listG, tupleG, seqOf, hz1, h2, h3, w', z0]
  have s2i : bnd (m1 (vr 1) (cst (txt [47])) (splitG)) itG ⟨[some (.fro (.d (.list (DL S)))), some (.fro (txt l)), some (.fro (.d (.list (DL (if wh l then [] else S))))), none], hs⟩ = .ok ((sp l).map fun x => R.d (tx x)) ⟨[some (.fro (.d (.list (DL S)))), some (.fro (txt l)), some (.fro (.d (.list (DL (if wh l then [] else S))))), none], hs⟩ := by
    simp [bnd, a_m1, vr, cst, h5, itG, it_dl]
  obtain ⟨o3, hlp⟩ := led_loop hS oS hl ho hs _ rfl (if wh l then [] else S) (by cases wh l <;> simp <;> omega)
  exact mOf_ret (f := f__law_led) (sqS_of s1 (sqS_of ((frS_of s2i).trans hlp) (sqS_ret (rtS_of (x := .list (DL (led S l))) (e1 := ⟨[some (.fro (.d (.list (DL S)))), some (.fro (txt l)), some (.fro (.d (.list (DL (led S l))))), o3], hs⟩) (by simp [vr, led])))))
theorem s_joined {p q : List Nat} (hp : Pw p) (hq : Pw q) (hj : Pw (joinP p q)) (hs : List Ob) : m_joined_path [txt p, txt q] hs = .ok (txt (plainL (joinP p q))) ⟨[], hs⟩ := by
  have h1 := s_check hp []
  have h2 := s_check hq []
  have h3 := s_whole hq.sz hq.oc []
  have h4 := s_made hj []
  have hpl := hp.le
  have hql := hq.le
  have z1 : p.length + 1 ≤ sizeLine := small (by omega)
  have z2 : p.length + 1 + q.length ≤ sizeLine := small (by omega)
  cases w : wh q with
  | true =>
    have e : joinP p q = q := by unfold joinP; rw [w]; rfl
    rw [e] at h4 ⊢
    simp [m_joined_path, f_joined_path, mOf, inE, a_nilA, a_conA, a_b2, a_noP, a_slV, a_oT, a_oV, a_yesT, a_andT, a_orT, a_notT, a_ifV, a_orV, a_andV, a_notV, a_xS, a_rtS, a_ifS, a_asS, a_anS, a_skS, a_raS, a_frS, a_frz, a_m1, a_lmA, a_stS, a_onN, a_rtO, a_prS, a_ch3, a_lcN, a_tupGx, a_colGx, a_anyGx, bnd, bS, sqS, cst, vr, vrF, setR, caN, caM, splitA, okR, cmV, cmT, eqG, neG, dof, lof, tof, slG, inP, tupG, lstG, lstN, allD, dOf, lenG, ltOf, addG, subG, mulG, negG, intG, truT, truG, itG, appG, popG, rootOf, putR, agS, addI, tpG, conG, nilG, lsG, listG, tupleG, seqOf, h1, h2, h3, h4, w]
  | false =>
    have e : joinP p q = p ++ [47] ++ q := by unfold joinP; rw [w]; simp
    rw [e] at h4 ⊢
    simp only [List.append_assoc, List.singleton_append] at h4 ⊢
    simp [m_joined_path, f_joined_path, mOf, inE, a_nilA, a_conA, a_b2, a_noP, a_slV, a_oT, a_oV, a_yesT, a_andT, a_orT, a_notT, a_ifV, a_orV, a_andV, a_notV, a_xS, a_rtS, a_ifS, a_asS, a_anS, a_skS, a_raS, a_frS, a_frz, a_m1, a_lmA, a_stS, a_onN, a_rtO, a_prS, a_ch3, a_lcN, a_tupGx, a_colGx, a_anyGx, bnd, bS, sqS, cst, vr, vrF, setR, caN, caM, splitA, okR, cmV, cmT, eqG, neG, dof, lof, tof, slG, inP, tupG, lstG, lstN, allD, dOf, lenG, ltOf, addG, subG, mulG, negG, intG, truT, truG, itG, appG, popG, rootOf, putR, agS, addI, tpG, conG, nilG, lsG, listG, tupleG, seqOf, h1, h2, h3, h4, w, z1, z2]
theorem pw_dd : Pw dd := ⟨by decide, by decide, oc_dd⟩
theorem wh_dd : wh dd = false := by decide
theorem s_parent {p : List Nat} (hp : Pw p) (hj : Pw (joinP p dd)) (hs : List Ob) : m_parent_of [txt p] hs = .ok (txt (plainL (joinP p dd))) ⟨[], hs⟩ := by
  have h := s_joined hp pw_dd hj []
  simp [m_parent_of, f_parent_of, mOf, inE, a_nilA, a_conA, a_b2, a_noP, a_slV, a_oT, a_oV, a_yesT, a_andT, a_orT, a_notT, a_ifV, a_orV, a_andV, a_notV, a_xS, a_rtS, a_ifS, a_asS, a_anS, a_skS, a_raS, a_frS, a_frz, a_m1, a_lmA, a_stS, a_onN, a_rtO, a_prS, a_ch3, a_lcN, a_tupGx, a_colGx, a_anyGx, bnd, bS, sqS, cst, vr, vrF, setR, caN, caM, splitA, okR, cmV, cmT, eqG, neG, dof, lof, tof, slG, inP, tupG, lstG, lstN, allD, dOf, lenG, ltOf, addG, subG, mulG, negG, intG, truT, truG, itG, appG, popG, rootOf, putR, agS, addI, tpG, conG, nilG, lsG, listG, tupleG, seqOf, h]
def lastL (L : List (List Nat)) : List Nat := L.getLast?.getD []
theorem at_lastL {L : List (List Nat)} (h : L ≠ []) : atI (DL L) (-1) = some (tx (lastL L)) := by
  rcases nil_or_snoc L with rfl | ⟨m, x, rfl⟩
  · exact absurd rfl h
  · rw [at_last]; simp [lastL]
theorem pw_plain {p : List Nat} (h : Pw p) (h2 : p.length < 120) : Pw (plainL p) := ⟨(plain_len p h.nn).1, by have := (plain_len p h.nn).2; omega, oc_plain h.oc⟩
theorem s_name {p : List Nat} (h : Pw p) (hs : List Ob) : m_name_of [txt p] hs = .ok (txt (lastL (sp (plainL p)))) ⟨[], hs⟩ := by
  have h1 := s_made h []
  have hl := plain_len p h.nn
  have h2 := h.le
  have h5 := fun e => e_split (l := plainL p) (by omega) e
  have h6 := at_lastL (sp_ne (plainL p))
  simp [m_name_of, f_name_of, mOf, inE, a_nilA, a_conA, a_b2, a_noP, a_slV, a_oT, a_oV, a_yesT, a_andT, a_orT, a_notT, a_ifV, a_orV, a_andV, a_notV, a_xS, a_rtS, a_ifS, a_asS, a_anS, a_skS, a_raS, a_frS, a_frz, a_m1, a_lmA, a_stS, a_onN, a_rtO, a_prS, a_ch3, a_lcN, a_tupGx, a_colGx, a_anyGx, bnd, bS, sqS, cst, vr, vrF, setR, caN, caM, splitA, okR, cmV, cmT, eqG, neG, dof, lof, tof, slG, inP, tupG, lstG, lstN, allD, dOf, lenG, ltOf, addG, subG, mulG, negG, intG, truT, truG, itG, appG, popG, rootOf, putR, agS, addI, tpG, conG, nilG, lsG, listG, tupleG, seqOf, h1, h5, h6, ixG]
def withB (a b : List Nat) : Bool := if wh a = wh b then decide ((parts a).take (parts b).length = parts b) else false
theorem s_within {p q : List Nat} (hp : Pw p) (hq : Pw q) (h1 : Pw (plainL p)) (h2 : Pw (plainL q)) (hs : List Ob) : m_is_within [txt p, txt q] hs = .ok (.d (.bool (withB (plainL p) (plainL q)))) ⟨[], hs⟩ := by
  have a1 := s_made hp []
  have a2 := s_made hq []
  have a3 := s_whole h1.sz h1.oc []
  have a4 := s_whole h2.sz h2.oc []
  have a5 := s_parts h1 []
  have a6 := s_parts h2 []
  have o1 := sh_tup (L := (parts (plainL p)).take (parts (plainL q)).length) (fun x hx => oc_parts h1.oc x (List.mem_of_mem_take hx))
  have o2 := sh_tup (oc_parts h2.oc)
  have ct := cut_to (DL (parts (plainL p))) (parts (plainL q)).length
  rw [dl_take] at ct
  unfold withB
  by_cases w : wh (plainL p) = wh (plainL q)
  · rw [if_pos w]
    simp [m_is_within, f_is_within, mOf, inE, a_nilA, a_conA, a_b2, a_noP, a_slV, a_oT, a_oV, a_yesT, a_andT, a_orT, a_notT, a_ifV, a_orV, a_andV, a_notV, a_xS, a_rtS, a_ifS, a_asS, a_anS, a_skS, a_raS, a_frS, a_frz, a_m1, a_lmA, a_stS, a_onN, a_rtO, a_prS, a_ch3, a_lcN, a_tupGx, a_colGx, a_anyGx, bnd, bS, sqS, cst, vr, vrF, setR, caN, caM, splitA, okR, cmV, cmT, eqG, neG, dof, lof, tof, slG, inP, tupG, lstG, lstN, allD, dOf, lenG, ltOf, addG, subG, mulG, negG, intG, truT, truG, itG, appG, popG, rootOf, putR, agS, addI, tpG, conG, nilG, lsG, listG, tupleG, seqOf, a1, a2, a3, a4, a5, a6, w, ct, o1, o2]
  · rw [if_neg w]
    simp [m_is_within, f_is_within, mOf, inE, a_nilA, a_conA, a_b2, a_noP, a_slV, a_oT, a_oV, a_yesT, a_andT, a_orT, a_notT, a_ifV, a_orV, a_andV, a_notV, a_xS, a_rtS, a_ifS, a_asS, a_anS, a_skS, a_raS, a_frS, a_frz, a_m1, a_lmA, a_stS, a_onN, a_rtO, a_prS, a_ch3, a_lcN, a_tupGx, a_colGx, a_anyGx, bnd, bS, sqS, cst, vr, vrF, setR, caN, caM, splitA, okR, cmV, cmT, eqG, neG, dof, lof, tof, slG, inP, tupG, lstG, lstN, allD, dOf, lenG, ltOf, addG, subG, mulG, negG, intG, truT, truG, itG, appG, popG, rootOf, putR, agS, addI, tpG, conG, nilG, lsG, listG, tupleG, seqOf, a1, a2, a3, a4, w]
end K1

set_option Elab.async false
set_option linter.all false
set_option maxRecDepth 100000
set_option maxHeartbeats 1000000
namespace K1
open PySem L2 Ev
theorem at_nat (L : List (List Nat)) (k : Nat) (h : k < L.length) : atI (DL L) (k : Int) = some (tx L[k]) := by
  have e : (DL L).length = L.length := by simp
  have z : ixN (DL L).length (k : Int) = some k := by
    rw [e]
    unfold ixN
    rw [if_pos (by omega), if_pos (by omega)]
    congr 1
  unfold atI
  rw [z]
  show (DL L)[k]? = _
  unfold DL
  rw [List.getElem?_map, List.getElem?_eq_getElem h]; rfl
theorem res_cnt (p : List Nat) : (res p).2.length ≤ p.length + 1 := by
  have h := res_sz p
  have h2 := sum_ge (res p).2
  unfold szS at h
  omega
theorem sum_drop (L : List (List Nat)) (k : Nat) : ((L.drop k).map (·.length + 1)).sum ≤ (L.map (·.length + 1)).sum := by
  induction L generalizing k with
  | nil => simp
  | cons x L ih =>
    cases k with
    | zero => simp
    | succ k =>
      have := ih k
      simp only [List.drop_succ_cons, List.map_cons, List.sum_cons]; omega
theorem told_sz {p q : List Nat} (hp : p.length ≤ 1000) (hq : q.length ≤ 1000) : szL (rows (upsT p q) (restT p q)) ≤ 100000 := by
  have h1 := rows_sum (upsT p q) (restT p q)
  have h2 := res_cnt q
  have h3 := res_sz p
  have h4 := sum_drop (res p).2 (cp (res p).2 (res q).2)
  have e : szL (rows (upsT p q) (restT p q)) = ((rows (upsT p q) (restT p q)).map (·.length + 1)).sum := rfl
  rw [e, h1]
  unfold szS at h3 ⊢
  have h5 : upsT p q ≤ (res q).2.length := Nat.sub_le _ _
  unfold restT
  dsimp only
  omega
/-- the loop that counts what two have in common -/
theorem told_while (M N : List (List Nat)) (oM : Ocs M) (oN : Ocs N) (a0 a1 a2 a3 : Option SV) (hs : List Ob) (c : Ev.Env → Rs Bool) (f : Ev.Env → Sr)
    (hc : c = (andT (b2 (vr 6) (bnd (conA (bnd (conA (vr 4) nilA) lenG) (conA (bnd (conA (vr 5) nilA) lenG) nilA)) minG) (cmT (ltOf ltI ltL))) (b2 (b2 (vr 4) (vr 6) ixG) (b2 (vr 5) (vr 6) ixG) (cmT (eqG))))) (hf : f = (sqS (agS 6 (cst (.d (.int 1))) addI)
  skS)) : ∀ (d k : Nat), cp M N - k = d → k ≤ cp M N → whX c f ⟨[a0, a1, a2, a3, some (.fro (.d (.tuple (DL M)))), some (.fro (.d (.tuple (DL N)))), some (.fro (.d (.int (k : Nat)))), none], hs⟩ = .nx ⟨[a0, a1, a2, a3, some (.fro (.d (.tuple (DL M)))), some (.fro (.d (.tuple (DL N)))), some (.fro (.d (.int ((cp M N : Nat) : Int)))), none], hs⟩ := by
  have le := cp_le M N
  intro d
  induction d with
  | zero =>
    intro k hd hk
    have e : k = cp M N := by omega
    subst e
    rw [whX_eq]
    have hcond : c ⟨[a0, a1, a2, a3, some (.fro (.d (.tuple (DL M)))), some (.fro (.d (.tuple (DL N)))), some (.fro (.d (.int ((cp M N : Nat) : Int)))), none], hs⟩ = .ok false ⟨[a0, a1, a2, a3, some (.fro (.d (.tuple (DL M)))), some (.fro (.d (.tuple (DL N)))), some (.fro (.d (.int ((cp M N : Nat) : Int)))), none], hs⟩ := by
      by_cases h1 : cp M N < M.length
      · by_cases h2 : cp M N < N.length
        · have ne := cp_end M N h1 h2
          rw [List.getElem?_eq_getElem h1, List.getElem?_eq_getElem h2] at ne
          have ne : ¬ M[cp M N] = N[cp M N] := fun z => ne (by rw [z])
          have i1 := at_nat M _ h1
          have i2 := at_nat N _ h2
          have d1 : ((cp M N : Nat) : Int) < (if N.length < M.length then (N.length : Int) else (M.length : Int)) := by split <;> omega
          have o1 := sh_tx (oM _ (List.getElem_mem h1))
          have o2 := sh_tx (oN _ (List.getElem_mem h2))
          simp [hc, mOf, inE, a_nilA, a_conA, a_b2, a_noP, a_slV, a_oT, a_oV, a_yesT, a_andT, a_orT, a_notT, a_ifV, a_orV, a_andV, a_notV, a_xS, a_rtS, a_ifS, a_asS, a_anS, a_skS, a_raS, a_frS, a_frz, a_m1, a_lmA, a_stS, a_onN, a_rtO, a_prS, a_ch3, a_lcN, a_tupGx, a_colGx, a_anyGx, bnd, bS, sqS, cst, vr, vrF, setR, caN, caM, splitA, okR, cmV, cmT, eqG, neG, dof, lof, tof, slG, inP, tupG, lstG, lstN, allD, dOf, lenG, ltOf, addG, subG, mulG, negG, intG, truT, truG, itG, appG, popG, rootOf, putR, agS, addI, tpG, conG, nilG, lsG, listG, tupleG, seqOf, minG, ltI, d1, i1, i2, ixG, o1, o2, ne]
        · have d1 : ¬ ((cp M N : Nat) : Int) < (if N.length < M.length then (N.length : Int) else (M.length : Int)) := by split <;> omega
          simp [hc, mOf, inE, a_nilA, a_conA, a_b2, a_noP, a_slV, a_oT, a_oV, a_yesT, a_andT, a_orT, a_notT, a_ifV, a_orV, a_andV, a_notV, a_xS, a_rtS, a_ifS, a_asS, a_anS, a_skS, a_raS, a_frS, a_frz, a_m1, a_lmA, a_stS, a_onN, a_rtO, a_prS, a_ch3, a_lcN, a_tupGx, a_colGx, a_anyGx, bnd, bS, sqS, cst, vr, vrF, setR, caN, caM, splitA, okR, cmV, cmT, eqG, neG, dof, lof, tof, slG, inP, tupG, lstG, lstN, allD, dOf, lenG, ltOf, addG, subG, mulG, negG, intG, truT, truG, itG, appG, popG, rootOf, putR, agS, addI, tpG, conG, nilG, lsG, listG, tupleG, seqOf, minG, ltI, d1]
      · have d1 : ¬ ((cp M N : Nat) : Int) < (if N.length < M.length then (N.length : Int) else (M.length : Int)) := by split <;> omega
        simp [hc, mOf, inE, a_nilA, a_conA, a_b2, a_noP, a_slV, a_oT, a_oV, a_yesT, a_andT, a_orT, a_notT, a_ifV, a_orV, a_andV, a_notV, a_xS, a_rtS, a_ifS, a_asS, a_anS, a_skS, a_raS, a_frS, a_frz, a_m1, a_lmA, a_stS, a_onN, a_rtO, a_prS, a_ch3, a_lcN, a_tupGx, a_colGx, a_anyGx, bnd, bS, sqS, cst, vr, vrF, setR, caN, caM, splitA, okR, cmV, cmT, eqG, neG, dof, lof, tof, slG, inP, tupG, lstG, lstN, allD, dOf, lenG, ltOf, addG, subG, mulG, negG, intG, truT, truG, itG, appG, popG, rootOf, putR, agS, addI, tpG, conG, nilG, lsG, listG, tupleG, seqOf, minG, ltI, d1]
    unfold bS
    rw [hcond]
    rfl
  | succ d ih =>
    intro k hd hk
    rw [whX_eq]
    obtain ⟨e0, h1, h2⟩ := cp_in M N k (by omega)
    rw [List.getElem?_eq_getElem h1, List.getElem?_eq_getElem h2] at e0
    have e0 : M[k] = N[k] := Option.some.inj e0
    have hcond : c ⟨[a0, a1, a2, a3, some (.fro (.d (.tuple (DL M)))), some (.fro (.d (.tuple (DL N)))), some (.fro (.d (.int (k : Nat)))), none], hs⟩ = .ok true ⟨[a0, a1, a2, a3, some (.fro (.d (.tuple (DL M)))), some (.fro (.d (.tuple (DL N)))), some (.fro (.d (.int (k : Nat)))), none], hs⟩ := by
      have i1 := at_nat M _ h1
      have i2 := at_nat N _ h2
      have d1 : ((k : Nat) : Int) < (if N.length < M.length then (N.length : Int) else (M.length : Int)) := by split <;> omega
      have o1 := sh_tx (oM _ (List.getElem_mem h1))
      have o2 := sh_tx (oN _ (List.getElem_mem h2))
      simp [hc, mOf, inE, a_nilA, a_conA, a_b2, a_noP, a_slV, a_oT, a_oV, a_yesT, a_andT, a_orT, a_notT, a_ifV, a_orV, a_andV, a_notV, a_xS, a_rtS, a_ifS, a_asS, a_anS, a_skS, a_raS, a_frS, a_frz, a_m1, a_lmA, a_stS, a_onN, a_rtO, a_prS, a_ch3, a_lcN, a_tupGx, a_colGx, a_anyGx, bnd, bS, sqS, cst, vr, vrF, setR, caN, caM, splitA, okR, cmV, cmT, eqG, neG, dof, lof, tof, slG, inP, tupG, lstG, lstN, allD, dOf, lenG, ltOf, addG, subG, mulG, negG, intG, truT, truG, itG, appG, popG, rootOf, putR, agS, addI, tpG, conG, nilG, lsG, listG, tupleG, seqOf, minG, ltI, d1, i1, i2, ixG, o1, o2, e0]
    unfold bS
    rw [hcond]
    dsimp only
    rw [if_pos rfl]
    have hst : f ⟨[a0, a1, a2, a3, some (.fro (.d (.tuple (DL M)))), some (.fro (.d (.tuple (DL N)))), some (.fro (.d (.int (k : Nat)))), none], hs⟩ = .nx ⟨[a0, a1, a2, a3, some (.fro (.d (.tuple (DL M)))), some (.fro (.d (.tuple (DL N)))), some (.fro (.d (.int ((k + 1 : Nat) : Int)))), none], hs⟩ := by
      simp [hf, mOf, inE, a_nilA, a_conA, a_b2, a_noP, a_slV, a_oT, a_oV, a_yesT, a_andT, a_orT, a_notT, a_ifV, a_orV, a_andV, a_notV, a_xS, a_rtS, a_ifS, a_asS, a_anS, a_skS, a_raS, a_frS, a_frz, a_m1, a_lmA, a_stS, a_onN, a_rtO, a_prS, a_ch3, a_lcN, a_tupGx, a_colGx, a_anyGx, bnd, bS, sqS, cst, vr, vrF, setR, caN, caM, splitA, okR, cmV, cmT, eqG, neG, dof, lof, tof, slG, inP, tupG, lstG, lstN, allD, dOf, lenG, ltOf, addG, subG, mulG, negG, intG, truT, truG, itG, appG, popG, rootOf, putR, agS, addI, tpG, conG, nilG, lsG, listG, tupleG, seqOf]
    unfold lpS
    rw [hst]
    exact ih (k + 1) (by omega) (by omega)
end K1

set_option Elab.async false
set_option linter.all false
set_option maxRecDepth 100000
set_option maxHeartbeats 1000000
namespace K1
open PySem L2 Ev
theorem s_told {p q : List Nat} (hp : Pw p) (hq : Pw q) (h1 : Pw (plainL p)) (h2 : Pw (plainL q)) (hs : List Ob) : m_told_from [txt p, txt q] hs = if goodT p q = true then .ok (txt (toldL p q)) ⟨[], hs⟩ else .err 1 ⟨[], hs⟩ := by
  have a1 := s_made hp []
  have a2 := s_made hq []
  have a3 := s_whole h1.sz h1.oc []
  have a4 := s_whole h2.sz h2.oc []
  have a5 := s_parts h1 []
  have a6 := s_parts h2 []
  have s1 : prS 2 3 (conA (bnd (conA (vr 0) nilA) (caN 1 m_made_plain)) (conA (bnd (conA (vr 1) nilA) (caN 1 m_made_plain)) nilA)) (inE 8 [txt p, txt q] hs) = .nx ⟨[some (.fro (txt p)), some (.fro (txt q)), some (.fro (txt (plainL p))), some (.fro (txt (plainL q))), none, none, none, none], hs⟩ := by
    simp [mOf, inE, a_nilA, a_conA, a_b2, a_noP, a_slV, a_oT, a_oV, a_yesT, a_andT, a_orT, a_notT, a_ifV, a_orV, a_andV, a_notV, a_xS, a_rtS, a_ifS, a_asS, a_anS, a_skS, a_raS, a_frS, a_frz, a_m1, a_lmA, a_stS, a_onN, a_rtO, a_prS, a_ch3, a_lcN, a_tupGx, a_colGx, a_anyGx, bnd, bS, sqS, cst, vr, vrF, setR, caN, caM, splitA, okR, cmV, cmT, eqG, neG, dof, lof, tof, slG, inP, tupG, lstG, lstN, allD, dOf, lenG, ltOf, addG, subG, mulG, negG, intG, truT, truG, itG, appG, popG, rootOf, putR, agS, addI, tpG, conG, nilG, lsG, listG, tupleG, seqOf, a1, a2]
  have hcond : (orT (b2 (bnd (conA (vr 2) nilA) (caN 1 m_is_whole)) (bnd (conA (vr 3) nilA) (caN 1 m_is_whole)) (cmT (neG))) (orT (b2 (cst (txt [46, 46])) (bnd (conA (vr 2) nilA) (caN 1 m_parts_of)) (cmT (inG false))) (b2 (cst (txt [46, 46])) (bnd (conA (vr 3) nilA) (caN 1 m_parts_of)) (cmT (inG false))))) ⟨[some (.fro (txt p)), some (.fro (txt q)), some (.fro (txt (plainL p))), some (.fro (txt (plainL q))), none, none, none, none], hs⟩ = .ok (!goodT p q) ⟨[some (.fro (txt p)), some (.fro (txt q)), some (.fro (txt (plainL p))), some (.fro (txt (plainL q))), none, none, none, none], hs⟩ := by
    have t1 := in_tup false dd (parts (plainL p)) ⟨[some (.fro (txt p)), some (.fro (txt q)), some (.fro (txt (plainL p))), some (.fro (txt (plainL q))), none, none, none, none], hs⟩
    have t2 := in_tup false dd (parts (plainL q)) ⟨[some (.fro (txt p)), some (.fro (txt q)), some (.fro (txt (plainL p))), some (.fro (txt (plainL q))), none, none, none, none], hs⟩
    have d1 := dd_parts p
    have d2 := dd_parts q
    unfold goodT
    by_cases w : wh p = wh q
    · by_cases u : (res p).1 = 0
      · have d1' : ¬ dd ∈ parts (plainL p) := fun z => (d1.mp z) u
        by_cases v : (res q).1 = 0
        · have d2' : ¬ dd ∈ parts (plainL q) := fun z => (d2.mp z) v
          simp only [d1', d2', decide_false, Bool.false_eq_true, if_false] at t1 t2
          simp [mOf, inE, a_nilA, a_conA, a_b2, a_noP, a_slV, a_oT, a_oV, a_yesT, a_andT, a_orT, a_notT, a_ifV, a_orV, a_andV, a_notV, a_xS, a_rtS, a_ifS, a_asS, a_anS, a_skS, a_raS, a_frS, a_frz, a_m1, a_lmA, a_stS, a_onN, a_rtO, a_prS, a_ch3, a_lcN, a_tupGx, a_colGx, a_anyGx, bnd, bS, sqS, cst, vr, vrF, setR, caN, caM, splitA, okR, cmV, cmT, eqG, neG, dof, lof, tof, slG, inP, tupG, lstG, lstN, allD, dOf, lenG, ltOf, addG, subG, mulG, negG, intG, truT, truG, itG, appG, popG, rootOf, putR, agS, addI, tpG, conG, nilG, lsG, listG, tupleG, seqOf, a3, a4, a5, a6, wh_plain, w, t1, t2, u, v]
        · have d2' : dd ∈ parts (plainL q) := d2.mpr v
          simp only [d1', d2', decide_false, decide_true, Bool.false_eq_true, if_false] at t1 t2
          simp [mOf, inE, a_nilA, a_conA, a_b2, a_noP, a_slV, a_oT, a_oV, a_yesT, a_andT, a_orT, a_notT, a_ifV, a_orV, a_andV, a_notV, a_xS, a_rtS, a_ifS, a_asS, a_anS, a_skS, a_raS, a_frS, a_frz, a_m1, a_lmA, a_stS, a_onN, a_rtO, a_prS, a_ch3, a_lcN, a_tupGx, a_colGx, a_anyGx, bnd, bS, sqS, cst, vr, vrF, setR, caN, caM, splitA, okR, cmV, cmT, eqG, neG, dof, lof, tof, slG, inP, tupG, lstG, lstN, allD, dOf, lenG, ltOf, addG, subG, mulG, negG, intG, truT, truG, itG, appG, popG, rootOf, putR, agS, addI, tpG, conG, nilG, lsG, listG, tupleG, seqOf, a3, a4, a5, a6, wh_plain, w, t1, t2, u, v]
      · have d1' : dd ∈ parts (plainL p) := d1.mpr u
        simp only [d1', decide_true, Bool.false_eq_true, if_false] at t1
        simp [mOf, inE, a_nilA, a_conA, a_b2, a_noP, a_slV, a_oT, a_oV, a_yesT, a_andT, a_orT, a_notT, a_ifV, a_orV, a_andV, a_notV, a_xS, a_rtS, a_ifS, a_asS, a_anS, a_skS, a_raS, a_frS, a_frz, a_m1, a_lmA, a_stS, a_onN, a_rtO, a_prS, a_ch3, a_lcN, a_tupGx, a_colGx, a_anyGx, bnd, bS, sqS, cst, vr, vrF, setR, caN, caM, splitA, okR, cmV, cmT, eqG, neG, dof, lof, tof, slG, inP, tupG, lstG, lstN, allD, dOf, lenG, ltOf, addG, subG, mulG, negG, intG, truT, truG, itG, appG, popG, rootOf, putR, agS, addI, tpG, conG, nilG, lsG, listG, tupleG, seqOf, a3, a4, a5, a6, wh_plain, w, t1, u]
    · simp [mOf, inE, a_nilA, a_conA, a_b2, a_noP, a_slV, a_oT, a_oV, a_yesT, a_andT, a_orT, a_notT, a_ifV, a_orV, a_andV, a_notV, a_xS, a_rtS, a_ifS, a_asS, a_anS, a_skS, a_raS, a_frS, a_frz, a_m1, a_lmA, a_stS, a_onN, a_rtO, a_prS, a_ch3, a_lcN, a_tupGx, a_colGx, a_anyGx, bnd, bS, sqS, cst, vr, vrF, setR, caN, caM, splitA, okR, cmV, cmT, eqG, neG, dof, lof, tof, slG, inP, tupG, lstG, lstN, allD, dOf, lenG, ltOf, addG, subG, mulG, negG, intG, truT, truG, itG, appG, popG, rootOf, putR, agS, addI, tpG, conG, nilG, lsG, listG, tupleG, seqOf, a3, a4, wh_plain, w]
  by_cases g : goodT p q = true
  · rw [if_pos g]
    rw [g] at hcond
    have M := (res p).2
    obtain ⟨g1, g2, g3⟩ := of_decide_eq_true g
    have ep : parts (plainL p) = (res p).2 := by rw [parts_plain, g2]; rfl
    have eq : parts (plainL q) = (res q).2 := by rw [parts_plain, g3]; rfl
    have oM : Ocs (res p).2 := by rw [← ep]; exact oc_parts h1.oc
    have oN : Ocs (res q).2 := by rw [← eq]; exact oc_parts h2.oc
    rw [ep] at a5
    rw [eq] at a6
    have s3 : prS 4 5 (conA (bnd (conA (vr 2) nilA) (caN 1 m_parts_of)) (conA (bnd (conA (vr 3) nilA) (caN 1 m_parts_of)) nilA)) ⟨[some (.fro (txt p)), some (.fro (txt q)), some (.fro (txt (plainL p))), some (.fro (txt (plainL q))), none, none, none, none], hs⟩ = .nx ⟨[some (.fro (txt p)), some (.fro (txt q)), some (.fro (txt (plainL p))), some (.fro (txt (plainL q))), some (.fro (.d (.tuple (DL (res p).2)))), some (.fro (.d (.tuple (DL (res q).2)))), none, none], hs⟩ := by
      simp [mOf, inE, a_nilA, a_conA, a_b2, a_noP, a_slV, a_oT, a_oV, a_yesT, a_andT, a_orT, a_notT, a_ifV, a_orV, a_andV, a_notV, a_xS, a_rtS, a_ifS, a_asS, a_anS, a_skS, a_raS, a_frS, a_frz, a_m1, a_lmA, a_stS, a_onN, a_rtO, a_prS, a_ch3, a_lcN, a_tupGx, a_colGx, a_anyGx, bnd, bS, sqS, cst, vr, vrF, setR, caN, caM, splitA, okR, cmV, cmT, eqG, neG, dof, lof, tof, slG, inP, tupG, lstG, lstN, allD, dOf, lenG, ltOf, addG, subG, mulG, negG, intG, truT, truG, itG, appG, popG, rootOf, putR, agS, addI, tpG, conG, nilG, lsG, listG, tupleG, seqOf, a5, a6]
    have s4 : asS (cst (.d (.int 0))) (setR 6) ⟨[some (.fro (txt p)), some (.fro (txt q)), some (.fro (txt (plainL p))), some (.fro (txt (plainL q))), some (.fro (.d (.tuple (DL (res p).2)))), some (.fro (.d (.tuple (DL (res q).2)))), none, none], hs⟩ = .nx ⟨[some (.fro (txt p)), some (.fro (txt q)), some (.fro (txt (plainL p))), some (.fro (txt (plainL q))), some (.fro (.d (.tuple (DL (res p).2)))), some (.fro (.d (.tuple (DL (res q).2)))), some (.fro (.d (.int ((0 : Nat) : Int)))), none], hs⟩ := by
      simp [mOf, inE, a_nilA, a_conA, a_b2, a_noP, a_slV, a_oT, a_oV, a_yesT, a_andT, a_orT, a_notT, a_ifV, a_orV, a_andV, a_notV, a_xS, a_rtS, a_ifS, a_asS, a_anS, a_skS, a_raS, a_frS, a_frz, a_m1, a_lmA, a_stS, a_onN, a_rtO, a_prS, a_ch3, a_lcN, a_tupGx, a_colGx, a_anyGx, bnd, bS, sqS, cst, vr, vrF, setR, caN, caM, splitA, okR, cmV, cmT, eqG, neG, dof, lof, tof, slG, inP, tupG, lstG, lstN, allD, dOf, lenG, ltOf, addG, subG, mulG, negG, intG, truT, truG, itG, appG, popG, rootOf, putR, agS, addI, tpG, conG, nilG, lsG, listG, tupleG, seqOf]
    have s5 := told_while (res p).2 (res q).2 oM oN (some (.fro (txt p))) (some (.fro (txt q))) (some (.fro (txt (plainL p)))) (some (.fro (txt (plainL q)))) hs _ _ rfl rfl (cp (res p).2 (res q).2) 0 (by omega) (by omega)
    have sz := told_sz (p := p) (q := q) (by have := hp.le; omega) (by have := hq.le; omega)
    have s6 : ∀ E : Ev.Env, vr 4 E = .ok (.d (.tuple (DL (res p).2))) E → vr 5 E = .ok (.d (.tuple (DL (res q).2))) E → vr 6 E = .ok (.d (.int ((cp (res p).2 (res q).2 : Nat) : Int))) E → (b2 (b2 (bnd (conA (cst (txt [46, 46])) nilA) lstG) (b2 (bnd (conA (vr 5) nilA) lenG) (vr 6) subG) mulG) (bnd (conA (slV (vr 4) (bnd (vr 6) inP) noP) nilA) listG) addG) E = .ok (.d (.list (DL (rows (upsT p q) (restT p q))))) E := fun E v4 v5 v6 => by
      have z1 : (1 : Nat) ≤ sizeLine := by decide
      have le := (cp_le (res p).2 (res q).2).2
      have b1 : bnd (conA (cst (txt [46, 46])) nilA) lstG E = .ok (.d (.list [tx dd])) E := by simp [mOf, inE, a_nilA, a_conA, a_b2, a_noP, a_slV, a_oT, a_oV, a_yesT, a_andT, a_orT, a_notT, a_ifV, a_orV, a_andV, a_notV, a_xS, a_rtS, a_ifS, a_asS, a_anS, a_skS, a_raS, a_frS, a_frz, a_m1, a_lmA, a_stS, a_onN, a_rtO, a_prS, a_ch3, a_lcN, a_tupGx, a_colGx, a_anyGx, bnd, bS, sqS, cst, vr, vrF, setR, caN, caM, splitA, okR, cmV, cmT, eqG, neG, dof, lof, tof, slG, inP, tupG, lstG, lstN, allD, dOf, lenG, ltOf, addG, subG, mulG, negG, intG, truT, truG, itG, appG, popG, rootOf, putR, agS, addI, tpG, conG, nilG, lsG, listG, tupleG, seqOf, z1]
      have c1 : bnd (conA (vr 5) nilA) lenG E = .ok (.d (.int (((res q).2.length : Nat) : Int))) E := by
        simp [bnd, a_conA, a_nilA, v5, cst, lenG, lof, tof]
      have b2' : b2 (bnd (conA (vr 5) nilA) lenG) (vr 6) subG E = .ok (.d (.int ((upsT p q : Nat) : Int))) E := by
        rw [b2_of c1 v6]
        have e : (((res q).2.length : Nat) : Int) - ((cp (res p).2 (res q).2 : Nat) : Int) = ((upsT p q : Nat) : Int) := by unfold upsT; omega
        simp only [subG, e]
      have ub : upsT p q ≤ 100000 := by
        have := res_cnt q
        have := hq.le
        unfold upsT; omega
      have b3 := (b2_of (g := mulG) b1 b2').trans (mul_rep (upsT p q) (tx dd) ub E)
      have cf := cut_from (DL (res p).2) (cp (res p).2 (res q).2)
      rw [dl_drop] at cf
      have b4 : bnd (conA (slV (vr 4) (bnd (vr 6) inP) noP) nilA) listG E = .ok (.d (.list (DL (restT p q)))) E := by
        simp [bnd, a_conA, a_nilA, a_slV, a_noP, v4, v6, cst, inP, slG, lof, tof, cf, listG, seqOf, restT]
      have rl : upsT p q + (restT p q).length ≤ sizeLine := by
        have h := sum_ge (rows (upsT p q) (restT p q))
        have e : szL (rows (upsT p q) (restT p q)) = ((rows (upsT p q) (restT p q)).map (·.length + 1)).sum := rfl
        have e2 : (rows (upsT p q) (restT p q)).length = upsT p q + (restT p q).length := by simp [rows]
        exact small (by omega)
      have er : List.replicate (upsT p q) (tx dd) ++ DL (restT p q) = DL (rows (upsT p q) (restT p q)) := by simp [rows, dl_rep]
      have b5 : addG (.d (.list (List.replicate (upsT p q) (tx dd)))) (.d (.list (DL (restT p q)))) E = .ok (.d (.list (DL (rows (upsT p q) (restT p q))))) E := by
        simp only [addG, lof, List.length_replicate, dl_len]
        rw [if_pos rl, er]
      exact (b2_of b3 b4).trans b5
    have or : Ocs (rows (upsT p q) (restT p q)) := fun x hx => by
      rcases List.mem_append.mp hx with hx | hx
      · rw [(List.mem_replicate.mp hx).2]; exact oc_dd
      · exact oM x (List.mem_of_mem_drop hx)
    have hj := fun e => e_joinL (L := rows (upsT p q) (restT p q)) sz e
    have ol := sh_list or
    have s8 : ∀ E : Ev.Env, vr 7 E = .ok (.d (.list (DL (rows (upsT p q) (restT p q))))) E → ifV (b2 (vr 7) (bnd nilA lstG) (cmT (neG))) (m1 (cst (txt [47])) (vr 7) (joinG)) (cst (txt [46])) E = .ok (txt (toldL p q)) E := fun E v7 => by
      have z0 : (0 : Nat) ≤ sizeLine := by decide
      unfold toldL pOf
      by_cases e : rows (upsT p q) (restT p q) = []
      · rw [e] at v7
        simp [a_ifV, a_b2, a_nilA, bnd, v7, lstG, allD, z0, cmT, neG, dof, e, cst]
      · simp [a_ifV, a_b2, a_nilA, a_m1, bnd, v7, lstG, allD, z0, cmT, neG, dof, ol, e, cst, hj]
    exact mOf_ret (f := f_told_from) (sqS_of s1 (sqS_of (ifS_F hcond rfl) (sqS_of s3 (sqS_of s4 (sqS_of s5 (sqS_of (asS_of (s6 _ (by simp [vr]) (by simp [vr]) (by simp [vr])) (by simp [setR]; rfl)) (sqS_ret (rtS_of (s8 _ (by simp [vr]))))))))))
  · rw [if_neg g]
    have g' : goodT p q = false := by simpa using g
    rw [g'] at hcond
    exact mOf_err (f := f_told_from) (sqS_of s1 (sqS_err (ifS_T hcond (sqS_err rfl))))
end K1

set_option Elab.async false
set_option linter.all false
set_option maxRecDepth 100000
set_option maxHeartbeats 1000000
namespace K1
open PySem L2 Ev
/-! ### what several share -/
def minc : List Nat → Nat
  | [] => 0
  | [a] => a
  | a :: b :: l => min a (minc (b :: l))
theorem minc_le : ∀ (l : List Nat) (a : Nat), a ∈ l → minc l ≤ a
  | [], a, h => by cases h
  | [b], a, h => by rw [List.mem_singleton.mp h]; exact Nat.le_refl _
  | b :: c :: l, a, h => by
    unfold minc
    rcases List.mem_cons.mp h with rfl | h
    · omega
    · have := minc_le (c :: l) a h
      omega
theorem minc_mem : ∀ (l : List Nat), l ≠ [] → minc l ∈ l
  | [], h => absurd rfl h
  | [b], _ => List.mem_cons_self
  | b :: c :: l, _ => by
    have := minc_mem (c :: l) (by simp)
    unfold minc
    by_cases h : b ≤ minc (c :: l)
    · rw [Nat.min_eq_left h]; exact List.mem_cons_self
    · rw [Nat.min_eq_right (by omega)]; exact List.mem_cons_of_mem _ this
def com (r0 : List (List Nat)) (R : List (List (List Nat))) : Nat := minc (R.map fun r => cp r r0)
theorem cp_iff : ∀ (l m : List (List Nat)) (k : Nat), k ≤ cp l m ↔ k ≤ l.length ∧ k ≤ m.length ∧ l.take k = m.take k
  | [], m, k => by
    simp only [cp, List.length_nil, Nat.le_zero_eq]
    constructor
    · rintro rfl; simp
    · exact fun h => h.1
  | x :: l, [], k => by
    simp only [cp, List.length_nil, Nat.le_zero_eq]
    constructor
    · rintro rfl; simp
    · exact fun h => h.2.1
  | x :: l, y :: m, 0 => by simp
  | x :: l, y :: m, k + 1 => by
    have ih := cp_iff l m k
    unfold cp
    rw [List.take_succ_cons, List.take_succ_cons]
    by_cases e : x = y
    · rw [if_pos e]
      constructor
      · intro h
        have := ih.mp (by omega)
        exact ⟨by simp; omega, by simp; omega, by rw [e, this.2.2]⟩
      · rintro ⟨h1, h2, h3⟩
        have := ih.mpr ⟨by simpa using h1, by simpa using h2, (List.cons.inj h3).2⟩
        omega
    · rw [if_neg e]
      constructor
      · intro h; omega
      · rintro ⟨_, _, h3⟩
        exact absurd (List.cons.inj h3).1 e
theorem com_iff (r0 : List (List Nat)) (R : List (List (List Nat))) (hne : R ≠ []) (k : Nat) : k ≤ com r0 R ↔ ∀ r ∈ R, k ≤ cp r r0 := by
  constructor
  · intro h r hr
    exact Nat.le_trans h (minc_le _ _ (List.mem_map.mpr ⟨r, hr, rfl⟩))
  · intro h
    obtain ⟨r, hr, e⟩ := List.mem_map.mp (minc_mem (R.map fun r => cp r r0) (by simp [hne]))
    unfold com
    rw [← e]
    exact h r hr
theorem cp_self : ∀ l : List (List Nat), cp l l = l.length
  | [] => rfl
  | x :: l => by unfold cp; rw [if_pos rfl, cp_self l]; rfl
/-- any, all over known items -/
theorem anL_gen {α : Type} {stop : Bool} {vs : List Nat} {t : R → Ev.Env → Option Ev.Env} {tc : Ev.Env → Rs Bool} {fe : Ev.Env → Rs R} (mk : α → R) (g : α → Bool) (e : Ev.Env) : ∀ (L : List α),
    (∀ x ∈ L, ∃ e1 e2 e3, t (mk x) e = some e1 ∧ tc e1 = .ok true e2 ∧ fe e2 = .ok (.d (.bool (g x))) e3 ∧ wipE vs e3 = e) → anL stop vs t tc fe (L.map mk) e = .ok (if stop then L.any g else L.all g) e
  | [], _ => by cases stop <;> rfl
  | x :: L, h => by
    obtain ⟨e1, e2, e3, h1, h2, h3, h4⟩ := h x List.mem_cons_self
    have ih := anL_gen (stop := stop) mk g e L fun y hy => h y (List.mem_cons_of_mem _ hy)
    rw [List.map_cons]
    unfold anL
    rw [h1]
    dsimp only
    rw [h2]
    dsimp only
    rw [h3]
    dsimp only
    rw [h4, ih]
    rw [List.any_cons, List.all_cons]
    cases stop <;> cases q : g x <;> rfl
theorem anL_first {stop : Bool} {vs : List Nat} {t : R → Ev.Env → Option Ev.Env} {tc : Ev.Env → Rs Bool} {fe : Ev.Env → Rs R} {r : R} {rs : List R} {e e1 e2 e3 : Ev.Env} (h1 : t r e = some e1) (h2 : tc e1 = .ok true e2) (h3 : fe e2 = .ok (.d (.bool stop)) e3) (h4 : wipE vs e3 = e) : anL stop vs t tc fe (r :: rs) e = .ok stop e := by
  unfold anL
  rw [h1]
  dsimp only
  rw [h2]
  dsimp only
  rw [h3]
  dsimp only
  rw [if_pos rfl, h4]
abbrev RT (R : List (List (List Nat))) : List Dt := R.map fun r => .tuple (DL r)
/-- the loop of shared_path -/
theorem shared_while (r0 : List (List Nat)) (R' : List (List (List Nat))) (oR : ∀ r ∈ r0 :: R', Ocs r) (hz : (r0 :: R').length ≤ 1000) (a0 : Option SV) (hs : List Ob) (c : Ev.Env → Rs Bool) (f : Ev.Env → Sr)
    (hc : c = (bnd (anyGx false [5] (bnd (vr 1) itG) (setR 5) yesT ((andV (b2 (bnd (conA (vr 5) nilA) lenG) (vr 2) (cmV (ltOf gtI gtL))) (b2 (b2 (vr 5) (vr 2) ixG) (b2 (b2 (vr 1) (cst (.d (.int 0))) ixG) (vr 2) ixG) (cmV (eqG)))))) truT)) (hf : f = (sqS (agS 2 (cst (.d (.int 1))) addI)
  skS)) : ∀ (d k : Nat), com r0 (r0 :: R') - k = d → k ≤ com r0 (r0 :: R') → whX c f ⟨[a0, some (.fro (.d (.list (RT (r0 :: R'))))), some (.fro (.d (.int (k : Nat)))), none, none, none], hs⟩ = .nx ⟨[a0, some (.fro (.d (.list (RT (r0 :: R'))))), some (.fro (.d (.int ((com r0 (r0 :: R') : Nat) : Int)))), none, none, none], hs⟩ := by
  have zl : (r0 :: R').length ≤ sizeLine := small (by omega)
  have cle : com r0 (r0 :: R') ≤ r0.length := by
    have := (com_iff r0 (r0 :: R') (by simp) (com r0 (r0 :: R'))).mp (Nat.le_refl _) r0 List.mem_cons_self
    rw [cp_self] at this; exact this
  have itm : (RT (r0 :: R')).map R.d = (r0 :: R').map fun r => R.d (.tuple (DL r)) := by unfold RT; rw [List.map_map]; rfl
  -- the test, by what all answer
  have test : ∀ (k : Nat), k ≤ r0.length → c ⟨[a0, some (.fro (.d (.list (RT (r0 :: R'))))), some (.fro (.d (.int (k : Nat)))), none, none, none], hs⟩ = .ok (decide (k < com r0 (r0 :: R'))) ⟨[a0, some (.fro (.d (.list (RT (r0 :: R'))))), some (.fro (.d (.int (k : Nat)))), none, none, none], hs⟩ ∨ com r0 (r0 :: R') < k := fun k hk => by
    by_cases hkc : com r0 (r0 :: R') < k
    · exact .inr hkc
    refine .inl ?_
    have ix0 : atI (RT (r0 :: R')) 0 = some (.tuple (DL r0)) := by
      unfold atI ixN
      simp
    have key : anL false [5] (setR 5) yesT (andV (b2 (bnd (conA (vr 5) nilA) lenG) (vr 2) (cmV (ltOf gtI gtL))) (b2 (b2 (vr 5) (vr 2) ixG) (b2 (b2 (vr 1) (cst (.d (.int 0))) ixG) (vr 2) ixG) (cmV (eqG)))) ((r0 :: R').map fun r => R.d (.tuple (DL r))) ⟨[a0, some (.fro (.d (.list (RT (r0 :: R'))))), some (.fro (.d (.int (k : Nat)))), none, none, none], hs⟩ = .ok (decide (k < com r0 (r0 :: R'))) ⟨[a0, some (.fro (.d (.list (RT (r0 :: R'))))), some (.fro (.d (.int (k : Nat)))), none, none, none], hs⟩ := by
      by_cases hk0 : k = r0.length
      · have e : decide (k < com r0 (r0 :: R')) = false := decide_eq_false (by omega)
        rw [e, List.map_cons]
        refine anL_first (e1 := ⟨[a0, some (.fro (.d (.list (RT (r0 :: R'))))), some (.fro (.d (.int (k : Nat)))), none, none, some (.fro (.d (.tuple (DL r0))))], hs⟩) (e2 := ⟨[a0, some (.fro (.d (.list (RT (r0 :: R'))))), some (.fro (.d (.int (k : Nat)))), none, none, some (.fro (.d (.tuple (DL r0))))], hs⟩) (e3 := ⟨[a0, some (.fro (.d (.list (RT (r0 :: R'))))), some (.fro (.d (.int (k : Nat)))), none, none, some (.fro (.d (.tuple (DL r0))))], hs⟩) (by simp [setR]) rfl ?_ (by simp [wipE])
        subst hk0
        simp [mOf, inE, a_nilA, a_conA, a_b2, a_noP, a_slV, a_oT, a_oV, a_yesT, a_andT, a_orT, a_notT, a_ifV, a_orV, a_andV, a_notV, a_xS, a_rtS, a_ifS, a_asS, a_anS, a_skS, a_raS, a_frS, a_frz, a_m1, a_lmA, a_stS, a_onN, a_rtO, a_prS, a_ch3, a_lcN, a_tupGx, a_colGx, a_anyGx, bnd, bS, sqS, cst, vr, vrF, setR, caN, caM, splitA, okR, cmV, cmT, eqG, neG, dof, lof, tof, slG, inP, tupG, lstG, lstN, allD, dOf, lenG, ltOf, addG, subG, mulG, negG, intG, truT, truG, itG, appG, popG, rootOf, putR, agS, addI, tpG, conG, nilG, lsG, listG, tupleG, seqOf, gtI]
      · have hk1 : k < r0.length := by omega
        have a := anL_gen (stop := false) (vs := [5]) (t := setR 5) (tc := yesT) (fe := andV (b2 (bnd (conA (vr 5) nilA) lenG) (vr 2) (cmV (ltOf gtI gtL))) (b2 (b2 (vr 5) (vr 2) ixG) (b2 (b2 (vr 1) (cst (.d (.int 0))) ixG) (vr 2) ixG) (cmV (eqG)))) (fun r => R.d (.tuple (DL r))) (fun r => decide (r[k]? = r0[k]?)) ⟨[a0, some (.fro (.d (.list (RT (r0 :: R'))))), some (.fro (.d (.int (k : Nat)))), none, none, none], hs⟩ (r0 :: R') (fun r hr => by
          refine ⟨⟨[a0, some (.fro (.d (.list (RT (r0 :: R'))))), some (.fro (.d (.int (k : Nat)))), none, none, some (.fro (.d (.tuple (DL r))))], hs⟩, ⟨[a0, some (.fro (.d (.list (RT (r0 :: R'))))), some (.fro (.d (.int (k : Nat)))), none, none, some (.fro (.d (.tuple (DL r))))], hs⟩, ⟨[a0, some (.fro (.d (.list (RT (r0 :: R'))))), some (.fro (.d (.int (k : Nat)))), none, none, some (.fro (.d (.tuple (DL r))))], hs⟩, by simp [setR], rfl, ?_, by simp [wipE]⟩
          have i0 := at_nat r0 k hk1
          have o0 := sh_tx (oR r0 List.mem_cons_self _ (List.getElem_mem hk1))
          by_cases h : k < r.length
          · have i1 := at_nat r k h
            have o1 := sh_tx (oR r hr _ (List.getElem_mem h))
            have d1 : ((k : Nat) : Int) < (r.length : Int) := by omega
            have e1 : decide (r[k]? = r0[k]?) = decide (r[k] = r0[k]) := by rw [List.getElem?_eq_getElem h, List.getElem?_eq_getElem hk1]; simp
            rw [e1]
            simp only [a_andV, a_b2, a_conA, a_nilA, bnd, vr, cst, lenG, lof, tof, cmV, ltOf, gtI, truG, ixG, i0, i1, ix0, eqG, dof, o0, o1, List.getElem?_cons_zero, List.getElem?_cons_succ, dl_len, d1, decide_true, eqv_tx, and_self, if_true]
          · have d1 : ¬ ((k : Nat) : Int) < (r.length : Int) := by omega
            have e1 : decide (r[k]? = r0[k]?) = false := by rw [List.getElem?_eq_none (by omega), List.getElem?_eq_getElem hk1]; simp
            rw [e1]
            simp only [a_andV, a_b2, a_conA, a_nilA, bnd, vr, cst, lenG, lof, tof, cmV, ltOf, gtI, truG, List.getElem?_cons_zero, List.getElem?_cons_succ, dl_len, d1, decide_false])
        rw [a]
        have e : ((r0 :: R').all fun r => decide (r[k]? = r0[k]?)) = decide (k < com r0 (r0 :: R')) := by
          by_cases h : k < com r0 (r0 :: R')
          · rw [decide_eq_true h, List.all_eq_true]
            intro r hr
            have h2 := (com_iff r0 (r0 :: R') (by simp) (com r0 (r0 :: R'))).mp (Nat.le_refl _) r hr
            exact decide_eq_true (cp_in r r0 k (by omega)).1
          · rw [decide_eq_false h]
            cases q : (r0 :: R').all fun r => decide (r[k]? = r0[k]?) with
            | false => rfl
            | true =>
              exfalso
              apply h
              have hkc' : k = com r0 (r0 :: R') := by omega
              have : k + 1 ≤ com r0 (r0 :: R') := (com_iff r0 (r0 :: R') (by simp) (k + 1)).mpr fun r hr => by
                have h2 := (com_iff r0 (r0 :: R') (by simp) (com r0 (r0 :: R'))).mp (Nat.le_refl _) r hr
                rw [← hkc'] at h2
                have h3 : r[k]? = r0[k]? := of_decide_eq_true (List.all_eq_true.mp q r hr)
                by_cases h4 : k = cp r r0
                · exfalso
                  rw [List.getElem?_eq_getElem hk1] at h3
                  have h5 : k < r.length := (List.getElem?_eq_some_iff.mp h3).1
                  have := cp_end r r0 (by omega) (by omega)
                  rw [← h4] at this
                  apply this
                  rw [h3, List.getElem?_eq_getElem hk1]
                · omega
              omega
        rw [if_neg (by decide), e]
    have w5 : wipE [5] ⟨[a0, some (.fro (.d (.list (RT (r0 :: R'))))), some (.fro (.d (.int (k : Nat)))), none, none, none], hs⟩ = ⟨[a0, some (.fro (.d (.list (RT (r0 :: R'))))), some (.fro (.d (.int (k : Nat)))), none, none, none], hs⟩ := by simp [wipE]
    have r5 : reE [5] ⟨[a0, some (.fro (.d (.list (RT (r0 :: R'))))), some (.fro (.d (.int (k : Nat)))), none, none, none], hs⟩ ⟨[a0, some (.fro (.d (.list (RT (r0 :: R'))))), some (.fro (.d (.int (k : Nat)))), none, none, none], hs⟩ = ⟨[a0, some (.fro (.d (.list (RT (r0 :: R'))))), some (.fro (.d (.int (k : Nat)))), none, none, none], hs⟩ := by simp [reE, froOf]
    have zl' : ((r0 :: R').map fun r => R.d (.tuple (DL r))).length ≤ sizeLine := by rw [List.length_map]; exact zl
    rw [hc]
    simp only [bnd, a_anyGx, vr, itG, itm, w5, List.getElem?_cons_zero, List.getElem?_cons_succ]
    rw [if_pos zl', key]
    simp only [r5, truT, truG]
  intro d
  induction d with
  | zero =>
    intro k hd hk
    have e : k = com r0 (r0 :: R') := by omega
    subst e
    rw [whX_eq]
    unfold bS
    rcases test (com r0 (r0 :: R')) cle with h | h
    · rw [h, decide_eq_false (by omega)]; rfl
    · omega
  | succ d ih =>
    intro k hd hk
    rw [whX_eq]
    unfold bS
    rcases test k (by omega) with h | h
    · rw [h, decide_eq_true (by omega)]
      dsimp only
      rw [if_pos rfl]
      have hst : f ⟨[a0, some (.fro (.d (.list (RT (r0 :: R'))))), some (.fro (.d (.int (k : Nat)))), none, none, none], hs⟩ = .nx ⟨[a0, some (.fro (.d (.list (RT (r0 :: R'))))), some (.fro (.d (.int ((k + 1 : Nat) : Int)))), none, none, none], hs⟩ := by
        simp [hf, mOf, inE, a_nilA, a_conA, a_b2, a_noP, a_slV, a_oT, a_oV, a_yesT, a_andT, a_orT, a_notT, a_ifV, a_orV, a_andV, a_notV, a_xS, a_rtS, a_ifS, a_asS, a_anS, a_skS, a_raS, a_frS, a_frz, a_m1, a_lmA, a_stS, a_onN, a_rtO, a_prS, a_ch3, a_lcN, a_tupGx, a_colGx, a_anyGx, bnd, bS, sqS, cst, vr, vrF, setR, caN, caM, splitA, okR, cmV, cmT, eqG, neG, dof, lof, tof, slG, inP, tupG, lstG, lstN, allD, dOf, lenG, ltOf, addG, subG, mulG, negG, intG, truT, truG, itG, appG, popG, rootOf, putR, agS, addI, tpG, conG, nilG, lsG, listG, tupleG, seqOf]
      unfold lpS
      rw [hst]
      exact ih (k + 1) (by omega) (by omega)
    · omega
end K1

set_option Elab.async false
set_option linter.all false
set_option maxRecDepth 100000
set_option maxHeartbeats 1000000
namespace K1
open PySem L2 Ev
def outB (w : Bool) (b : List Nat) : List Nat := if w then 47 :: b else if b = [] then [46] else b
def sharedP (A : List (List Nat)) : List Nat := match A with
  | [] => []
  | a :: A' => outB (wh a) (jn ((parts a).take (com (parts a) ((a :: A').map parts))))
theorem at_head (x : List Nat) (L : List (List Nat)) : atI (DL (x :: L)) 0 = some (tx x) := at_nat (x :: L) 0 (by simp)
theorem take_szL (L : List (List Nat)) (k : Nat) : szL (L.take k) ≤ szL L := by
  induction L generalizing k with
  | nil => simp [szL]
  | cons x L ih =>
    cases k with
    | zero => simp [szL]
    | succ k =>
      have := ih k
      simp only [szL, List.take_succ_cons, List.map_cons, List.sum_cons] at this ⊢; omega
theorem parts_szL (l : List Nat) : szL (parts l) ≤ l.length + 1 := parts_len l
theorem s_shared {p0 : List Nat} {P' : List (List Nat)} {X : Dt} (hX : X = .list (DL (p0 :: P')) ∨ X = .tuple (DL (p0 :: P'))) (hP : ∀ p ∈ p0 :: P', Pw p ∧ Pw (plainL p)) (hz : (p0 :: P').length ≤ 1000) (hs : List Ob) :
    m_shared_path [.d X] hs = if ((p0 :: P').any fun p => !decide (wh p = wh p0)) = true then .err 1 ⟨[], hs⟩ else .ok (txt (sharedP ((p0 :: P').map plainL))) ⟨[], hs⟩ := by
  have zl : (p0 :: P').length ≤ sizeLine := small (by omega)
  have p0w := (hP p0 List.mem_cons_self).1
  have q0w := (hP p0 List.mem_cons_self).2
  have aw0 := s_whole p0w.sz p0w.oc []
  have hlen : ∀ e : Ev.Env, lenG [.d X] e = .ok (.d (.int ((p0 :: P').length : Nat))) e := fun e => by
    rcases hX with rfl | rfl <;> simp [lenG, lof, tof]
  have hit : ∀ e : Ev.Env, itG (.d X) e = .ok ((p0 :: P').map fun x => R.d (tx x)) e := fun e => by
    rcases hX with rfl | rfl <;> simp only [itG, it_dl]
  have hix : ∀ e : Ev.Env, ixG (.d X) (.d (.int 0)) e = .ok (txt p0) e := fun e => by
    have := at_head p0 P'
    rcases hX with rfl | rfl <;> simp only [ixG, lof, tof, this]
  have wE : ∀ (a1 a2 a3 : Option SV), wipE [4] ⟨[some (.fro (.d X)), a1, a2, a3, none, none], hs⟩ = ⟨[some (.fro (.d X)), a1, a2, a3, none, none], hs⟩ := fun a1 a2 a3 => by simp [wipE]
  have rE : reE [4] ⟨[some (.fro (.d X)), none, none, none, none, none], hs⟩ ⟨[some (.fro (.d X)), none, none, none, none, none], hs⟩ = ⟨[some (.fro (.d X)), none, none, none, none, none], hs⟩ := by simp [reE, froOf]
  have key := anL_gen (stop := true) (vs := [4]) (t := setR 4) (tc := yesT) (fe := b2 (bnd (conA (vr 4) nilA) (caN 1 m_is_whole)) (bnd (conA (b2 (vr 0) (cst (.d (.int 0))) ixG) nilA) (caN 1 m_is_whole)) (cmV (neG))) (fun x => R.d (tx x)) (fun p => !decide (wh p = wh p0)) ⟨[some (.fro (.d X)), none, none, none, none, none], hs⟩ (p0 :: P') (fun p hp => by
    have aw := s_whole (hP p hp).1.sz (hP p hp).1.oc []
    refine ⟨⟨[some (.fro (.d X)), none, none, none, some (.fro (txt p)), none], hs⟩, ⟨[some (.fro (.d X)), none, none, none, some (.fro (txt p)), none], hs⟩, ⟨[some (.fro (.d X)), none, none, none, some (.fro (txt p)), none], hs⟩, by simp [setR], rfl, ?_, by simp [wipE]⟩
    simp [a_b2, a_conA, a_nilA, bnd, vr, cst, caN, caM, splitA, okR, aw, aw0, hix, cmV, neG, dof])
  have hcond : (orT (b2 (bnd (conA (vr 0) nilA) lenG) (cst (.d (.int 0))) (cmT (eqG))) (bnd (anyGx true [4] (bnd (vr 0) itG) (setR 4) yesT (b2 (bnd (conA (vr 4) nilA) (caN 1 m_is_whole)) (bnd (conA (b2 (vr 0) (cst (.d (.int 0))) ixG) nilA) (caN 1 m_is_whole)) (cmV (neG)))) truT)) (inE 6 [.d X] hs) = .ok ((p0 :: P').any fun p => !decide (wh p = wh p0)) ⟨[some (.fro (.d X)), none, none, none, none, none], hs⟩ := by
    have e0 : inE 6 [.d X] hs = ⟨[some (.fro (.d X)), none, none, none, none, none], hs⟩ := by simp [inE]
    have zl' : ((p0 :: P').map fun x => R.d (tx x)).length ≤ sizeLine := by rw [List.length_map]; exact zl
    have ne : ¬ (((p0 :: P').length : Nat) : Int) = 0 := by simp; omega
    rw [e0]
    simp only [a_orT, a_b2, a_conA, a_nilA, bnd, vr, cst, hlen, cmT, eqG, dof, sh_int, and_self, if_true, eqv_int, List.getElem?_cons_zero, ne, decide_false, Bool.false_eq_true, if_false, a_anyGx, hit]
    rw [if_pos zl', wE, key]
    simp only [rE, truT, truG, if_true]
  cases g : ((p0 :: P').any fun p => !decide (wh p = wh p0)) with
  | true =>
    rw [g] at hcond
    rw [if_pos rfl]
    exact mOf_err (f := f_shared_path) (sqS_err (ifS_T hcond (sqS_err rfl)))
  | false =>
    rw [g] at hcond
    rw [if_neg (by decide)]
    have lc := lcL_gen (vs := [4]) (t := setR 4) (tc := yesT) (fe := bnd (conA (bnd (conA (vr 4) nilA) (caN 1 m_made_plain)) nilA) (caN 1 m_parts_of)) (fun x => R.d (tx x)) (fun _ => true) (fun p => .tuple (DL (parts (plainL p)))) ⟨[some (.fro (.d X)), none, none, none, none, none], hs⟩ (p0 :: P') (fun p hp => by
      have a1 := s_made (hP p hp).1 []
      have a2 := s_parts (hP p hp).2 []
      refine ⟨⟨[some (.fro (.d X)), none, none, none, some (.fro (txt p)), none], hs⟩, by simp [setR], .inl ⟨rfl, ⟨[some (.fro (.d X)), none, none, none, some (.fro (txt p)), none], hs⟩, ⟨[some (.fro (.d X)), none, none, none, some (.fro (txt p)), none], hs⟩, rfl, ?_, by simp [wipE]⟩⟩
      simp [a_conA, a_nilA, bnd, vr, cst, caN, caM, splitA, okR, a1, a2]) [] (by simp; exact small (by simp at hz; omega))
    have fl : (p0 :: P').filter (fun _ => true) = p0 :: P' := List.filter_eq_self.mpr fun _ _ => rfl
    rw [fl, List.nil_append] at lc
    have eR : (p0 :: P').map (fun p => PyData.tuple (DL (parts (plainL p)))) = RT ((parts (plainL p0)) :: P'.map fun p => parts (plainL p)) := by
      unfold RT
      rw [List.map_cons, List.map_cons, List.map_map]; rfl
    rw [eR] at lc
    have s2 : asS (frz (lcN [4] (bnd (vr 0) itG) (setR 4) yesT (bnd (conA (bnd (conA (vr 4) nilA) (caN 1 m_made_plain)) nilA) (caN 1 m_parts_of)))) (setR 1) ⟨[some (.fro (.d X)), none, none, none, none, none], hs⟩ = .nx ⟨[some (.fro (.d X)), some (.fro (.d (.list (RT ((parts (plainL p0)) :: P'.map fun p => parts (plainL p)))))), none, none, none, none], hs⟩ := by
      refine asS_of (x := .d (.list (RT ((parts (plainL p0)) :: P'.map fun p => parts (plainL p))))) (e1 := ⟨[some (.fro (.d X)), none, none, none, none, none], hs⟩) ?_ (by simp [setR])
      simp only [a_frz, a_lcN, bnd, vr, List.getElem?_cons_zero, hit, wE, lc, rE]
    have s3 : asS (cst (.d (.int 0))) (setR 2) ⟨[some (.fro (.d X)), some (.fro (.d (.list (RT ((parts (plainL p0)) :: P'.map fun p => parts (plainL p)))))), none, none, none, none], hs⟩ = .nx ⟨[some (.fro (.d X)), some (.fro (.d (.list (RT ((parts (plainL p0)) :: P'.map fun p => parts (plainL p)))))), some (.fro (.d (.int ((0 : Nat) : Int)))), none, none, none], hs⟩ := by
      simp [mOf, inE, a_nilA, a_conA, a_b2, a_noP, a_slV, a_oT, a_oV, a_yesT, a_andT, a_orT, a_notT, a_ifV, a_orV, a_andV, a_notV, a_xS, a_rtS, a_ifS, a_asS, a_anS, a_skS, a_raS, a_frS, a_frz, a_m1, a_lmA, a_stS, a_onN, a_rtO, a_prS, a_ch3, a_lcN, a_tupGx, a_colGx, a_anyGx, bnd, bS, sqS, cst, vr, vrF, setR, caN, caM, splitA, okR, cmV, cmT, eqG, neG, dof, lof, tof, slG, inP, tupG, lstG, lstN, allD, dOf, lenG, ltOf, addG, subG, mulG, negG, intG, truT, truG, itG, appG, popG, rootOf, putR, agS, addI, tpG, conG, nilG, lsG, listG, tupleG, seqOf]
    have oR : ∀ r ∈ (parts (plainL p0)) :: P'.map fun p => parts (plainL p), Ocs r := fun r hr => by
      rcases List.mem_cons.mp hr with rfl | hr
      · exact oc_parts q0w.oc
      · obtain ⟨p, hp, rfl⟩ := List.mem_map.mp hr
        exact oc_parts (hP p (List.mem_cons_of_mem _ hp)).2.oc
    have s4 := shared_while (parts (plainL p0)) (P'.map fun p => parts (plainL p)) oR (by simp at hz ⊢; omega) (some (.fro (.d X))) hs _ _ rfl rfl (com (parts (plainL p0)) ((parts (plainL p0)) :: P'.map fun p => parts (plainL p))) 0 (by omega) (by omega)
    have em : com (parts (plainL p0)) ((parts (plainL p0)) :: P'.map fun p => parts (plainL p)) = com (parts (plainL p0)) (((p0 :: P').map plainL).map parts) := by
      rw [List.map_cons, List.map_cons, List.map_map]; rfl
    generalize hm : com (parts (plainL p0)) ((parts (plainL p0)) :: P'.map fun p => parts (plainL p)) = m at s4 em
    have ct := cut_to (DL (parts (plainL p0))) m
    rw [dl_take] at ct
    have lp := plain_len p0 p0w.nn
    have pl := p0w.le
    have sz1 := parts_szL (plainL p0)
    have sz2 := take_szL (parts (plainL p0)) m
    have hj := fun e => e_joinT (L := (parts (plainL p0)).take m) (by omega) e
    have lj := jn_szL ((parts (plainL p0)).take m)
    have oj : Oc (jn ((parts (plainL p0)).take m)) := oc_jn fun x hx => oc_parts q0w.oc x (List.mem_of_mem_take hx)
    have ix0 : atI (RT ((parts (plainL p0)) :: P'.map fun p => parts (plainL p))) 0 = some (.tuple (DL (parts (plainL p0)))) := by
      unfold atI ixN
      simp
    have s5 : asS (m1 (cst (txt [47])) (slV (b2 (vr 1) (cst (.d (.int 0))) ixG) noP (bnd (vr 2) inP)) (joinG)) (setR 3) ⟨[some (.fro (.d X)), some (.fro (.d (.list (RT ((parts (plainL p0)) :: P'.map fun p => parts (plainL p)))))), some (.fro (.d (.int (m : Nat)))), none, none, none], hs⟩ = .nx ⟨[some (.fro (.d X)), some (.fro (.d (.list (RT ((parts (plainL p0)) :: P'.map fun p => parts (plainL p)))))), some (.fro (.d (.int (m : Nat)))), some (.fro (txt (jn ((parts (plainL p0)).take m)))), none, none], hs⟩ := by
      refine asS_of (x := txt (jn ((parts (plainL p0)).take m))) (e1 := ⟨[some (.fro (.d X)), some (.fro (.d (.list (RT ((parts (plainL p0)) :: P'.map fun p => parts (plainL p)))))), some (.fro (.d (.int (m : Nat)))), none, none, none], hs⟩) ?_ (by simp [setR])
      simp only [a_m1, a_slV, a_b2, a_noP, bnd, vr, cst, inP, ixG, lof, ix0, slG, tof, List.getElem?_cons_zero, List.getElem?_cons_succ, ct, hj]
    have z1 : 1 + (jn ((parts (plainL p0)).take m)).length ≤ sizeLine := small (by omega)
    have s6 : ifV (bnd (bnd (conA (b2 (vr 0) (cst (.d (.int 0))) ixG) nilA) (caN 1 m_is_whole)) truT) (b2 (cst (txt [47])) (vr 3) addG) (ifV (b2 (vr 3) (cst (txt [])) (cmT (neG))) (vr 3) (cst (txt [46]))) ⟨[some (.fro (.d X)), some (.fro (.d (.list (RT ((parts (plainL p0)) :: P'.map fun p => parts (plainL p)))))), some (.fro (.d (.int (m : Nat)))), some (.fro (txt (jn ((parts (plainL p0)).take m)))), none, none], hs⟩ = .ok (txt (outB (wh p0) (jn ((parts (plainL p0)).take m)))) ⟨[some (.fro (.d X)), some (.fro (.d (.list (RT ((parts (plainL p0)) :: P'.map fun p => parts (plainL p)))))), some (.fro (.d (.int (m : Nat)))), some (.fro (txt (jn ((parts (plainL p0)).take m)))), none, none], hs⟩ := by
      unfold outB
      cases w : wh p0 with
      | true => simp [a_ifV, a_b2, a_conA, a_nilA, bnd, vr, cst, hix, caN, caM, splitA, okR, aw0, w, truT, truG, addG, z1]
      | false =>
        by_cases e : jn ((parts (plainL p0)).take m) = []
        · simp [a_ifV, a_b2, a_conA, a_nilA, bnd, vr, cst, hix, caN, caM, splitA, okR, aw0, w, truT, truG, e, cmT, neG, dof, sh_tx oc_0]
        · simp [a_ifV, a_b2, a_conA, a_nilA, bnd, vr, cst, hix, caN, caM, splitA, okR, aw0, w, truT, truG, e, cmT, neG, dof, sh_tx oc_0, sh_tx oj]
    have ef : sharedP ((p0 :: P').map plainL) = outB (wh p0) (jn ((parts (plainL p0)).take m)) := by
      rw [em]
      show outB (wh (plainL p0)) (jn ((parts (plainL p0)).take (com (parts (plainL p0)) (((p0 :: P').map plainL).map parts)))) = _
      rw [wh_plain]
    rw [ef]
    exact mOf_ret (f := f_shared_path) (sqS_of (ifS_F hcond rfl) (sqS_of s2 (sqS_of s3 (sqS_of s4 (sqS_of s5 (sqS_ret (rtS_of s6)))))))
end K1

set_option Elab.async false
set_option linter.all false
set_option maxRecDepth 100000
set_option maxHeartbeats 1000000
namespace K1
open PySem L2 Ev
abbrev RL (R : List (List (List Nat))) : List Dt := R.map fun r => .list (DL r)
theorem lay_rl : ∀ R, (∀ r ∈ R, Ocs r) → PyData.canLayAll0 (RL R) = true
  | [], _ => by rfl
  | r :: R, h => by
    have ih := lay_rl R fun x hx => h x (List.mem_cons_of_mem _ hx)
    show PyData.canLayAll0 (.list (DL r) :: RL R) = true
    rw [PyData.canLayAll0, ih, PyData.canLay0, lay_dl r (h r List.mem_cons_self)]; rfl
theorem dep_rl : ∀ R, PyData.depthAll (RL R) ≤ 2
  | [] => by simp [RL, PyData.depthAll]
  | r :: R => by
    have ih := dep_rl R
    have h := dep_dl r
    show PyData.depthAll (.list (DL r) :: RL R) ≤ 2
    rw [PyData.depthAll, PyData.depth]; omega
theorem sh_rl {R : List (List (List Nat))} (h : ∀ r ∈ R, Ocs r) : SeqAt.shaped (.list (RL R)) = true := by
  have h1 := lay_rl R h
  have h2 := dep_rl R
  unfold SeqAt.shaped
  rw [PyData.canLay0, PyData.depth, h1]
  simp
  omega
theorem eqv_rl0 (R : List (List (List Nat))) : PyData.eqv (.list (RL R)) (.list []) = decide (R = []) := by
  cases R with
  | nil => rfl
  | cons r R => simp [RL]
theorem rg12 (e : Ev.Env) : rgG [.d (.int 12)] e = .ok ((List.range 12).map fun (k : Nat) => R.d (.int (0 + (k : Int)))) e := by
  simp only [rgG]
  rw [if_pos ⟨by omega, by omega⟩]
  rfl
theorem max12 : ∀ m : Nat, m < 12 → ∃ i l, intsOf (((List.range 12).filter fun k => decide (k ≤ m)).map fun (k : Nat) => PyData.int (0 + (k : Int))) = some (i :: l) ∧ maxI i l = (m : Int)
  | 0, _ => ⟨0, _, rfl, by decide⟩
  | 1, _ => ⟨0, _, rfl, by decide⟩
  | 2, _ => ⟨0, _, rfl, by decide⟩
  | 3, _ => ⟨0, _, rfl, by decide⟩
  | 4, _ => ⟨0, _, rfl, by decide⟩
  | 5, _ => ⟨0, _, rfl, by decide⟩
  | 6, _ => ⟨0, _, rfl, by decide⟩
  | 7, _ => ⟨0, _, rfl, by decide⟩
  | 8, _ => ⟨0, _, rfl, by decide⟩
  | 9, _ => ⟨0, _, rfl, by decide⟩
  | 10, _ => ⟨0, _, rfl, by decide⟩
  | 11, _ => ⟨0, _, rfl, by decide⟩
  | n + 12, h => by omega
/-- the names of a path, told by a list comprehension with `not in ['', '.']` -/
theorem lc_list {i : Nat} {e : Ev.Env} (l : List Nat) (hl : l.length ≤ 1000) (vs : List Nat) (E1 : List Nat → Ev.Env) (h1 : ∀ x, setR i (.d (tx x)) e = some (E1 x)) (h3 : ∀ x, vr i (E1 x) = .ok (.d (tx x)) (E1 x)) (h4 : ∀ x, wipE vs (E1 x) = e) :
    lcL vs (setR i) (b2 (vr i) (bnd (conA (cst (txt [])) (conA (cst (txt [46])) nilA)) lstG) (cmT (inG true))) (vr i) ((sp l).map fun x => R.d (tx x)) [] e = .ok (DL (parts l)) e := by
  refine lc_names l hl vs E1 h1 (fun x _ => ?_) h3 h4
  have il := in_list true x [[], [46]] (E1 x)
  simp only [dl_cons, dl_nil] at il
  have z2 : (2 : Nat) ≤ sizeLine := by decide
  cases hn : nm x with
  | true =>
    have n1 := is_nm hn
    simp only [n1, decide_false, if_true, Bool.not_false] at il
    simp [a_b2, a_conA, a_nilA, bnd, h3, cst, lstG, allD, dOf, z2, cmT, il]
  | false =>
    have n1 := not_nm hn
    simp only [n1, decide_true, if_true, Bool.not_true] at il
    simp [a_b2, a_conA, a_nilA, bnd, h3, cst, lstG, allD, dOf, z2, cmT, il]
theorem rows_of (A : List (List Nat)) (hA : ∀ a ∈ A, a.length ≤ 1000) (hz : A.length ≤ 1000) (vs4 : List Nat) (e0 : Ev.Env) (E4 : List Nat → Ev.Env) (h1 : ∀ x, setR 4 (.d (tx x)) e0 = some (E4 x)) (h2 : ∀ x, vr 4 (E4 x) = .ok (.d (tx x)) (E4 x)) (h3 : ∀ x, wipE [4] (E4 x) = e0) (h4 : ∀ x, wipE [5] (E4 x) = E4 x) (h5 : ∀ x y, setR 5 (.d (tx y)) (E4 x) = some ((fun y => ⟨(E4 x).sl.set 5 (some (.fro (txt y))), (E4 x).hs⟩ : List Nat → Ev.Env) y)) (h6 : ∀ x y, vr 5 ⟨(E4 x).sl.set 5 (some (.fro (txt y))), (E4 x).hs⟩ = .ok (.d (tx y)) ⟨(E4 x).sl.set 5 (some (.fro (txt y))), (E4 x).hs⟩)
    (h7 : ∀ x y, wipE [5] ⟨(E4 x).sl.set 5 (some (.fro (txt y))), (E4 x).hs⟩ = E4 x) (h8 : ∀ x, reE [5] (E4 x) (E4 x) = E4 x) : lcL [4] (setR 4) yesT (frz (lcN [5] (bnd (m1 (vr 4) (cst (txt [47])) (splitG)) itG) (setR 5) (b2 (vr 5) (bnd (conA (cst (txt [])) (conA (cst (txt [46])) nilA)) lstG) (cmT (inG true))) (vr 5))) (A.map fun x => R.d (tx x)) [] e0 = .ok (RL (A.map parts)) e0 := by
  have h := lcL_gen (vs := [4]) (t := setR 4) (tc := yesT) (fe := frz (lcN [5] (bnd (m1 (vr 4) (cst (txt [47])) (splitG)) itG) (setR 5) (b2 (vr 5) (bnd (conA (cst (txt [])) (conA (cst (txt [46])) nilA)) lstG) (cmT (inG true))) (vr 5))) (fun x => R.d (tx x)) (fun _ => true) (fun a => .list (DL (parts a))) e0 A (fun a ha => by
    refine ⟨E4 a, h1 a, .inl ⟨rfl, E4 a, E4 a, rfl, ?_, h3 a⟩⟩
    have hl := hA a ha
    have sp5 := fun e => e_split (l := a) (by omega) e
    have k := lc_list (i := 5) (e := E4 a) a hl [5] (fun y => ⟨(E4 a).sl.set 5 (some (.fro (txt y))), (E4 a).hs⟩) (h5 a) (h6 a) (h7 a)
    simp only [a_frz, a_lcN, a_m1, bnd, h2, cst, sp5, itG, it_dl, h4, k, h8]) [] (by simp; exact small (by omega))
  rw [h, List.filter_eq_self.mpr fun _ _ => rfl, List.nil_append]
  unfold RL
  rw [List.map_map]; rfl
theorem s_lshared {a0 : List Nat} {A' : List (List Nat)} (hA : ∀ a ∈ a0 :: A', a.length ≤ 1000 ∧ Oc a) (hz : (a0 :: A').length ≤ 1000) (hp : (parts a0).length < 12) (hs : List Ob) :
    m__law_shared [.d (.list (DL (a0 :: A')))] hs = .ok (txt (sharedP (a0 :: A'))) ⟨[], hs⟩ := by
  have e0 : inE 8 [.d (.list (DL (a0 :: A')))] hs = ⟨[some (.fro (.d (.list (DL (a0 :: A'))))), none, none, none, none, none, none, none], hs⟩ := by simp [inE]
  have oa := (hA a0 List.mem_cons_self).2
  have la := (hA a0 List.mem_cons_self).1
  have itA : itG (.d (.list (DL (a0 :: A')))) = fun e => .ok ((a0 :: A').map fun x => R.d (tx x)) e := by funext e; simp only [itG, it_dl]
  have w4 : wipE [4] ⟨[some (.fro (.d (.list (DL (a0 :: A'))))), none, none, none, none, none, none, none], hs⟩ = ⟨[some (.fro (.d (.list (DL (a0 :: A'))))), none, none, none, none, none, none, none], hs⟩ := by simp [wipE]
  have r4 : reE [4] ⟨[some (.fro (.d (.list (DL (a0 :: A'))))), none, none, none, none, none, none, none], hs⟩ ⟨[some (.fro (.d (.list (DL (a0 :: A'))))), none, none, none, none, none, none, none], hs⟩ = ⟨[some (.fro (.d (.list (DL (a0 :: A'))))), none, none, none, none, none, none, none], hs⟩ := by simp [reE, froOf]
  have k1 := rows_of (a0 :: A') (fun a ha => (hA a ha).1) hz [4] ⟨[some (.fro (.d (.list (DL (a0 :: A'))))), none, none, none, none, none, none, none], hs⟩ (fun x => ⟨[some (.fro (.d (.list (DL (a0 :: A'))))), none, none, none, some (.fro (txt x)), none, none, none], hs⟩) (fun x => by simp [setR]) (fun x => by simp [vr]) (fun x => by simp [wipE]) (fun x => by simp [wipE]) (fun x y => by simp [setR]) (fun x y => by simp [vr]) (fun x y => by simp [wipE]) (fun x => by simp [reE, froOf])
  generalize hR : (a0 :: A').map parts = RR at k1
  have hR0 : RR = parts a0 :: A'.map parts := by rw [← hR]; rfl
  have oR : ∀ r ∈ RR, Ocs r := fun r hr => by
    rw [← hR] at hr
    obtain ⟨a, ha, rfl⟩ := List.mem_map.mp hr
    exact oc_parts (hA a ha).2
  have lR : RR.length ≤ 1000 := by rw [← hR, List.length_map]; exact hz
  have s1 : asS (frz (lcN [4] (bnd (vr 0) itG) (setR 4) yesT (frz (lcN [5] (bnd (m1 (vr 4) (cst (txt [47])) (splitG)) itG) (setR 5) (b2 (vr 5) (bnd (conA (cst (txt [])) (conA (cst (txt [46])) nilA)) lstG) (cmT (inG true))) (vr 5))))) (setR 1) (inE 8 [.d (.list (DL (a0 :: A')))] hs) = .nx ⟨[some (.fro (.d (.list (DL (a0 :: A'))))), some (.fro (.d (.list (RL RR)))), none, none, none, none, none, none], hs⟩ := by
    rw [e0]
    refine asS_of (x := .d (.list (RL RR))) (e1 := ⟨[some (.fro (.d (.list (DL (a0 :: A'))))), none, none, none, none, none, none, none], hs⟩) ?_ (by simp [setR])
    simp only [a_frz, a_lcN, bnd, vr, List.getElem?_cons_zero, itA, w4, k1, r4]
  -- the greatest k
  have ne : RR ≠ [] := by rw [hR0]; simp
  generalize hm : com (parts a0) RR = m
  have mle : m ≤ (parts a0).length := by
    have := (com_iff (parts a0) RR ne m).mp (by rw [hm]; exact Nat.le_refl _) (parts a0) (by rw [hR0]; exact List.mem_cons_self)
    rw [cp_self] at this; exact this
  have ix0 : atI (RL RR) 0 = some (.list (DL (parts a0))) := by
    rw [hR0]
    unfold atI ixN
    simp
  have Ek : ∀ (k : Nat), ∃ E : Ev.Env, E = (⟨[some (.fro (.d (.list (DL (a0 :: A'))))), some (.fro (.d (.list (RL RR)))), none, none, none, none, some (.fro (.d (.int (0 + (k : Int))))), none], hs⟩ : Ev.Env) := fun k => ⟨_, rfl⟩
  have itR : itG (.d (.list (RL RR))) = fun e => .ok (RR.map fun r => R.d (.list (DL r))) e := by
    funext e
    simp only [itG]
    unfold RL
    rw [List.map_map]; rfl
  have inner : ∀ k : Nat, lcL [7] (setR 7) (orT (b2 (bnd (conA (vr 7) nilA) lenG) (vr 6) (cmT (ltOf ltI ltL))) (b2 (slV (vr 7) noP (bnd (vr 6) inP)) (slV (b2 (vr 1) (cst (.d (.int 0))) ixG) noP (bnd (vr 6) inP)) (cmT (neG)))) (vr 7) (RR.map fun r => R.d (.list (DL r))) [] ⟨[some (.fro (.d (.list (DL (a0 :: A'))))), some (.fro (.d (.list (RL RR)))), none, none, none, none, some (.fro (.d (.int (0 + (k : Int))))), none], hs⟩ = .ok (RL (RR.filter fun r => !(decide (k ≤ r.length) && decide (r.take k = (parts a0).take k)))) ⟨[some (.fro (.d (.list (DL (a0 :: A'))))), some (.fro (.d (.list (RL RR)))), none, none, none, none, some (.fro (.d (.int (0 + (k : Int))))), none], hs⟩ := fun k => by
    have h := lcL_gen (vs := [7]) (t := setR 7) (tc := orT (b2 (bnd (conA (vr 7) nilA) lenG) (vr 6) (cmT (ltOf ltI ltL))) (b2 (slV (vr 7) noP (bnd (vr 6) inP)) (slV (b2 (vr 1) (cst (.d (.int 0))) ixG) noP (bnd (vr 6) inP)) (cmT (neG)))) (fe := vr 7) (fun r => R.d (.list (DL r))) (fun r => !(decide (k ≤ r.length) && decide (r.take k = (parts a0).take k))) (fun r => .list (DL r)) ⟨[some (.fro (.d (.list (DL (a0 :: A'))))), some (.fro (.d (.list (RL RR)))), none, none, none, none, some (.fro (.d (.int (0 + (k : Int))))), none], hs⟩ RR (fun r hr => by
      refine ⟨⟨[some (.fro (.d (.list (DL (a0 :: A'))))), some (.fro (.d (.list (RL RR)))), none, none, none, none, some (.fro (.d (.int (0 + (k : Int))))), some (.fro (.d (.list (DL r))))], hs⟩, by simp [setR], ?_⟩
      have tc : (orT (b2 (bnd (conA (vr 7) nilA) lenG) (vr 6) (cmT (ltOf ltI ltL))) (b2 (slV (vr 7) noP (bnd (vr 6) inP)) (slV (b2 (vr 1) (cst (.d (.int 0))) ixG) noP (bnd (vr 6) inP)) (cmT (neG)))) ⟨[some (.fro (.d (.list (DL (a0 :: A'))))), some (.fro (.d (.list (RL RR)))), none, none, none, none, some (.fro (.d (.int (0 + (k : Int))))), some (.fro (.d (.list (DL r))))], hs⟩ = .ok (!(decide (k ≤ r.length) && decide (r.take k = (parts a0).take k))) ⟨[some (.fro (.d (.list (DL (a0 :: A'))))), some (.fro (.d (.list (RL RR)))), none, none, none, none, some (.fro (.d (.int (0 + (k : Int))))), some (.fro (.d (.list (DL r))))], hs⟩ := by
        have c1 := cut_to (DL r) k
        have c2 := cut_to (DL (parts a0)) k
        rw [dl_take] at c1 c2
        have o1 := sh_list (L := r.take k) fun x hx => oR r hr x (List.mem_of_mem_take hx)
        have o2 := sh_list (L := (parts a0).take k) fun x hx => oc_parts oa x (List.mem_of_mem_take hx)
        by_cases h : k ≤ r.length
        · have d1 : ¬ ((r.length : Nat) : Int) < (k : Int) := by omega
          simp [a_orT, a_b2, a_conA, a_nilA, a_slV, a_noP, bnd, vr, cst, lenG, lof, cmT, ltOf, ltI, d1, inP, slG, c1, c2, ixG, ix0, neG, dof, o1, o2, h]
        · have d1 : ((r.length : Nat) : Int) < (k : Int) := by omega
          simp [a_orT, a_b2, a_conA, a_nilA, bnd, vr, cst, lenG, lof, cmT, ltOf, ltI, d1, h]
      cases q : (!(decide (k ≤ r.length) && decide (r.take k = (parts a0).take k))) with
      | true => exact .inl ⟨rfl, _, ⟨[some (.fro (.d (.list (DL (a0 :: A'))))), some (.fro (.d (.list (RL RR)))), none, none, none, none, some (.fro (.d (.int (0 + (k : Int))))), some (.fro (.d (.list (DL r))))], hs⟩, by rw [tc, q], by simp [vr], by simp [wipE]⟩
      | false => exact .inr ⟨rfl, ⟨[some (.fro (.d (.list (DL (a0 :: A'))))), some (.fro (.d (.list (RL RR)))), none, none, none, none, some (.fro (.d (.int (0 + (k : Int))))), some (.fro (.d (.list (DL r))))], hs⟩, by rw [tc, q], by simp [wipE]⟩) [] (by simp; exact small (by omega))
    rw [h]; rfl
  have qk : ∀ k : Nat, ((RR.filter fun r => !(decide (k ≤ r.length) && decide (r.take k = (parts a0).take k))) = []) ↔ k ≤ m := fun k => by
    rw [List.filter_eq_nil_iff, ← hm, com_iff _ _ ne]
    have r0 : parts a0 ∈ RR := by rw [hR0]; exact List.mem_cons_self
    constructor
    · intro h r hr
      have h1 := h r hr
      have h2 := h (parts a0) r0
      simp only [Bool.not_eq_true', Bool.and_eq_false_iff, decide_eq_false_iff_not, not_or, Classical.not_not] at h1 h2
      exact (cp_iff r (parts a0) k).mpr ⟨h1.1, h2.1, h1.2⟩
    · intro h r hr
      have h1 := (cp_iff r (parts a0) k).mp (h r hr)
      simp [h1.1, h1.2.2]
  have outer := lcL_gen (vs := [6]) (t := setR 6) (tc := b2 (frz (lcN [7] (bnd (vr 1) itG) (setR 7) ((orT (b2 (bnd (conA (vr 7) nilA) lenG) (vr 6) (cmT (ltOf ltI ltL))) (b2 (slV (vr 7) noP (bnd (vr 6) inP)) (slV (b2 (vr 1) (cst (.d (.int 0))) ixG) noP (bnd (vr 6) inP)) (cmT (neG))))) (vr 7))) (bnd nilA lstG) (cmT (eqG))) (fe := vr 6) (fun (k : Nat) => R.d (.int (0 + (k : Int)))) (fun k => decide (k ≤ m)) (fun (k : Nat) => .int (0 + (k : Int))) ⟨[some (.fro (.d (.list (DL (a0 :: A'))))), some (.fro (.d (.list (RL RR)))), none, none, none, none, none, none], hs⟩ (List.range 12) (fun k _ => by
    refine ⟨⟨[some (.fro (.d (.list (DL (a0 :: A'))))), some (.fro (.d (.list (RL RR)))), none, none, none, none, some (.fro (.d (.int (0 + (k : Int))))), none], hs⟩, by simp [setR], ?_⟩
    have tc : b2 (frz (lcN [7] (bnd (vr 1) itG) (setR 7) ((orT (b2 (bnd (conA (vr 7) nilA) lenG) (vr 6) (cmT (ltOf ltI ltL))) (b2 (slV (vr 7) noP (bnd (vr 6) inP)) (slV (b2 (vr 1) (cst (.d (.int 0))) ixG) noP (bnd (vr 6) inP)) (cmT (neG))))) (vr 7))) (bnd nilA lstG) (cmT (eqG)) ⟨[some (.fro (.d (.list (DL (a0 :: A'))))), some (.fro (.d (.list (RL RR)))), none, none, none, none, some (.fro (.d (.int (0 + (k : Int))))), none], hs⟩ = .ok (decide (k ≤ m)) ⟨[some (.fro (.d (.list (DL (a0 :: A'))))), some (.fro (.d (.list (RL RR)))), none, none, none, none, some (.fro (.d (.int (0 + (k : Int))))), none], hs⟩ := by
      have i := inner k
      have w7 : wipE [7] ⟨[some (.fro (.d (.list (DL (a0 :: A'))))), some (.fro (.d (.list (RL RR)))), none, none, none, none, some (.fro (.d (.int (0 + (k : Int))))), none], hs⟩ = ⟨[some (.fro (.d (.list (DL (a0 :: A'))))), some (.fro (.d (.list (RL RR)))), none, none, none, none, some (.fro (.d (.int (0 + (k : Int))))), none], hs⟩ := by simp [wipE]
      have r7 : reE [7] ⟨[some (.fro (.d (.list (DL (a0 :: A'))))), some (.fro (.d (.list (RL RR)))), none, none, none, none, some (.fro (.d (.int (0 + (k : Int))))), none], hs⟩ ⟨[some (.fro (.d (.list (DL (a0 :: A'))))), some (.fro (.d (.list (RL RR)))), none, none, none, none, some (.fro (.d (.int (0 + (k : Int))))), none], hs⟩ = ⟨[some (.fro (.d (.list (DL (a0 :: A'))))), some (.fro (.d (.list (RL RR)))), none, none, none, none, some (.fro (.d (.int (0 + (k : Int))))), none], hs⟩ := by simp [reE, froOf]
      have a1 : frz (lcN [7] (bnd (vr 1) itG) (setR 7) ((orT (b2 (bnd (conA (vr 7) nilA) lenG) (vr 6) (cmT (ltOf ltI ltL))) (b2 (slV (vr 7) noP (bnd (vr 6) inP)) (slV (b2 (vr 1) (cst (.d (.int 0))) ixG) noP (bnd (vr 6) inP)) (cmT (neG))))) (vr 7)) ⟨[some (.fro (.d (.list (DL (a0 :: A'))))), some (.fro (.d (.list (RL RR)))), none, none, none, none, some (.fro (.d (.int (0 + (k : Int))))), none], hs⟩ = .ok (.d (.list (RL (RR.filter fun r => !(decide (k ≤ r.length) && decide (r.take k = (parts a0).take k)))))) ⟨[some (.fro (.d (.list (DL (a0 :: A'))))), some (.fro (.d (.list (RL RR)))), none, none, none, none, some (.fro (.d (.int (0 + (k : Int))))), none], hs⟩ := by
        simp only [a_frz, a_lcN, bnd, vr, List.getElem?_cons_zero, List.getElem?_cons_succ, itR, w7, i, r7]
      have z0 : (0 : Nat) ≤ sizeLine := by decide
      have a2 : ∀ E : Ev.Env, bnd nilA lstG E = .ok (.d (.list [])) E := fun E => by simp [bnd, a_nilA, lstG, allD, z0]
      rw [b2_of a1 (a2 _)]
      have o1 := sh_rl (R := RR.filter fun r => !(decide (k ≤ r.length) && decide (r.take k = (parts a0).take k))) fun r hr => oR r (List.mem_filter.mp hr).1
      simp only [cmT, eqG, dof, o1, sh_list0, and_self, if_true, eqv_rl0]
      by_cases h : k ≤ m
      · rw [decide_eq_true ((qk k).mpr h), decide_eq_true h]
      · rw [decide_eq_false fun z => h ((qk k).mp z), decide_eq_false h]
    cases q : decide (k ≤ m) with
    | true => exact .inl ⟨rfl, _, ⟨[some (.fro (.d (.list (DL (a0 :: A'))))), some (.fro (.d (.list (RL RR)))), none, none, none, none, some (.fro (.d (.int (0 + (k : Int))))), none], hs⟩, by rw [tc, q], by simp [vr], by simp [wipE]⟩
    | false => exact .inr ⟨rfl, ⟨[some (.fro (.d (.list (DL (a0 :: A'))))), some (.fro (.d (.list (RL RR)))), none, none, none, none, some (.fro (.d (.int (0 + (k : Int))))), none], hs⟩, by rw [tc, q], by simp [wipE]⟩) [] (by decide)
  obtain ⟨i, l, hmx, hmi⟩ := max12 m (by omega)
  have s2 : asS (bnd (conA (frz (lcN [6] (bnd (conA (cst (.d (.int 12))) nilA) rgG) (setR 6) (b2 (frz (lcN [7] (bnd (vr 1) itG) (setR 7) ((orT (b2 (bnd (conA (vr 7) nilA) lenG) (vr 6) (cmT (ltOf ltI ltL))) (b2 (slV (vr 7) noP (bnd (vr 6) inP)) (slV (b2 (vr 1) (cst (.d (.int 0))) ixG) noP (bnd (vr 6) inP)) (cmT (neG))))) (vr 7))) (bnd nilA lstG) (cmT (eqG))) (vr 6))) nilA) maxLG) (setR 2) ⟨[some (.fro (.d (.list (DL (a0 :: A'))))), some (.fro (.d (.list (RL RR)))), none, none, none, none, none, none], hs⟩ = .nx ⟨[some (.fro (.d (.list (DL (a0 :: A'))))), some (.fro (.d (.list (RL RR)))), some (.fro (.d (.int (m : Nat)))), none, none, none, none, none], hs⟩ := by
    refine asS_of (x := .d (.int (m : Nat))) (e1 := ⟨[some (.fro (.d (.list (DL (a0 :: A'))))), some (.fro (.d (.list (RL RR)))), none, none, none, none, none, none], hs⟩) ?_ (by simp [setR])
    have w6 : wipE [6] ⟨[some (.fro (.d (.list (DL (a0 :: A'))))), some (.fro (.d (.list (RL RR)))), none, none, none, none, none, none], hs⟩ = ⟨[some (.fro (.d (.list (DL (a0 :: A'))))), some (.fro (.d (.list (RL RR)))), none, none, none, none, none, none], hs⟩ := by simp [wipE]
    have r6 : reE [6] ⟨[some (.fro (.d (.list (DL (a0 :: A'))))), some (.fro (.d (.list (RL RR)))), none, none, none, none, none, none], hs⟩ ⟨[some (.fro (.d (.list (DL (a0 :: A'))))), some (.fro (.d (.list (RL RR)))), none, none, none, none, none, none], hs⟩ = ⟨[some (.fro (.d (.list (DL (a0 :: A'))))), some (.fro (.d (.list (RL RR)))), none, none, none, none, none, none], hs⟩ := by simp [reE, froOf]
    rw [List.nil_append] at outer
    simp only [a_conA, a_nilA, a_frz, a_lcN, bnd, cst, rg12, w6, outer, r6, maxLG, lof, hmx, hmi]
  have ct := cut_to (DL (parts a0)) m
  rw [dl_take] at ct
  have sz1 := parts_szL a0
  have sz2 := take_szL (parts a0) m
  have hj := fun e => e_joinL (L := (parts a0).take m) (by omega) e
  have lj := jn_szL ((parts a0).take m)
  have oj : Oc (jn ((parts a0).take m)) := oc_jn fun x hx => oc_parts oa x (List.mem_of_mem_take hx)
  have s3 : asS (m1 (cst (txt [47])) (slV (b2 (vr 1) (cst (.d (.int 0))) ixG) noP (bnd (vr 2) inP)) (joinG)) (setR 3) ⟨[some (.fro (.d (.list (DL (a0 :: A'))))), some (.fro (.d (.list (RL RR)))), some (.fro (.d (.int (m : Nat)))), none, none, none, none, none], hs⟩ = .nx ⟨[some (.fro (.d (.list (DL (a0 :: A'))))), some (.fro (.d (.list (RL RR)))), some (.fro (.d (.int (m : Nat)))), some (.fro (txt (jn ((parts a0).take m)))), none, none, none, none], hs⟩ := by
    refine asS_of (x := txt (jn ((parts a0).take m))) (e1 := ⟨[some (.fro (.d (.list (DL (a0 :: A'))))), some (.fro (.d (.list (RL RR)))), some (.fro (.d (.int (m : Nat)))), none, none, none, none, none], hs⟩) ?_ (by simp [setR])
    simp only [a_m1, a_slV, a_b2, a_noP, bnd, vr, cst, inP, ixG, lof, ix0, slG, List.getElem?_cons_zero, List.getElem?_cons_succ, ct, hj]
  have z1 : 1 + (jn ((parts a0).take m)).length ≤ sizeLine := small (by omega)
  have za : a0.length ≤ sizeLine := small (by omega)
  have zj : (jn ((parts a0).take m)).length ≤ sizeLine := by omega
  have h2 := sh_tx (oc_take oa 1)
  have h3 := sh_tx oc_47
  have hix : atI (DL (a0 :: A')) 0 = some (tx a0) := at_head a0 A'
  have s4 : ifV (b2 (slV (b2 (vr 0) (cst (.d (.int 0))) ixG) noP (bnd (cst (.d (.int 1))) inP)) (cst (txt [47])) (cmT (eqG))) (b2 (cst (txt [47])) (vr 3) addG) ((orV (vr 3) (cst (txt [46])))) ⟨[some (.fro (.d (.list (DL (a0 :: A'))))), some (.fro (.d (.list (RL RR)))), some (.fro (.d (.int (m : Nat)))), some (.fro (txt (jn ((parts a0).take m)))), none, none, none, none], hs⟩ = .ok (txt (sharedP (a0 :: A'))) ⟨[some (.fro (.d (.list (DL (a0 :: A'))))), some (.fro (.d (.list (RL RR)))), some (.fro (.d (.int (m : Nat)))), some (.fro (txt (jn ((parts a0).take m)))), none, none, none, none], hs⟩ := by
    have ef : sharedP (a0 :: A') = outB (wh a0) (jn ((parts a0).take m)) := by
      show outB (wh a0) (jn ((parts a0).take (com (parts a0) ((a0 :: A').map parts)))) = _
      rw [hR, hm]
    rw [ef]
    unfold outB
    cases w : wh a0 with
    | true =>
      have w' : a0.take 1 = [47] := of_decide_eq_true w
      simp [a_ifV, a_slV, a_noP, a_b2, bnd, vr, cst, ixG, lof, hix, inP, slG, za, h2, h3, w', cmT, eqG, dof, addG, z1, -dl_cons]
    | false =>
      have w' : ¬ a0.take 1 = [47] := of_decide_eq_false w
      by_cases e : jn ((parts a0).take m) = []
      · simp [a_ifV, a_slV, a_noP, a_b2, a_orV, bnd, vr, cst, ixG, lof, hix, inP, slG, za, h2, h3, w', cmT, eqG, dof, truG, e, -dl_cons]
      · have ie : (jn ((parts a0).take m)).isEmpty = false := by simpa using e
        simp [a_ifV, a_slV, a_noP, a_b2, a_orV, bnd, vr, cst, ixG, lof, hix, inP, slG, za, h2, h3, w', cmT, eqG, dof, truG, e, ie, zj, -dl_cons]
  exact mOf_ret (f := f__law_shared) (sqS_of s1 (sqS_of s2 (sqS_of s3 (sqS_ret (rtS_of s4)))))
end K1

set_option Elab.async false
set_option linter.all false
set_option maxRecDepth 100000
set_option maxHeartbeats 1000000
namespace K1
open PySem L2 Ev
theorem s_lwithin {a b : List Nat} (la : a.length ≤ 1000) (oa : Oc a) (lb : b.length ≤ 1000) (ob : Oc b) (hs : List Ob) : m__law_within [txt a, txt b] hs = .ok (.d (.bool (withB a b))) ⟨[], hs⟩ := by
  have e0 : inE 6 [txt a, txt b] hs = ⟨[some (.fro (txt a)), some (.fro (txt b)), none, none, none, none], hs⟩ := by simp [inE]
  have za : a.length ≤ sizeLine := small (by omega)
  have zb : b.length ≤ sizeLine := small (by omega)
  have h2a := sh_tx (oc_take oa 1)
  have h2b := sh_tx (oc_take ob 1)
  have h3 := sh_tx oc_47
  have s1 : b2 (b2 (slV (vr 0) noP (bnd (cst (.d (.int 1))) inP)) (cst (txt [47])) (cmV (eqG))) (b2 (slV (vr 1) noP (bnd (cst (.d (.int 1))) inP)) (cst (txt [47])) (cmV (eqG))) (cmT (neG)) (inE 6 [txt a, txt b] hs) = .ok (!decide (wh a = wh b)) ⟨[some (.fro (txt a)), some (.fro (txt b)), none, none, none, none], hs⟩ := by
    rw [e0]
    simp [mOf, inE, a_nilA, a_conA, a_b2, a_noP, a_slV, a_oT, a_oV, a_yesT, a_andT, a_orT, a_notT, a_ifV, a_orV, a_andV, a_notV, a_xS, a_rtS, a_ifS, a_asS, a_anS, a_skS, a_raS, a_frS, a_frz, a_m1, a_lmA, a_stS, a_onN, a_rtO, a_prS, a_ch3, a_lcN, a_tupGx, a_colGx, a_anyGx, bnd, bS, sqS, cst, vr, vrF, setR, caN, caM, splitA, okR, cmV, cmT, eqG, neG, dof, lof, tof, slG, inP, tupG, lstG, lstN, allD, dOf, lenG, ltOf, addG, subG, mulG, negG, intG, truT, truG, itG, appG, popG, rootOf, putR, agS, addI, tpG, conG, nilG, lsG, listG, tupleG, seqOf, za, zb, h2a, h2b, h3, wh]
  by_cases w : wh a = wh b
  · have eR : withB a b = decide ((parts a).take (parts b).length = parts b) := by unfold withB; rw [if_pos w]
    rw [decide_eq_true w] at s1
    have k1 := rows_of [a, b] (fun x hx => by simp at hx; rcases hx with rfl | rfl <;> assumption) (by simp) [4] ⟨[some (.fro (txt a)), some (.fro (txt b)), none, none, none, none], hs⟩ (fun x => ⟨[some (.fro (txt a)), some (.fro (txt b)), none, none, some (.fro (txt x)), none], hs⟩) (fun x => by simp [setR]) (fun x => by simp [vr]) (fun x => by simp [wipE]) (fun x => by simp [wipE]) (fun x y => by simp [setR]) (fun x y => by simp [vr]) (fun x y => by simp [wipE]) (fun x => by simp [reE, froOf])
    have w4 : wipE [4] ⟨[some (.fro (txt a)), some (.fro (txt b)), none, none, none, none], hs⟩ = ⟨[some (.fro (txt a)), some (.fro (txt b)), none, none, none, none], hs⟩ := by simp [wipE]
    have r4 : reE [4] ⟨[some (.fro (txt a)), some (.fro (txt b)), none, none, none, none], hs⟩ ⟨[some (.fro (txt a)), some (.fro (txt b)), none, none, none, none], hs⟩ = ⟨[some (.fro (txt a)), some (.fro (txt b)), none, none, none, none], hs⟩ := by simp [reE, froOf]
    have z2 : (2 : Nat) ≤ sizeLine := by decide
    have it0 : bnd (bnd (conA (vr 0) (conA (vr 1) nilA)) tupG) itG ⟨[some (.fro (txt a)), some (.fro (txt b)), none, none, none, none], hs⟩ = .ok ([a, b].map fun x => R.d (tx x)) ⟨[some (.fro (txt a)), some (.fro (txt b)), none, none, none, none], hs⟩ := by
      simp [a_conA, a_nilA, bnd, vr, cst, tupG, allD, dOf, z2, itG]
    have s2 : asS (frz (lcN [4] (bnd (bnd (conA (vr 0) (conA (vr 1) nilA)) tupG) itG) (setR 4) yesT (frz (lcN [5] (bnd (m1 (vr 4) (cst (txt [47])) (splitG)) itG) (setR 5) (b2 (vr 5) (bnd (conA (cst (txt [])) (conA (cst (txt [46])) nilA)) lstG) (cmT (inG true))) (vr 5))))) (lsG 2 (conG (setR 2) (conG (setR 3) nilG))) ⟨[some (.fro (txt a)), some (.fro (txt b)), none, none, none, none], hs⟩ = .nx ⟨[some (.fro (txt a)), some (.fro (txt b)), some (.fro (.d (.list (DL (parts a))))), some (.fro (.d (.list (DL (parts b))))), none, none], hs⟩ := by
      refine asS_of (x := .d (.list (RL [parts a, parts b]))) (e1 := ⟨[some (.fro (txt a)), some (.fro (txt b)), none, none, none, none], hs⟩) ?_ (by simp [lsG, lof, RL, conG, nilG, setR])
      exact lcF_of it0 (by rw [w4]; exact k1) r4
    have ct := cut_to (DL (parts a)) (parts b).length
    rw [dl_take] at ct
    have o1 := sh_list (L := (parts a).take (parts b).length) (fun x hx => oc_parts oa x (List.mem_of_mem_take hx))
    have o2 := sh_list (oc_parts ob)
    have s3 : b2 (slV (vr 2) noP (bnd (bnd (conA (vr 3) nilA) lenG) inP)) (vr 3) (cmV (eqG)) ⟨[some (.fro (txt a)), some (.fro (txt b)), some (.fro (.d (.list (DL (parts a))))), some (.fro (.d (.list (DL (parts b))))), none, none], hs⟩ = .ok (.d (.bool (withB a b))) ⟨[some (.fro (txt a)), some (.fro (txt b)), some (.fro (.d (.list (DL (parts a))))), some (.fro (.d (.list (DL (parts b))))), none, none], hs⟩ := by
      rw [eR]
      simp [a_b2, a_slV, a_noP, a_conA, a_nilA, bnd, vr, cst, lenG, lof, inP, slG, ct, cmV, eqG, dof, o1, o2]
    exact mOf_ret (f := f__law_within) (sqS_of (ifS_F s1 rfl) (sqS_of s2 (sqS_ret (rtS_of s3))))
  · have eR : withB a b = false := by unfold withB; rw [if_neg w]
    rw [decide_eq_false w] at s1
    rw [eR]
    exact mOf_ret (f := f__law_within) (sqS_ret (ifS_T s1 (sqS_ret (rtS_of (x := .bool false) (e1 := ⟨[some (.fro (txt a)), some (.fro (txt b)), none, none, none, none], hs⟩) (by rfl)))))
/-- how deep -/
def depI (x : List Nat) : Int := if x = dd then -1 else 1
def depL (L : List (List Nat)) : Int := (L.map depI).sum
theorem ints_map {α : Type} (f : α → Int) : ∀ L : List α, intsOf (L.map fun x => PyData.int (f x)) = some (L.map f)
  | [] => rfl
  | x :: L => by
    rw [List.map_cons, List.map_cons]
    simp [intsOf, ints_map f L]
theorem s_depth {p : List Nat} (hp : Pw p) (h1 : Pw (plainL p)) (hs : List Ob) : m_depth_of [txt p] hs = .ok (.d (.int (depL (parts (plainL p))))) ⟨[], hs⟩ := by
  have a1 := s_made hp []
  have a2 := s_parts h1 []
  have e0 : inE 2 [txt p] hs = ⟨[some (.fro (txt p)), none], hs⟩ := by simp [inE]
  have cn : (parts (plainL p)).length ≤ 1000 := by
    have := parts_len (plainL p)
    have h2 := sum_ge (parts (plainL p))
    have h3 := h1.le
    omega
  have it0 : bnd (bnd (conA (bnd (conA (vr 0) nilA) (caN 1 m_made_plain)) nilA) (caN 1 m_parts_of)) itG ⟨[some (.fro (txt p)), none], hs⟩ = .ok ((parts (plainL p)).map fun x => R.d (tx x)) ⟨[some (.fro (txt p)), none], hs⟩ := by
    simp [a_conA, a_nilA, bnd, vr, cst, caN, caM, splitA, okR, a1, a2, itG, it_dl]
  have key := lcL_gen (vs := [1]) (t := setR 1) (tc := yesT) (fe := intF (ifV (b2 (vr 1) (cst (txt [46, 46])) (cmT (eqG))) (b2 (cst (.d (.int 0))) (cst (.d (.int 1))) subG) (cst (.d (.int 1))))) (fun x => R.d (tx x)) (fun _ => true) (fun x => .int (depI x)) ⟨[some (.fro (txt p)), none], hs⟩ (parts (plainL p)) (fun x hx => by
    have ox := oc_parts h1.oc x hx
    refine ⟨⟨[some (.fro (txt p)), some (.fro (txt x))], hs⟩, by simp [setR], .inl ⟨rfl, ⟨[some (.fro (txt p)), some (.fro (txt x))], hs⟩, ⟨[some (.fro (txt p)), some (.fro (txt x))], hs⟩, rfl, ?_, by simp [wipE]⟩⟩
    by_cases h : x = dd
    · simp [intF, a_ifV, a_b2, bnd, vr, cst, cmT, eqG, dof, sh_tx ox, sh_tx oc_dd, h, subG, depI]
    · simp [intF, a_ifV, a_b2, bnd, vr, cst, cmT, eqG, dof, sh_tx ox, sh_tx oc_dd, h, subG, depI]) [] (by simp; exact small (by omega))
  rw [List.nil_append, List.filter_eq_self.mpr fun _ _ => rfl] at key
  have w1 : wipE [1] ⟨[some (.fro (txt p)), none], hs⟩ = ⟨[some (.fro (txt p)), none], hs⟩ := by simp [wipE]
  have r1 : reE [1] ⟨[some (.fro (txt p)), none], hs⟩ ⟨[some (.fro (txt p)), none], hs⟩ = ⟨[some (.fro (txt p)), none], hs⟩ := by simp [reE, froOf]
  refine mOf_ret (f := f_depth_of) (e := ⟨[some (.fro (txt p)), none], hs⟩) (sqS_ret (rtS_of ?_))
  rw [e0]
  unfold sumGx
  rw [colG_of it0 (by rw [w1]; exact key) r1]
  simp only [ints_map]
  rfl
/-- .. as the law counts -/
def lawDep (l : List Nat) : Int := (((sp l).filter fun x => decide (¬ x ∈ ([[], [46], dd] : List (List Nat)))).length : Int) - ((sp l).count dd : Int)
theorem dep_gen : ∀ L : List (List Nat), depL (L.filter nm) = ((L.filter fun x => decide (¬ x ∈ ([[], [46], dd] : List (List Nat)))).length : Int) - (L.count dd : Int)
  | [] => rfl
  | x :: L => by
    have ih := dep_gen L
    by_cases hn : nm x = true
    · obtain ⟨h1, h2⟩ := nm_iff.mp hn
      rw [List.filter_cons_of_pos hn]
      have e1 : depL (x :: L.filter nm) = depI x + depL (L.filter nm) := by simp [depL]
      rw [e1, ih]
      by_cases h3 : x = dd
      · subst h3
        rw [List.filter_cons_of_neg (by simp), List.count_cons_self]
        simp only [depI, if_true]
        omega
      · rw [List.filter_cons_of_pos (by simp [h1, h2, h3]), List.count_cons_of_ne h3]
        simp only [depI, h3, if_false, List.length_cons]
        omega
    · have hn' : nm x = false := by simpa using hn
      have hm := not_nm hn'
      have nd : x ≠ dd := fun z => by subst z; revert hn'; decide
      rw [List.filter_cons_of_neg hn, ih, List.count_cons_of_ne nd]
      congr 2
      rw [List.filter_cons_of_neg]
      rcases List.mem_cons.mp hm with z | z
      · simp [z]
      · simp [List.mem_singleton.mp z]
theorem dep_law (l : List Nat) : depL (parts l) = lawDep l := dep_gen (sp l)
end K1

set_option Elab.async false
set_option linter.all false
set_option maxRecDepth 100000
set_option maxHeartbeats 1000000
namespace K1
open PySem L2 Ev PySem.W PyProof.Rows
abbrev ky (x : List Nat) : Key := .inr (sOf x)
def keyAdd (a : List (List Nat)) (x : List Nat) : List (List Nat) := if x ∈ a then a else a ++ [x]
def keysL (L : List (List Nat)) : List (List Nat) := L.foldl keyAdd []
theorem keyAdd_mem {a : List (List Nat)} {x y : List Nat} (h : y ∈ keyAdd a x) : y ∈ a ∨ y = x := by
  unfold keyAdd at h
  split at h
  · exact .inl h
  · simpa using h
theorem keys_mem : ∀ (L a : List (List Nat)) {y : List Nat}, y ∈ L.foldl keyAdd a → y ∈ a ∨ y ∈ L
  | [], a, y, h => .inl h
  | x :: L, a, y, h => by
    rcases keys_mem L _ h with h | h
    · rcases keyAdd_mem h with h | h
      · exact .inl h
      · exact .inr (by rw [h]; exact List.mem_cons_self)
    · exact .inr (List.mem_cons_of_mem _ h)
theorem keysL_mem {L : List (List Nat)} {y : List Nat} (h : y ∈ keysL L) : y ∈ L := (keys_mem L [] h).resolve_left (by simp)
theorem keyAdd_len (a : List (List Nat)) (x : List Nat) : (keyAdd a x).length ≤ a.length + 1 := by
  unfold keyAdd
  split
  · omega
  · simp
theorem keys_len : ∀ (L a : List (List Nat)), (L.foldl keyAdd a).length ≤ a.length + L.length
  | [], a => by simp
  | x :: L, a => by
    have := keys_len L (keyAdd a x)
    have := keyAdd_len a x
    simp only [List.foldl_cons, List.length_cons]; omega
theorem put_in {a : List (Key × Dt)} {k : Key} (v : Dt) (h : k ∈ a.map (·.1)) : (putD a k v).map (·.1) = a.map (·.1) := by
  unfold putD
  obtain ⟨kv, h1, h2⟩ := List.mem_map.mp h
  have e : (a.any fun kv => decide (kv.1 = k)) = true := List.any_eq_true.mpr ⟨kv, h1, by simpa using h2⟩
  rw [if_pos e, List.map_map]
  refine List.map_congr_left fun kv _ => ?_
  simp only [Function.comp]
  split <;> rfl
theorem put_out {a : List (Key × Dt)} {k : Key} (v : Dt) (h : ¬ k ∈ a.map (·.1)) : (putD a k v).map (·.1) = a.map (·.1) ++ [k] := by
  unfold putD
  have e : ¬ (a.any fun kv => decide (kv.1 = k)) = true := fun z => by
    obtain ⟨kv, h1, h2⟩ := List.any_eq_true.mp z
    exact h (List.mem_map.mpr ⟨kv, h1, by simpa using h2⟩)
  rw [if_neg e, List.map_append]; rfl
theorem ky_inj {x y : List Nat} : ky x = ky y ↔ x = y := by
  constructor
  · intro h
    exact sOf_inj.mp (Sum.inr.inj h)
  · rintro rfl; rfl
theorem put_keysL {a : List (Key × Dt)} {A : List (List Nat)} (h : a.map (·.1) = A.map ky) (x : List Nat) (v : Dt) : (putD a (ky x) v).map (·.1) = (keyAdd A x).map ky := by
  unfold keyAdd
  have e : ky x ∈ A.map ky ↔ x ∈ A := by
    constructor
    · intro z
      obtain ⟨y, h1, h2⟩ := List.mem_map.mp z
      rw [← ky_inj.mp h2]; exact h1
    · exact fun z => List.mem_map.mpr ⟨x, z, rfl⟩
  by_cases m : x ∈ A
  · rw [if_pos m, put_in v (by rw [h]; exact e.mpr m), h]
  · rw [if_neg m, put_out v (by rw [h]; exact fun z => m (e.mp z)), h, List.map_append]; rfl
theorem fold_keys {α : Type} (f : α → List Nat) (v : α → Dt) : ∀ (L : List α) (a : List (Key × Dt)) (A : List (List Nat)), a.map (·.1) = A.map ky → (L.foldl (fun a x => putD a (ky (f x)) (v x)) a).map (·.1) = ((L.map f).foldl keyAdd A).map ky
  | [], a, A, h => h
  | x :: L, a, A, h => fold_keys f v L _ _ (put_keysL h (f x) (v x))
theorem putD_len (a : List (Key × Dt)) (k : Key) (v : Dt) : (putD a k v).length ≤ a.length + 1 := by
  unfold putD
  split
  · simp
  · simp
theorem dcL_gen {α : Type} {vs : List Nat} {t : R → Ev.Env → Option Ev.Env} {tc : Ev.Env → Rs Bool} {fk fv : Ev.Env → Rs R} (mk : α → R) (f : α → List Nat) (v : α → Dt) (e : Ev.Env) : ∀ (L : List α),
    (∀ x ∈ L, ∃ e1 e2 e3 e4, t (mk x) e = some e1 ∧ tc e1 = .ok true e2 ∧ fk e2 = .ok (txt (f x)) e3 ∧ fv e3 = .ok (.d (v x)) e4 ∧ wipE vs e4 = e) →
    ∀ acc, acc.length + L.length ≤ sizeLine → dcL vs t tc fk fv (L.map mk) acc e = .ok (L.foldl (fun a x => putD a (ky (f x)) (v x)) acc) e
  | [], _, acc, _ => by simp [dcL]
  | x :: L, h, acc, hz => by
    obtain ⟨e1, e2, e3, e4, h1, h2, h3, h4, h5⟩ := h x List.mem_cons_self
    rw [List.length_cons] at hz
    have pl := putD_len acc (ky (f x)) (v x)
    have ih := dcL_gen mk f v e L (fun y hy => h y (List.mem_cons_of_mem _ hy)) (putD acc (ky (f x)) (v x)) (by omega)
    rw [List.map_cons]
    unfold dcL
    rw [h1]
    dsimp only
    rw [h2]
    dsimp only
    rw [h3]
    dsimp only [keyR]
    rw [h4]
    dsimp only
    rw [if_pos (by omega), h5]
    exact ih
theorem keys_D {a : List (Key × Dt)} {A : List (List Nat)} (h : a.map (·.1) = A.map ky) : a.map (fun kv => keyD kv.1) = DL A := by
  have : a.map (fun kv => keyD kv.1) = (a.map (·.1)).map keyD := by rw [List.map_map]; rfl
  rw [this, h, List.map_map]; rfl
/-! ### the rows in turn -/
def rowD (x : List Nat) : Dt := .tuple [.bool (!wh x), .tuple (DL (parts x)), tx x]
theorem alike_dl : ∀ L M : List (List Nat), alikeAll (DL L) (DL M) = true
  | [], _ => by simp [alikeAll]
  | _ :: _, [] => by simp [alikeAll]
  | x :: L, y :: M => by rw [dl_cons, dl_cons, alikeAll, alike_dl L M]; rfl
theorem alike_row (x y : List Nat) : alike (rowD x) (rowD y) = true := by
  unfold rowD
  simp [alike, alikeAll, alike_dl]
theorem dep_row (x : List Nat) : PyData.depth (rowD x) ≤ 50 := by
  have := dep_dl (parts x)
  unfold rowD
  simp only [PyData.depth, PyData.depthAll]
  omega
theorem srt_row {Ks : List (List Nat)} (h : Ks.length ≤ 1000) : srtB (Ks.map rowD) = true := by
  unfold srtB
  have h1 : ((Ks.map rowD).all fun d => (Ks.map rowD).all fun d' => alike d d') = true := by
    refine List.all_eq_true.mpr fun d hd => List.all_eq_true.mpr fun d' hd' => ?_
    obtain ⟨x, _, rfl⟩ := List.mem_map.mp hd
    obtain ⟨y, _, rfl⟩ := List.mem_map.mp hd'
    exact alike_row x y
  have h2 : (Ks.map rowD).all tupB = true := List.all_eq_true.mpr fun d hd => by
    obtain ⟨x, _, rfl⟩ := List.mem_map.mp hd
    rfl
  have h3 : ((Ks.map rowD).all fun d => decide (d.depth ≤ 50)) = true := List.all_eq_true.mpr fun d hd => by
    obtain ⟨x, _, rfl⟩ := List.mem_map.mp hd
    exact decide_eq_true (dep_row x)
  have h4 : (Ks.map rowD).length ≤ sizeLine := by rw [List.length_map]; exact small (by omega)
  rw [h1, h2, h3, decide_eq_true h4]; rfl
theorem back_rows {Ks : List (List Nat)} : ∀ l : List Dt, (∀ y ∈ l, y ∈ Ks.map rowD) → ∃ K2 : List (List Nat), l = K2.map rowD ∧ ∀ x ∈ K2, x ∈ Ks
  | [], _ => ⟨[], rfl, by simp⟩
  | y :: l, h => by
    obtain ⟨x, h1, h2⟩ := List.mem_map.mp (h y List.mem_cons_self)
    obtain ⟨K2, h3, h4⟩ := back_rows l fun z hz => h z (List.mem_cons_of_mem _ hz)
    refine ⟨x :: K2, by rw [List.map_cons, h2, h3], fun z hz => ?_⟩
    rcases List.mem_cons.mp hz with rfl | hz
    · exact h1
    · exact h4 z hz
theorem due_ex (Ks : List (List Nat)) : ∃ K2 : List (List Nat), srtD (Ks.map rowD) = K2.map rowD ∧ ∀ x ∈ K2, x ∈ Ks := back_rows _ fun y hy => by
  have := List.mem_mergeSort.mp hy
  exact this
noncomputable def dueL (Ks : List (List Nat)) : List (List Nat) := Classical.choose (due_ex Ks)
theorem due_eq (Ks : List (List Nat)) : srtD (Ks.map rowD) = (dueL Ks).map rowD := (Classical.choose_spec (due_ex Ks)).1
theorem due_mem {Ks : List (List Nat)} {x : List Nat} (h : x ∈ dueL Ks) : x ∈ Ks := (Classical.choose_spec (due_ex Ks)).2 x h
theorem due_len (Ks : List (List Nat)) : (dueL Ks).length = Ks.length := by
  have h := congrArg List.length (due_eq Ks)
  simp only [List.length_mergeSort, List.length_map] at h
  exact h.symm
theorem atI_2 (a b c : Dt) : atI [a, b, c] 2 = some c := by rfl
theorem s_in_turn {P : List (List Nat)} {X : Dt} (hX : X = .list (DL P) ∨ X = .tuple (DL P)) (hP : ∀ p ∈ P, Pw p ∧ Pw (plainL p)) (hz : P.length ≤ 1000) (hs : List Ob) : m_in_turn [.d X] hs = .ok (.d (.tuple (DL (dueL (keysL (P.map plainL)))))) ⟨[], hs⟩ := by
  have hit : ∀ e : Ev.Env, itG (.d X) e = .ok (P.map fun x => R.d (tx x)) e := fun e => by
    rcases hX with rfl | rfl <;> simp only [itG, it_dl]
  have e0 : inE 5 [.d X] hs = ⟨[some (.fro (.d X)), none, none, none, none], hs⟩ := by simp [inE]
  have h1 := dcL_gen (vs := [3]) (t := setR 3) (tc := yesT) (fk := bnd (conA (vr 3) nilA) (caN 1 m_made_plain)) (fv := cst (.d (.bool true))) (fun x => R.d (tx x)) plainL (fun _ => .bool true) ⟨[some (.fro (.d X)), none, none, none, none], hs⟩ P (fun p hp => by
    have a1 := s_made (hP p hp).1 []
    refine ⟨⟨[some (.fro (.d X)), none, none, some (.fro (txt p)), none], hs⟩, ⟨[some (.fro (.d X)), none, none, some (.fro (txt p)), none], hs⟩, ⟨[some (.fro (.d X)), none, none, some (.fro (txt p)), none], hs⟩, ⟨[some (.fro (.d X)), none, none, some (.fro (txt p)), none], hs⟩, by simp [setR], rfl, ?_, rfl, by simp [wipE]⟩
    simp [a_conA, a_nilA, bnd, vr, cst, caN, caM, splitA, okR, a1]) [] (by simp; exact small (by omega))
  generalize hkv : P.foldl (fun a x => putD a (ky (plainL x)) (.bool true)) [] = kvs at h1
  have hk : kvs.map (·.1) = (keysL (P.map plainL)).map ky := by rw [← hkv]; exact fold_keys plainL _ P [] [] rfl
  have hkd := keys_D hk
  have kl := keys_len (P.map plainL) []
  have kl2 : (keysL (P.map plainL)).length ≤ 1000 := by unfold keysL; simp at kl; omega
  have km : ∀ x ∈ keysL (P.map plainL), Pw x := fun x hx => by
    obtain ⟨p, hp, rfl⟩ := List.mem_map.mp (keysL_mem hx)
    exact (hP p hp).2
  generalize keysL (P.map plainL) = Ks at hk hkd kl kl2 km
  have w3 : ∀ s1 : Option SV, wipE [3] ⟨[some (.fro (.d X)), s1, none, none, none], hs⟩ = ⟨[some (.fro (.d X)), s1, none, none, none], hs⟩ := fun s1 => by simp [wipE]
  have r3 : reE [3] ⟨[some (.fro (.d X)), none, none, none, none], hs⟩ ⟨[some (.fro (.d X)), none, none, none, none], hs⟩ = ⟨[some (.fro (.d X)), none, none, none, none], hs⟩ := by simp [reE, froOf]
  have s1 : anS 1 (dcN [3] (bnd (vr 0) itG) (setR 3) yesT (bnd (conA (vr 3) nilA) (caN 1 m_made_plain)) (cst (.d (.bool true)))) (inE 5 [.d X] hs) = .nx ⟨[some (.fro (.d X)), some (.own (.dic kvs)), none, none, none], hs⟩ := by
    have hv : (vr 0) ⟨[some (.fro (.d X)), none, none, none, none], hs⟩ = .ok (.d X) ⟨[some (.fro (.d X)), none, none, none, none], hs⟩ := rfl
    rw [e0, a_anS]
    unfold bS dcN
    rw [bnd_of (bnd_of hv |>.trans (hit _))]
    rw [w3, h1]
    dsimp only
    rw [r3]
    simp
  have h2 := lcL_gen (vs := [3]) (t := setR 3) (tc := yesT) (fe := bnd (conA (notV (bnd (conA (vr 3) nilA) (caN 1 m_is_whole))) (conA (bnd (conA (vr 3) nilA) (caN 1 m_parts_of)) (conA (vr 3) nilA))) tupG) (fun x => R.d (tx x)) (fun _ => true) rowD ⟨[some (.fro (.d X)), none, none, none, none], hs⟩ Ks (fun x hx => by
    have px := km x hx
    have a1 := s_whole px.sz px.oc []
    have a2 := s_parts px []
    have z : (3 : Nat) ≤ sizeLine := by decide
    refine ⟨⟨[some (.fro (.d X)), none, none, some (.fro (txt x)), none], hs⟩, by simp [setR], .inl ⟨rfl, ⟨[some (.fro (.d X)), none, none, some (.fro (txt x)), none], hs⟩, ⟨[some (.fro (.d X)), none, none, some (.fro (txt x)), none], hs⟩, rfl, ?_, by simp [wipE]⟩⟩
    simp [a_conA, a_nilA, a_notV, bnd, vr, cst, caN, caM, splitA, okR, a1, a2, truG, tupG, allD, dOf, z, rowD]) [] (by simp; exact small (by omega))
  rw [List.nil_append, List.filter_eq_self.mpr fun _ _ => rfl] at h2
  have dk : dkF 1 ⟨[some (.fro (.d X)), some (.own (.dic kvs)), none, none, none], hs⟩ = .ok (Ks.map fun x => R.d (tx x)) ⟨[some (.fro (.d X)), none, none, none, none], hs⟩ := by
    have : kvs.map (fun kv => R.d (keyD kv.1)) = Ks.map fun x => R.d (tx x) := by
      have h := congrArg (List.map R.d) hkd
      rw [List.map_map, it_dl] at h
      exact h
    simp [dkF, this]
  have s2 : asS (srtGx [3] (dkF 1) (setR 3) yesT (bnd (conA (notV (bnd (conA (vr 3) nilA) (caN 1 m_is_whole))) (conA (bnd (conA (vr 3) nilA) (caN 1 m_parts_of)) (conA (vr 3) nilA))) tupG)) (setR 2) ⟨[some (.fro (.d X)), some (.own (.dic kvs)), none, none, none], hs⟩ = .nx ⟨[some (.fro (.d X)), none, some (.fro (.d (.list ((dueL Ks).map rowD)))), none, none], hs⟩ := by
    refine asS_of (x := .d (.list ((dueL Ks).map rowD))) (e1 := ⟨[some (.fro (.d X)), none, none, none, none], hs⟩) ?_ (by simp [setR])
    unfold srtGx
    rw [colG_of dk (by rw [w3]; exact h2) r3, if_pos (srt_row kl2), due_eq]
  have h3 := lcL_gen (vs := [4]) (t := setR 4) (tc := yesT) (fe := b2 (vr 4) (cst (.d (.int 2))) ixG) (fun x => R.d (rowD x)) (fun _ => true) (fun x => tx x) ⟨[some (.fro (.d X)), none, some (.fro (.d (.list ((dueL Ks).map rowD)))), none, none], hs⟩ (dueL Ks) (fun x hx => by
    refine ⟨⟨[some (.fro (.d X)), none, some (.fro (.d (.list ((dueL Ks).map rowD)))), none, some (.fro (.d (rowD x)))], hs⟩, by simp [setR], .inl ⟨rfl, ⟨[some (.fro (.d X)), none, some (.fro (.d (.list ((dueL Ks).map rowD)))), none, some (.fro (.d (rowD x)))], hs⟩, ⟨[some (.fro (.d X)), none, some (.fro (.d (.list ((dueL Ks).map rowD)))), none, some (.fro (.d (rowD x)))], hs⟩, rfl, ?_, by simp [wipE]⟩⟩
    simp [a_b2, bnd, vr, cst, ixG, lof, tof, rowD, atI_2]) [] (by simp [due_len]; exact small (by omega))
  rw [List.nil_append, List.filter_eq_self.mpr fun _ _ => rfl] at h3
  have w4 : wipE [4] ⟨[some (.fro (.d X)), none, some (.fro (.d (.list ((dueL Ks).map rowD)))), none, none], hs⟩ = ⟨[some (.fro (.d X)), none, some (.fro (.d (.list ((dueL Ks).map rowD)))), none, none], hs⟩ := by simp [wipE]
  have r4 : reE [4] ⟨[some (.fro (.d X)), none, some (.fro (.d (.list ((dueL Ks).map rowD)))), none, none], hs⟩ ⟨[some (.fro (.d X)), none, some (.fro (.d (.list ((dueL Ks).map rowD)))), none, none], hs⟩ = ⟨[some (.fro (.d X)), none, some (.fro (.d (.list ((dueL Ks).map rowD)))), none, none], hs⟩ := by simp [reE, froOf]
  have s3 : tupGx [4] (bnd (vr 2) itG) (setR 4) yesT (b2 (vr 4) (cst (.d (.int 2))) ixG) ⟨[some (.fro (.d X)), none, some (.fro (.d (.list ((dueL Ks).map rowD)))), none, none], hs⟩ = .ok (.d (.tuple (DL (dueL Ks)))) ⟨[some (.fro (.d X)), none, some (.fro (.d (.list ((dueL Ks).map rowD)))), none, none], hs⟩ := by
    refine tupG_of (rs := (dueL Ks).map fun x => R.d (rowD x)) (e1 := ⟨[some (.fro (.d X)), none, some (.fro (.d (.list ((dueL Ks).map rowD)))), none, none], hs⟩) ?_ (by rw [w4]; exact h3) r4
    simp [bnd, vr, itG]
  exact mOf_ret (f := f_in_turn) (sqS_of s1 (sqS_of s2 (sqS_ret (rtS_of s3))))
end K1

set_option Elab.async false
set_option linter.all false
set_option maxRecDepth 100000
set_option maxHeartbeats 1000000
namespace K1
open PySem L2 Ev Dc
/-! ### what is drawn -/
abbrev signsD : List Nat := [97, 98, 99, 46, 100, 101, 47]
structure Dp (l : List Nat) : Prop where
  nn : l ≠ []
  le : l.length ≤ 20
  ch : ∀ c ∈ l, c ∈ signsD
theorem Dp.oc {l : List Nat} (h : Dp l) : Oc l := fun c hc => by
  have := h.ch c hc
  simp at this
  omega
theorem Dp.pw {l : List Nat} (h : Dp l) : Pw l := ⟨List.length_pos_iff.mpr h.nn, by have := h.le; omega, h.oc⟩
theorem Dp.pl {l : List Nat} (h : Dp l) : Pw (plainL l) := pw_plain h.pw (by have := h.le; omega)
abbrev poolN : List (List Nat) := [[97], [98], [99, 46, 100], [46], [46, 46], [46, 101], []]
theorem ix_pool {L : List (List Nat)} {v : Int} (h0 : 0 ≤ v) (h1 : v < L.length) (e : Ev.Env) : ∃ x ∈ L, ixG (.d (.list (DL L))) (.d (.int v)) e = .ok (txt x) e := by
  obtain ⟨k, rfl⟩ : ∃ k : Nat, v = k := ⟨v.toNat, by omega⟩
  have hk : k < L.length := by omega
  refine ⟨L[k], List.getElem_mem hk, ?_⟩
  simp only [ixG, lof, at_nat L k hk]
theorem texts_of {ds : List Dt} {S : List (List Nat)} : (∀ d ∈ ds, ∃ x ∈ S, d = tx x) → ∃ L : List (List Nat), ds = DL L ∧ (∀ x ∈ L, x ∈ S) := by
  induction ds with
  | nil => exact fun _ => ⟨[], rfl, by simp⟩
  | cons d ds ih =>
    intro h
    obtain ⟨x, h1, rfl⟩ := h d List.mem_cons_self
    obtain ⟨L, rfl, h2⟩ := ih fun y hy => h y (List.mem_cons_of_mem _ hy)
    exact ⟨x :: L, rfl, fun y hy => by
      rcases List.mem_cons.mp hy with rfl | hy
      · exact h1
      · exact h2 y hy⟩
theorem pool_len {L : List (List Nat)} (h : ∀ x ∈ L, x ∈ poolN) : szL L ≤ 4 * L.length := by
  induction L with
  | nil => simp [szL]
  | cons x L ih =>
    have i := ih fun y hy => h y (List.mem_cons_of_mem _ hy)
    have hx := h x List.mem_cons_self
    have : x.length ≤ 3 := by
      simp at hx
      rcases hx with rfl | rfl | rfl | rfl | rfl | rfl | rfl <;> simp
    simp only [szL, List.map_cons, List.sum_cons, List.length_cons] at i ⊢
    omega
theorem jn_szL1 {L : List (List Nat)} (h : L ≠ []) : (jn L).length + 1 ≤ szL L := by
  rcases jn_len L with z | z
  · unfold szL; omega
  · exact absurd z h
abbrev E4 (a b c : Int) (s1 s2 : Option SV) : Ev.Env := ⟨[some (.fro (.hnd 0)), s1, s2, none], [DO a b c]⟩
theorem s_drawn (a b c : Int) : ∃ p a' b' c', Dp p ∧ m__law_drawn [.hnd 0] [DO a b c] = .ok (txt p) ⟨[], [DO a' b' c']⟩ := by
  have e0 : inE 4 [.hnd 0] [DO a b c] = E4 a b c none none := by simp [inE]
  -- how many names
  obtain ⟨n, a1, b1, c1, n0, n5, hn⟩ := rollE a b c 5 (r := .hnd 0) (fd := vr 0) (e := E4 a b c none none) (.inr ⟨0, rfl⟩) rfl rfl (by decide) (by decide)
  have eq1 : putR (E4 a b c none none) (.hnd 0) (DO a1 b1 c1) = E4 a1 b1 c1 none none := rfl
  rw [eq1] at hn
  have hr : bnd (conA (b2 (cst (.d (.int 1))) (bnd (conA (vr 0) (conA (cst (.d (.int 5))) nilA)) (caN 2 m__law_roll)) addG) nilA) rgG (E4 a b c none none) = .ok ((List.range (n.toNat + 1)).map fun (k : Nat) => R.d (.int (0 + (k : Int)))) (E4 a1 b1 c1 none none) := by
    have h1 : b2 (cst (.d (.int 1))) (bnd (conA (vr 0) (conA (cst (.d (.int 5))) nilA)) (caN 2 m__law_roll)) addG (E4 a b c none none) = .ok (.d (.int ((n.toNat + 1 : Nat) : Int))) (E4 a1 b1 c1 none none) := by
      rw [b2_of (cst_ok _ _) hn]
      have : (1 : Int) + n = ((n.toNat + 1 : Nat) : Int) := by omega
      rw [← this]; rfl
    rw [bnd_of (one_of h1)]
    exact rg_of (by omega) _
  obtain ⟨ds, e2, k1, k2, k3, a2, b2', c2, rfl⟩ := lcL_draw (vs := [3]) (t := setR 3) (fe := b2 (bnd (conA (cst (txt [97])) (conA (cst (txt [98])) (conA (cst (txt [99, 46, 100])) (conA (cst (txt [46])) (conA (cst (txt [46, 46])) (conA (cst (txt [46, 101])) (conA (cst (txt [])) nilA))))))) lstG) (bnd (conA (vr 0) (conA (cst (.d (.int 7))) nilA)) (caN 2 m__law_roll)) ixG) (fun e => ∃ a b c, e = E4 a b c none none) (fun d => ∃ x ∈ poolN, d = tx x) ((List.range (n.toNat + 1)).map fun (k : Nat) => R.d (.int (0 + (k : Int)))) (fun r hr e ⟨a, b, c, he⟩ => by
    subst he
    obtain ⟨k, _, rfl⟩ := List.mem_map.mp hr
    obtain ⟨v, a', b', c', v0, v7, hv⟩ := rollE a b c 7 (r := .hnd 0) (fd := vr 0) (e := ⟨[some (.fro (.hnd 0)), none, none, some (.fro (.d (.int (0 + (k : Int)))))], [DO a b c]⟩) (.inr ⟨0, rfl⟩) rfl rfl (by decide) (by decide)
    have z7 : (7 : Nat) ≤ sizeLine := by decide
    have hl : bnd (conA (cst (txt [97])) (conA (cst (txt [98])) (conA (cst (txt [99, 46, 100])) (conA (cst (txt [46])) (conA (cst (txt [46, 46])) (conA (cst (txt [46, 101])) (conA (cst (txt [])) nilA))))))) lstG ⟨[some (.fro (.hnd 0)), none, none, some (.fro (.d (.int (0 + (k : Int)))))], [DO a b c]⟩ = .ok (.d (.list (DL poolN))) ⟨[some (.fro (.hnd 0)), none, none, some (.fro (.d (.int (0 + (k : Int)))))], [DO a b c]⟩ := by
      simp [a_conA, a_nilA, bnd, cst, lstG, allD, dOf, z7, DL]
    obtain ⟨x, hx, hix⟩ := ix_pool (L := poolN) v0 v7 (putR ⟨[some (.fro (.hnd 0)), none, none, some (.fro (.d (.int (0 + (k : Int)))))], [DO a b c]⟩ (.hnd 0) (DO a' b' c'))
    exact ⟨_, tx x, _, rfl, (b2_of hl hv).trans hix, ⟨x, hx, rfl⟩, a', b', c', rfl⟩) [] (E4 a1 b1 c1 none none) ⟨a1, b1, c1, rfl⟩ (by simp; exact small (by omega))
  obtain ⟨L, rfl, hL⟩ := texts_of k3
  rw [List.nil_append] at k1
  have Ll : L.length = n.toNat + 1 := by simpa using k2
  have s1 : asS (frz (lcN [3] (bnd (conA (b2 (cst (.d (.int 1))) (bnd (conA (vr 0) (conA (cst (.d (.int 5))) nilA)) (caN 2 m__law_roll)) addG) nilA) rgG) (setR 3) yesT (b2 (bnd (conA (cst (txt [97])) (conA (cst (txt [98])) (conA (cst (txt [99, 46, 100])) (conA (cst (txt [46])) (conA (cst (txt [46, 46])) (conA (cst (txt [46, 101])) (conA (cst (txt [])) nilA))))))) lstG) (bnd (conA (vr 0) (conA (cst (.d (.int 7))) nilA)) (caN 2 m__law_roll)) ixG))) (setR 1) (E4 a b c none none) = .nx (E4 a2 b2' c2 (some (.fro (.d (.list (DL L))))) none) :=
    asS_of (x := .d (.list (DL L))) (e1 := E4 a2 b2' c2 none none) (lcF_of hr (by rw [show wipE [3] (E4 a1 b1 c1 none none) = E4 a1 b1 c1 none none from rfl]; exact k1) rfl) rfl
  obtain ⟨v, a3, b3, c3, v0, v2, hv⟩ := rollE a2 b2' c2 2 (r := .hnd 0) (fd := vr 0) (e := E4 a2 b2' c2 (some (.fro (.d (.list (DL L))))) none) (.inr ⟨0, rfl⟩) rfl rfl (by decide) (by decide)
  have eq3 : putR (E4 a2 b2' c2 (some (.fro (.d (.list (DL L))))) none) (.hnd 0) (DO a3 b3 c3) = E4 a3 b3 c3 (some (.fro (.d (.list (DL L))))) none := rfl
  rw [eq3] at hv
  obtain ⟨x, hx, hix⟩ := ix_pool (L := [[], [47]]) v0 v2 (E4 a3 b3 c3 (some (.fro (.d (.list (DL L))))) none)
  have sz := pool_len hL
  have Lne : L ≠ [] := fun z => by rw [z] at Ll; simp at Ll
  have jl := jn_szL1 Lne
  have hj := fun e => e_joinL (L := L) (by omega) e
  have xl : x.length ≤ 1 := by simp at hx; rcases hx with rfl | rfl <;> simp
  have zp : x.length + (jn L).length ≤ sizeLine := small (by omega)
  have z2 : (2 : Nat) ≤ sizeLine := by decide
  have s2 : asS (b2 (b2 (bnd (conA (cst (txt [])) (conA (cst (txt [47])) nilA)) lstG) (bnd (conA (vr 0) (conA (cst (.d (.int 2))) nilA)) (caN 2 m__law_roll)) ixG) (m1 (cst (txt [47])) (vr 1) (joinG)) addG) (setR 2) (E4 a2 b2' c2 (some (.fro (.d (.list (DL L))))) none) = .nx (E4 a3 b3 c3 (some (.fro (.d (.list (DL L))))) (some (.fro (txt (x ++ jn L))))) := by
    have hl : bnd (conA (cst (txt [])) (conA (cst (txt [47])) nilA)) lstG (E4 a2 b2' c2 (some (.fro (.d (.list (DL L))))) none) = .ok (.d (.list (DL [[], [47]]))) (E4 a2 b2' c2 (some (.fro (.d (.list (DL L))))) none) := by
      simp [a_conA, a_nilA, bnd, cst, lstG, allD, dOf, z2]
    have hm : m1 (cst (txt [47])) (vr 1) (joinG) (E4 a3 b3 c3 (some (.fro (.d (.list (DL L))))) none) = .ok (txt (jn L)) (E4 a3 b3 c3 (some (.fro (.d (.list (DL L))))) none) := by
      rw [a_m1, bnd_of (cst_ok _ _)]
      dsimp only
      rw [bnd_of (show vr 1 (E4 a3 b3 c3 (some (.fro (.d (.list (DL L))))) none) = .ok (.d (.list (DL L))) _ from rfl)]
      exact hj _
    refine asS_of (x := txt (x ++ jn L)) (e1 := E4 a3 b3 c3 (some (.fro (.d (.list (DL L))))) none) ?_ rfl
    rw [b2_of ((b2_of hl hv).trans hix) hm]
    simp [addG, zp]
  have hc : ∀ c ∈ x ++ jn L, c ∈ signsD := fun c hc => by
    rcases List.mem_append.mp hc with h | h
    · simp at hx
      rcases hx with rfl | rfl
      · cases h
      · simp at h; subst h; decide
    · rcases jn_chars h with rfl | ⟨y, hy, h⟩
      · decide
      · have := hL y hy
        simp at this
        rcases this with rfl | rfl | rfl | rfl | rfl | rfl | rfl <;> simp at h <;> (try rcases h with rfl | rfl | rfl) <;> (try subst h) <;> simp
  have hoc : Oc (x ++ jn L) := fun c h => by have := hc c h; simp at this; omega
  have c3' : b2 (vr 2) (cst (txt [])) (cmT (neG)) (E4 a3 b3 c3 (some (.fro (.d (.list (DL L))))) (some (.fro (txt (x ++ jn L))))) = .ok (!decide (x ++ jn L = [])) (E4 a3 b3 c3 (some (.fro (.d (.list (DL L))))) (some (.fro (txt (x ++ jn L))))) := by
    rw [b2c_of (show vr 2 _ = .ok (txt (x ++ jn L)) _ from rfl)]
    simp only [cmT, neG, dof, sh_tx hoc, sh_tx oc_0, and_self, if_true, eqv_tx]
  by_cases h : x ++ jn L = []
  · rw [decide_eq_true h] at c3'
    refine ⟨[97], a3, b3, c3, ⟨by simp, by simp, by simp⟩, ?_⟩
    exact mOf_ret (f := f__law_drawn) (by rw [e0]; exact sqS_of s1 (sqS_of s2 (sqS_ret (rtS_of (x := .str (sOf [97])) (ifV_F c3' rfl)))))
  · rw [decide_eq_false h] at c3'
    refine ⟨x ++ jn L, a3, b3, c3, ⟨h, by rw [List.length_append]; omega, hc⟩, ?_⟩
    exact mOf_ret (f := f__law_drawn) (by rw [e0]; exact sqS_of s1 (sqS_of s2 (sqS_ret (rtS_of (x := .str (sOf (x ++ jn L))) (ifV_T c3' rfl)))))
end K1

set_option Elab.async false
set_option linter.all false
set_option maxRecDepth 100000
set_option maxHeartbeats 1000000
namespace K1
open PySem L2 Ev
/-! ### ends -/
def bL (l : List Nat) : List Nat := tl (Txt.lstripChars (sOf l) (sOf [46]))
def aheadE (l : List Nat) : Int := (l.length : Int) - ((bL l).length : Int)
def placeE (l : List Nat) : Int := Txt.rfind (sOf (bL l)) (sOf [46])
def endsL (l : List Nat) : List Nat × List Nat := if placeE l < 0 then (l, []) else (cutA l none (some (aheadE l + placeE l)), cutA l (some (aheadE l + placeE l)) none)
def spotE (l : List Nat) : Int := Txt.rfind (sOf l) (sOf [46])
def lawE (l : List Nat) : List Nat × List Nat := if spotE l < aheadE l then (l, []) else (cutA l none (some (spotE l)), cutA l (some (spotE l)) none)
def namesE : Nat → List (List Nat)
  | 0 => [[]]
  | n + 1 => (namesE n).flatMap fun l => [46 :: l, 97 :: l, 98 :: l]
def okE (l : List Nat) : Bool := decide (endsL l = lawE l ∧ (endsL l).1 ++ (endsL l).2 = l)
theorem okE_all : (namesE 1).all okE = true ∧ (namesE 2).all okE = true ∧ (namesE 3).all okE = true ∧ (namesE 4).all okE = true ∧ (namesE 5).all okE = true ∧ (namesE 6).all okE = true := by decide +kernel
theorem mem_namesE : ∀ {l : List Nat}, (∀ c ∈ l, c ∈ ([46, 97, 98] : List Nat)) → l ∈ namesE l.length
  | [], _ => by simp [namesE]
  | c :: l, h => by
    have ih := mem_namesE fun x hx => h x (List.mem_cons_of_mem _ hx)
    have hc := h c List.mem_cons_self
    rw [List.length_cons, namesE]
    refine List.mem_flatMap.mpr ⟨l, ih, ?_⟩
    simp at hc
    rcases hc with rfl | rfl | rfl <;> simp
theorem ends_law {l : List Nat} (h0 : 1 ≤ l.length) (h6 : l.length ≤ 6) (h : ∀ c ∈ l, c ∈ ([46, 97, 98] : List Nat)) : endsL l = lawE l ∧ (endsL l).1 ++ (endsL l).2 = l := by
  have m := mem_namesE h
  obtain ⟨a1, a2, a3, a4, a5, a6⟩ := okE_all
  have k : okE l = true := by
    have : l.length = 1 ∨ l.length = 2 ∨ l.length = 3 ∨ l.length = 4 ∨ l.length = 5 ∨ l.length = 6 := by omega
    rcases this with q | q | q | q | q | q <;> rw [q] at m
    · exact List.all_eq_true.mp a1 l m
    · exact List.all_eq_true.mp a2 l m
    · exact List.all_eq_true.mp a3 l m
    · exact List.all_eq_true.mp a4 l m
    · exact List.all_eq_true.mp a5 l m
    · exact List.all_eq_true.mp a6 l m
  exact of_decide_eq_true k
end K1

set_option Elab.async false
set_option linter.all false
set_option maxRecDepth 100000
set_option maxHeartbeats 1000000
namespace K1
open PySem L2 Ev
theorem cut_mem {l : List Nat} {lo hi : Option Int} {c : Nat} (h : c ∈ cutA l lo hi) : c ∈ l := List.mem_of_mem_drop (List.mem_of_mem_take h)
theorem cut_len (l : List Nat) (lo hi : Option Int) : (cutA l lo hi).length ≤ l.length := by
  unfold cutA
  rw [List.length_take, List.length_drop]; omega
theorem ends_len (l : List Nat) : (endsL l).1.length ≤ l.length ∧ (endsL l).2.length ≤ l.length := by
  unfold endsL
  split
  · simp
  · exact ⟨cut_len _ _ _, cut_len _ _ _⟩
theorem ends_mem {l : List Nat} {c : Nat} : (c ∈ (endsL l).1 → c ∈ l) ∧ (c ∈ (endsL l).2 → c ∈ l) := by
  unfold endsL
  split
  · exact ⟨id, fun z => by cases z⟩
  · exact ⟨cut_mem, cut_mem⟩
theorem ends_oc {l : List Nat} (h : Oc l) : Oc (endsL l).1 ∧ Oc (endsL l).2 := ⟨fun c hc => h c (ends_mem.1 hc), fun c hc => h c (ends_mem.2 hc)⟩
theorem body_len (l : List Nat) : (bL l).length ≤ l.length := by
  have := PyProof.Rows.len_lstripChars (sOf l) (sOf [46])
  rw [bL, len_tl]
  simpa using this
theorem body_eq (l : List Nat) : Txt.lstripChars (sOf l) (sOf [46]) = sOf (bL l) := (sOf_tl _).symm
theorem s_ends {l : List Nat} (h : Pw l) (hn : ¬ 47 ∈ l) (hs : List Ob) : m_ends_of [txt l] hs = .ok (.d (.tuple [tx (endsL l).1, tx (endsL l).2])) ⟨[], hs⟩ := by
  have a0 := s_check h []
  have z1 := h.sz
  have bl := body_len l
  have hb : (bL l).length ≤ sizeLine := by omega
  have z2 : (2 : Nat) ≤ sizeLine := by decide
  have hh := hasS_one 47 l
  rw [decide_eq_false hn] at hh
  have e1 := body_eq l
  have e2 : Txt.rfind (sOf (bL l)) (sOf [46]) = placeE l := rfl
  have e3 : (l.length : Int) - ((bL l).length : Int) = aheadE l := rfl
  by_cases p : placeE l < 0
  · have er : endsL l = (l, []) := by unfold endsL; rw [if_pos p]
    rw [er]
    simp [m_ends_of, f_ends_of, mOf, inE, a_nilA, a_conA, a_b2, a_noP, a_slV, a_oT, a_oV, a_yesT, a_andT, a_orT, a_notT, a_ifV, a_orV, a_andV, a_notV, a_xS, a_rtS, a_ifS, a_asS, a_anS, a_skS, a_raS, a_frS, a_frz, a_m1, a_lmA, a_stS, a_onN, a_rtO, a_prS, a_ch3, a_lcN, a_tupGx, a_colGx, a_anyGx, bnd, bS, sqS, cst, vr, vrF, setR, caN, caM, splitA, okR, cmV, cmT, eqG, neG, dof, lof, tof, slG, inP, tupG, lstG, lstN, allD, dOf, lenG, ltOf, addG, subG, mulG, negG, intG, truT, truG, itG, appG, popG, rootOf, putR, agS, addI, tpG, conG, nilG, lsG, listG, tupleG, seqOf, a0, z1, z2, hh, inG, tt1, e1, e2, e3, hb, p, ltI]
  · have er : endsL l = (cutA l none (some (aheadE l + placeE l)), cutA l (some (aheadE l + placeE l)) none) := by unfold endsL; rw [if_neg p]
    rw [er]
    simp [m_ends_of, f_ends_of, mOf, inE, a_nilA, a_conA, a_b2, a_noP, a_slV, a_oT, a_oV, a_yesT, a_andT, a_orT, a_notT, a_ifV, a_orV, a_andV, a_notV, a_xS, a_rtS, a_ifS, a_asS, a_anS, a_skS, a_raS, a_frS, a_frz, a_m1, a_lmA, a_stS, a_onN, a_rtO, a_prS, a_ch3, a_lcN, a_tupGx, a_colGx, a_anyGx, bnd, bS, sqS, cst, vr, vrF, setR, caN, caM, splitA, okR, cmV, cmT, eqG, neG, dof, lof, tof, slG, inP, tupG, lstG, lstN, allD, dOf, lenG, ltOf, addG, subG, mulG, negG, intG, truT, truG, itG, appG, popG, rootOf, putR, agS, addI, tpG, conG, nilG, lsG, listG, tupleG, seqOf, a0, z1, z2, hh, inG, tt1, e1, e2, e3, hb, p, ltI]
/-! ### with another end -/
def nameL (p : List Nat) : List Nat := lastL (sp (plainL p))
def badE (n e : List Nat) : Bool := decide (n ∈ ([[], [46], dd] : List (List Nat)) ∨ (e ≠ [] ∧ e.take 1 ≠ [46]) ∨ 47 ∈ e)
def withEnd (p e : List Nat) : List Nat := cutA (plainL p) none (some (((plainL p).length : Int) - ((nameL p).length : Int))) ++ (endsL (nameL p)).1 ++ e
theorem lastL_mem {L : List (List Nat)} (h : L ≠ []) : lastL L ∈ L := by
  rcases nil_or_snoc L with rfl | ⟨m, x, rfl⟩
  · exact absurd rfl h
  · simp [lastL]
theorem name_sp (p : List Nat) : nameL p ∈ sp (plainL p) := lastL_mem (sp_ne _)
theorem sp_le {l x : List Nat} (h : x ∈ sp l) : x.length ≤ l.length := by
  have e := sp_len l
  have : ∀ L : List (List Nat), x ∈ L → x.length + 1 ≤ (L.map (·.length + 1)).sum := fun L => by
    induction L with
    | nil => exact fun z => by cases z
    | cons y L ih =>
      intro hx
      simp only [List.map_cons, List.sum_cons]
      rcases List.mem_cons.mp hx with rfl | hx
      · omega
      · have := ih hx; omega
  have := this _ h
  omega
theorem name_pw {p : List Nat} (h : Pw (plainL p)) (hn : nameL p ≠ []) : Pw (nameL p) := ⟨List.length_pos_iff.mpr hn, by have := sp_le (name_sp p); have := h.le; omega, oc_sp h.oc _ (name_sp p)⟩
theorem s_with_end {p e : List Nat} (hp : Pw p) (h1 : Pw (plainL p)) (he : e.length ≤ 1000) (oe : Oc e) (hs : List Ob) : m_with_end [txt p, txt e] hs = if badE (nameL p) e = true then .err 1 ⟨[], hs⟩ else .ok (txt (withEnd p e)) ⟨[], hs⟩ := by
  have a1 := s_made hp []
  have a2 := s_name hp []
  have n1 : lastL (sp (plainL p)) = nameL p := rfl
  rw [n1] at a2
  have e0 : inE 5 [txt p, txt e] hs = ⟨[some (.fro (txt p)), some (.fro (txt e)), none, none, none], hs⟩ := by simp [inE]
  have s1 : prS 2 3 (conA (bnd (conA (vr 0) nilA) (caN 1 m_made_plain)) (conA (bnd (conA (vr 0) nilA) (caN 1 m_name_of)) nilA)) (inE 5 [txt p, txt e] hs) = .nx ⟨[some (.fro (txt p)), some (.fro (txt e)), some (.fro (txt (plainL p))), some (.fro (txt (nameL p))), none], hs⟩ := by
    rw [e0]
    simp [mOf, inE, a_nilA, a_conA, a_b2, a_noP, a_slV, a_oT, a_oV, a_yesT, a_andT, a_orT, a_notT, a_ifV, a_orV, a_andV, a_notV, a_xS, a_rtS, a_ifS, a_asS, a_anS, a_skS, a_raS, a_frS, a_frz, a_m1, a_lmA, a_stS, a_onN, a_rtO, a_prS, a_ch3, a_lcN, a_tupGx, a_colGx, a_anyGx, bnd, bS, sqS, cst, vr, vrF, setR, caN, caM, splitA, okR, cmV, cmT, eqG, neG, dof, lof, tof, slG, inP, tupG, lstG, lstN, allD, dOf, lenG, ltOf, addG, subG, mulG, negG, intG, truT, truG, itG, appG, popG, rootOf, putR, agS, addI, tpG, conG, nilG, lsG, listG, tupleG, seqOf, a1, a2]
  have il := fun e' => in_tup false (nameL p) [[], [46], dd] e'
  simp only [dl_cons, dl_nil] at il
  have z3 : (3 : Nat) ≤ sizeLine := by decide
  have ze : e.length ≤ sizeLine := small (by omega)
  have hh := hasS_one 47 e
  have c1 : b2 (vr 3) (bnd (conA (cst (txt [])) (conA (cst (txt [46])) (conA (cst (txt [46, 46])) nilA))) tupG) (cmT (inG false)) ⟨[some (.fro (txt p)), some (.fro (txt e)), some (.fro (txt (plainL p))), some (.fro (txt (nameL p))), none], hs⟩ = .ok (decide (nameL p ∈ ([[], [46], dd] : List (List Nat)))) ⟨[some (.fro (txt p)), some (.fro (txt e)), some (.fro (txt (plainL p))), some (.fro (txt (nameL p))), none], hs⟩ := by
    simp [a_b2, a_conA, a_nilA, bnd, vr, cst, tupG, allD, dOf, z3, cmT, il, -List.mem_cons]
  have c2 : andT (b2 (vr 1) (cst (txt [])) (cmT (neG))) (b2 (b2 (vr 1) (cst (.d (.int 0))) ixG) (cst (txt [46])) (cmT (neG))) ⟨[some (.fro (txt p)), some (.fro (txt e)), some (.fro (txt (plainL p))), some (.fro (txt (nameL p))), none], hs⟩ = .ok (decide (e ≠ [] ∧ e.take 1 ≠ [46])) ⟨[some (.fro (txt p)), some (.fro (txt e)), some (.fro (txt (plainL p))), some (.fro (txt (nameL p))), none], hs⟩ := by
    cases e with
    | nil => simp [a_andT, a_b2, bnd, vr, cst, cmT, neG, dof, sh_tx oc_0]
    | cons c r =>
      have oc : Oc [c] := fun x hx => by simp at hx; subst hx; exact oe x List.mem_cons_self
      have i0 : atI (c :: r) 0 = some c := by
        unfold atI ixN
        simp
      simp [a_andT, a_b2, bnd, vr, cst, cmT, neG, dof, sh_tx oc_0, sh_tx oe, sh_tx oc, sh_tx oc_46, ixG, i0]
      simp only [List.length_cons] at ze
      have q1 : SeqAt.shaped (PyData.str (sOf [c])) = true := sh_tx oc
      have q2 : SeqAt.shaped (PyData.str (sOf [46])) = true := sh_tx oc_46
      simp [ze, q1, q2]
  have c3 : b2 (cst (txt [47])) (vr 1) (cmT (inG false)) ⟨[some (.fro (txt p)), some (.fro (txt e)), some (.fro (txt (plainL p))), some (.fro (txt (nameL p))), none], hs⟩ = .ok (decide (47 ∈ e)) ⟨[some (.fro (txt p)), some (.fro (txt e)), some (.fro (txt (plainL p))), some (.fro (txt (nameL p))), none], hs⟩ := by
    simp [a_b2, bnd, vr, cst, cmT, inG, hh]
  have hc : (orT (b2 (vr 3) (bnd (conA (cst (txt [])) (conA (cst (txt [46])) (conA (cst (txt [46, 46])) nilA))) tupG) (cmT (inG false))) (orT ((andT (b2 (vr 1) (cst (txt [])) (cmT (neG))) (b2 (b2 (vr 1) (cst (.d (.int 0))) ixG) (cst (txt [46])) (cmT (neG))))) (b2 (cst (txt [47])) (vr 1) (cmT (inG false))))) ⟨[some (.fro (txt p)), some (.fro (txt e)), some (.fro (txt (plainL p))), some (.fro (txt (nameL p))), none], hs⟩ = .ok (badE (nameL p) e) ⟨[some (.fro (txt p)), some (.fro (txt e)), some (.fro (txt (plainL p))), some (.fro (txt (nameL p))), none], hs⟩ := by
    unfold badE
    by_cases b1 : nameL p ∈ ([[], [46], dd] : List (List Nat))
    · rw [decide_eq_true b1] at c1
      rw [decide_eq_true (.inl b1)]
      exact orT_T c1
    · rw [decide_eq_false b1] at c1
      refine (orT_F c1 rfl).trans ?_
      by_cases b2 : e ≠ [] ∧ e.take 1 ≠ [46]
      · rw [decide_eq_true b2] at c2
        rw [decide_eq_true (.inr (.inl b2))]
        exact orT_T c2
      · rw [decide_eq_false b2] at c2
        refine (orT_F c2 c3).trans ?_
        congr 1
        have : (47 ∈ e) = (nameL p ∈ ([[], [46], dd] : List (List Nat)) ∨ (e ≠ [] ∧ e.take 1 ≠ [46]) ∨ 47 ∈ e) := propext ⟨fun z => .inr (.inr z), fun z => (z.resolve_left b1).resolve_left b2⟩
        simp only [b1, b2, false_or]
  cases q : badE (nameL p) e with
  | true =>
    rw [q] at hc
    rw [if_pos rfl]
    exact mOf_err (f := f_with_end) (sqS_of s1 (sqS_err (ifS_T hc (sqS_err rfl))))
  | false =>
    rw [q] at hc
    rw [if_neg (by decide)]
    have qn := of_decide_eq_false q
    have nn : nameL p ≠ [] := fun z => qn (.inl (by rw [z]; simp))
    have ns : ¬ 47 ∈ nameL p := (mem_sp (name_sp p)).1
    have np := name_pw h1 nn
    have a3 := s_ends np ns []
    have s3 : asS (b2 (bnd (conA (vr 3) nilA) (caN 1 m_ends_of)) (cst (.d (.int 0))) ixG) (setR 4) ⟨[some (.fro (txt p)), some (.fro (txt e)), some (.fro (txt (plainL p))), some (.fro (txt (nameL p))), none], hs⟩ = .nx ⟨[some (.fro (txt p)), some (.fro (txt e)), some (.fro (txt (plainL p))), some (.fro (txt (nameL p))), some (.fro (txt (endsL (nameL p)).1))], hs⟩ := by
      have i0 : atI [tx (endsL (nameL p)).1, tx (endsL (nameL p)).2] 0 = some (tx (endsL (nameL p)).1) := rfl
      simp [mOf, inE, a_nilA, a_conA, a_b2, a_noP, a_slV, a_oT, a_oV, a_yesT, a_andT, a_orT, a_notT, a_ifV, a_orV, a_andV, a_notV, a_xS, a_rtS, a_ifS, a_asS, a_anS, a_skS, a_raS, a_frS, a_frz, a_m1, a_lmA, a_stS, a_onN, a_rtO, a_prS, a_ch3, a_lcN, a_tupGx, a_colGx, a_anyGx, bnd, bS, sqS, cst, vr, vrF, setR, caN, caM, splitA, okR, cmV, cmT, eqG, neG, dof, lof, tof, slG, inP, tupG, lstG, lstN, allD, dOf, lenG, ltOf, addG, subG, mulG, negG, intG, truT, truG, itG, appG, popG, rootOf, putR, agS, addI, tpG, conG, nilG, lsG, listG, tupleG, seqOf, a3, ixG, i0]
    have l1 := h1.le
    have l2 := np.le
    have l3 := (ends_len (nameL p)).1
    have l4 := cut_len (plainL p) none (some (((plainL p).length : Int) - ((nameL p).length : Int)))
    have za := h1.sz
    have zb := np.sz
    have zc : (cutA (plainL p) none (some (((plainL p).length : Int) - ((nameL p).length : Int)))).length + (endsL (nameL p)).1.length ≤ sizeLine := small (by omega)
    have zd : (cutA (plainL p) none (some (((plainL p).length : Int) - ((nameL p).length : Int)))).length + (endsL (nameL p)).1.length + e.length ≤ sizeLine := small (by omega)
    have s4 : b2 (b2 (slV (vr 2) noP (bnd (b2 (bnd (conA (vr 2) nilA) lenG) (bnd (conA (vr 3) nilA) lenG) subG) inP)) (vr 4) addG) (vr 1) addG ⟨[some (.fro (txt p)), some (.fro (txt e)), some (.fro (txt (plainL p))), some (.fro (txt (nameL p))), some (.fro (txt (endsL (nameL p)).1))], hs⟩ = .ok (txt (withEnd p e)) ⟨[some (.fro (txt p)), some (.fro (txt e)), some (.fro (txt (plainL p))), some (.fro (txt (nameL p))), some (.fro (txt (endsL (nameL p)).1))], hs⟩ := by
      simp [a_b2, a_slV, a_noP, a_conA, a_nilA, bnd, vr, cst, lenG, subG, inP, slG, addG, za, zb, zc, zd, withEnd]
    exact mOf_ret (f := f_with_end) (sqS_of s1 (sqS_of (ifS_F hc rfl) (sqS_of s3 (sqS_ret (rtS_of s4)))))
end K1

set_option Elab.async false
set_option linter.all false
set_option maxRecDepth 100000
set_option maxHeartbeats 1000000
namespace K1
open PySem L2 Ev PySem.W PyProof.Rows
/-! ### comparisons with texts, calls with data -/
theorem neT_tx {fa fb : Ev.Env → Rs R} {e e1 e2 : Ev.Env} {a b : List Nat} (h : fa e = .ok (txt a) e1) (h2 : fb e1 = .ok (txt b) e2) (oa : Oc a) (ob : Oc b) : b2 fa fb (cmT neG) e = .ok (!decide (a = b)) e2 := by
  rw [b2_of h h2]
  simp only [cmT, neG, dof, sh_tx oa, sh_tx ob, and_self, if_true, eqv_tx]
theorem eqT_tx {fa fb : Ev.Env → Rs R} {e e1 e2 : Ev.Env} {a b : List Nat} (h : fa e = .ok (txt a) e1) (h2 : fb e1 = .ok (txt b) e2) (oa : Oc a) (ob : Oc b) : b2 fa fb (cmT eqG) e = .ok (decide (a = b)) e2 := by
  rw [b2_of h h2]
  simp only [cmT, eqG, dof, sh_tx oa, sh_tx ob, and_self, if_true, eqv_tx]
theorem eqV_tx {fa fb : Ev.Env → Rs R} {e e1 e2 : Ev.Env} {a b : List Nat} (h : fa e = .ok (txt a) e1) (h2 : fb e1 = .ok (txt b) e2) (oa : Oc a) (ob : Oc b) : b2 fa fb (cmV eqG) e = .ok (.d (.bool (decide (a = b)))) e2 := by
  rw [b2_of h h2]
  simp only [cmV, eqG, dof, sh_tx oa, sh_tx ob, and_self, if_true, eqv_tx]
theorem ne_same {fa fb : Ev.Env → Rs R} {e e1 e2 : Ev.Env} {x : Dt} (h : fa e = .ok (.d x) e1) (h2 : fb e1 = .ok (.d x) e2) (s : SeqAt.shaped x = true) (q : PyData.eqv x x = true) : b2 fa fb (cmT neG) e = .ok false e2 := by
  rw [b2_of h h2]
  simp only [cmT, neG, dof, s, and_self, if_true, q, Bool.not_true]
theorem eq_sameT {fa fb : Ev.Env → Rs R} {e e1 e2 : Ev.Env} {x : Dt} (h : fa e = .ok (.d x) e1) (h2 : fb e1 = .ok (.d x) e2) (s : SeqAt.shaped x = true) (q : PyData.eqv x x = true) : b2 fa fb (cmT eqG) e = .ok true e2 := by
  rw [b2_of h h2]
  simp only [cmT, eqG, dof, s, and_self, if_true, q]
theorem eq_sameV {fa fb : Ev.Env → Rs R} {e e1 e2 : Ev.Env} {x : Dt} (h : fa e = .ok (.d x) e1) (h2 : fb e1 = .ok (.d x) e2) (s : SeqAt.shaped x = true) (q : PyData.eqv x x = true) : b2 fa fb (cmV eqG) e = .ok (.d (.bool true)) e2 := by
  rw [b2_of h h2]
  simp only [cmV, eqG, dof, s, and_self, if_true, q]
theorem andV_T {f g : Ev.Env → Rs R} {e e1 : Ev.Env} {r : Rs R} (h1 : f e = .ok (.d (.bool true)) e1) (h2 : g e1 = r) : andV f g e = r := by
  rw [a_andV, bnd_of h1]; exact h2
theorem andV_F {f g : Ev.Env → Rs R} {e e1 : Ev.Env} (h1 : f e = .ok (.d (.bool false)) e1) : andV f g e = .ok (.d (.bool false)) e1 := by
  rw [a_andV, bnd_of h1]; rfl
theorem ca1 {m : Mf} {f : Ev.Env → Rs R} {x y : Dt} {e e1 : Ev.Env} {hs : Ev.Env} (hf : f e = .ok (.d x) e1) (h : m [.d x] [] = .ok (.d y) hs) : bnd (conA f nilA) (caN 1 m) e = .ok (.d y) e1 := by
  rw [bnd_of (one_of hf)]
  simp only [caN, caM, splitA, List.length_cons, List.length_nil, h, okR, if_true]
theorem ca1e {m : Mf} {f : Ev.Env → Rs R} {x : Dt} {c : Nat} {e e1 : Ev.Env} {hs : Ev.Env} (hf : f e = .ok (.d x) e1) (h : m [.d x] [] = .err c hs) : bnd (conA f nilA) (caN 1 m) e = .err c e1 := by
  rw [bnd_of (one_of hf)]
  simp only [caN, caM, splitA, List.length_cons, List.length_nil, h, if_true]
theorem ca2 {m : Mf} {f g : Ev.Env → Rs R} {x z y : Dt} {e e1 e2 : Ev.Env} {hs : Ev.Env} (hf : f e = .ok (.d x) e1) (hg : g e1 = .ok (.d z) e2) (h : m [.d x, .d z] [] = .ok (.d y) hs) : bnd (conA f (conA g nilA)) (caN 2 m) e = .ok (.d y) e2 := by
  rw [bnd_of (conA_of hf (one_of hg))]
  simp only [caN, caM, splitA, List.length_cons, List.length_nil, h, okR, if_true]
theorem ca2e {m : Mf} {f g : Ev.Env → Rs R} {x z : Dt} {c : Nat} {e e1 e2 : Ev.Env} {hs : Ev.Env} (hf : f e = .ok (.d x) e1) (hg : g e1 = .ok (.d z) e2) (h : m [.d x, .d z] [] = .err c hs) : bnd (conA f (conA g nilA)) (caN 2 m) e = .err c e2 := by
  rw [bnd_of (conA_of hf (one_of hg))]
  simp only [caN, caM, splitA, List.length_cons, List.length_nil, h, if_true]
theorem told_ok {c : Nat} {ret : List Nat} {f : Ev.Env → Rs R} {e e1 : Ev.Env} {x : Dt} (h : f e = .ok (.d x) e1) : toldV c ret f e = .ok (.d x) e1 := by
  unfold toldV
  rw [h]; rfl
theorem told_err {c : Nat} {ret : List Nat} {f : Ev.Env → Rs R} {e e1 : Ev.Env} (h : f e = .err c e1) : toldV c ret f e = .ok (txt ret) e1 := by
  unfold toldV
  rw [h]
  simp only [if_true]
/-! ### what is refused -/
theorem bad_check : m_check_path [txt []] [] = .err 1 ⟨[], []⟩ := s_check0 (by simp) (by simp) []
theorem bad_parts : m_parts_of [txt []] [] = .err 1 ⟨[], []⟩ := by
  have h := bad_check
  simp [m_parts_of, f_parts_of, mOf, inE, a_nilA, a_conA, a_b2, a_noP, a_slV, a_oT, a_oV, a_yesT, a_andT, a_orT, a_notT, a_ifV, a_orV, a_andV, a_notV, a_xS, a_rtS, a_ifS, a_asS, a_anS, a_skS, a_raS, a_frS, a_frz, a_m1, a_lmA, a_stS, a_onN, a_rtO, a_prS, a_ch3, a_lcN, a_tupGx, a_colGx, a_anyGx, bnd, bS, sqS, cst, vr, vrF, setR, caN, caM, splitA, okR, cmV, cmT, eqG, neG, dof, lof, tof, slG, inP, tupG, lstG, lstN, allD, dOf, lenG, ltOf, addG, subG, mulG, negG, intG, truT, truG, itG, appG, popG, rootOf, putR, agS, addI, tpG, conG, nilG, lsG, listG, tupleG, seqOf, h]
theorem bad_made : m_made_plain [txt []] [] = .err 1 ⟨[], []⟩ := by
  have h := bad_parts
  have z0 : (0 : Nat) ≤ sizeLine := by decide
  simp [m_made_plain, f_made_plain, mOf, inE, a_nilA, a_conA, a_b2, a_noP, a_slV, a_oT, a_oV, a_yesT, a_andT, a_orT, a_notT, a_ifV, a_orV, a_andV, a_notV, a_xS, a_rtS, a_ifS, a_asS, a_anS, a_skS, a_raS, a_frS, a_frz, a_m1, a_lmA, a_stS, a_onN, a_rtO, a_prS, a_ch3, a_lcN, a_tupGx, a_colGx, a_anyGx, bnd, bS, sqS, cst, vr, vrF, setR, caN, caM, splitA, okR, cmV, cmT, eqG, neG, dof, lof, tof, slG, inP, tupG, lstG, lstN, allD, dOf, lenG, ltOf, addG, subG, mulG, negG, intG, truT, truG, itG, appG, popG, rootOf, putR, agS, addI, tpG, conG, nilG, lsG, listG, tupleG, seqOf, h, z0]
theorem bad_joined : m_joined_path [txt [97], txt []] [] = .err 1 ⟨[], []⟩ := by
  have h := bad_check
  have h1 := s_check (l := [97]) ⟨by decide, by decide, by unfold Oc; decide⟩ []
  simp [m_joined_path, f_joined_path, mOf, inE, a_nilA, a_conA, a_b2, a_noP, a_slV, a_oT, a_oV, a_yesT, a_andT, a_orT, a_notT, a_ifV, a_orV, a_andV, a_notV, a_xS, a_rtS, a_ifS, a_asS, a_anS, a_skS, a_raS, a_frS, a_frz, a_m1, a_lmA, a_stS, a_onN, a_rtO, a_prS, a_ch3, a_lcN, a_tupGx, a_colGx, a_anyGx, bnd, bS, sqS, cst, vr, vrF, setR, caN, caM, splitA, okR, cmV, cmT, eqG, neG, dof, lof, tof, slG, inP, tupG, lstG, lstN, allD, dOf, lenG, ltOf, addG, subG, mulG, negG, intG, truT, truG, itG, appG, popG, rootOf, putR, agS, addI, tpG, conG, nilG, lsG, listG, tupleG, seqOf, h, h1]
theorem bad_joined2 : m_joined_path [txt [], txt [46, 46]] [] = .err 1 ⟨[], []⟩ := by
  have h := bad_check
  simp [m_joined_path, f_joined_path, mOf, inE, a_nilA, a_conA, a_b2, a_noP, a_slV, a_oT, a_oV, a_yesT, a_andT, a_orT, a_notT, a_ifV, a_orV, a_andV, a_notV, a_xS, a_rtS, a_ifS, a_asS, a_anS, a_skS, a_raS, a_frS, a_frz, a_m1, a_lmA, a_stS, a_onN, a_rtO, a_prS, a_ch3, a_lcN, a_tupGx, a_colGx, a_anyGx, bnd, bS, sqS, cst, vr, vrF, setR, caN, caM, splitA, okR, cmV, cmT, eqG, neG, dof, lof, tof, slG, inP, tupG, lstG, lstN, allD, dOf, lenG, ltOf, addG, subG, mulG, negG, intG, truT, truG, itG, appG, popG, rootOf, putR, agS, addI, tpG, conG, nilG, lsG, listG, tupleG, seqOf, h]
theorem bad_parent : m_parent_of [txt []] [] = .err 1 ⟨[], []⟩ := by
  have h := bad_joined2
  simp [m_parent_of, f_parent_of, mOf, inE, a_nilA, a_conA, a_b2, a_noP, a_slV, a_oT, a_oV, a_yesT, a_andT, a_orT, a_notT, a_ifV, a_orV, a_andV, a_notV, a_xS, a_rtS, a_ifS, a_asS, a_anS, a_skS, a_raS, a_frS, a_frz, a_m1, a_lmA, a_stS, a_onN, a_rtO, a_prS, a_ch3, a_lcN, a_tupGx, a_colGx, a_anyGx, bnd, bS, sqS, cst, vr, vrF, setR, caN, caM, splitA, okR, cmV, cmT, eqG, neG, dof, lof, tof, slG, inP, tupG, lstG, lstN, allD, dOf, lenG, ltOf, addG, subG, mulG, negG, intG, truT, truG, itG, appG, popG, rootOf, putR, agS, addI, tpG, conG, nilG, lsG, listG, tupleG, seqOf, h]
theorem bad_name : m_name_of [txt []] [] = .err 1 ⟨[], []⟩ := by
  have h := bad_made
  simp [m_name_of, f_name_of, mOf, inE, a_nilA, a_conA, a_b2, a_noP, a_slV, a_oT, a_oV, a_yesT, a_andT, a_orT, a_notT, a_ifV, a_orV, a_andV, a_notV, a_xS, a_rtS, a_ifS, a_asS, a_anS, a_skS, a_raS, a_frS, a_frz, a_m1, a_lmA, a_stS, a_onN, a_rtO, a_prS, a_ch3, a_lcN, a_tupGx, a_colGx, a_anyGx, bnd, bS, sqS, cst, vr, vrF, setR, caN, caM, splitA, okR, cmV, cmT, eqG, neG, dof, lof, tof, slG, inP, tupG, lstG, lstN, allD, dOf, lenG, ltOf, addG, subG, mulG, negG, intG, truT, truG, itG, appG, popG, rootOf, putR, agS, addI, tpG, conG, nilG, lsG, listG, tupleG, seqOf, h]
theorem bad_ends : m_ends_of [txt []] [] = .err 1 ⟨[], []⟩ := by
  have h := bad_check
  simp [m_ends_of, f_ends_of, mOf, inE, a_nilA, a_conA, a_b2, a_noP, a_slV, a_oT, a_oV, a_yesT, a_andT, a_orT, a_notT, a_ifV, a_orV, a_andV, a_notV, a_xS, a_rtS, a_ifS, a_asS, a_anS, a_skS, a_raS, a_frS, a_frz, a_m1, a_lmA, a_stS, a_onN, a_rtO, a_prS, a_ch3, a_lcN, a_tupGx, a_colGx, a_anyGx, bnd, bS, sqS, cst, vr, vrF, setR, caN, caM, splitA, okR, cmV, cmT, eqG, neG, dof, lof, tof, slG, inP, tupG, lstG, lstN, allD, dOf, lenG, ltOf, addG, subG, mulG, negG, intG, truT, truG, itG, appG, popG, rootOf, putR, agS, addI, tpG, conG, nilG, lsG, listG, tupleG, seqOf, h]
theorem bad_ends2 : m_ends_of [txt [97, 47, 98]] [] = .err 1 ⟨[], []⟩ := by
  have h1 := s_check (l := [97, 47, 98]) ⟨by decide, by decide, by unfold Oc; decide⟩ []
  have h2 := hasS_one 47 [97, 47, 98]
  simp [m_ends_of, f_ends_of, mOf, inE, a_nilA, a_conA, a_b2, a_noP, a_slV, a_oT, a_oV, a_yesT, a_andT, a_orT, a_notT, a_ifV, a_orV, a_andV, a_notV, a_xS, a_rtS, a_ifS, a_asS, a_anS, a_skS, a_raS, a_frS, a_frz, a_m1, a_lmA, a_stS, a_onN, a_rtO, a_prS, a_ch3, a_lcN, a_tupGx, a_colGx, a_anyGx, bnd, bS, sqS, cst, vr, vrF, setR, caN, caM, splitA, okR, cmV, cmT, eqG, neG, dof, lof, tof, slG, inP, tupG, lstG, lstN, allD, dOf, lenG, ltOf, addG, subG, mulG, negG, intG, truT, truG, itG, appG, popG, rootOf, putR, agS, addI, tpG, conG, nilG, lsG, listG, tupleG, seqOf, h1, inG, h2]
theorem bad_within : m_is_within [txt [], txt [97]] [] = .err 1 ⟨[], []⟩ := by
  have h := bad_made
  simp [m_is_within, f_is_within, mOf, inE, a_nilA, a_conA, a_b2, a_noP, a_slV, a_oT, a_oV, a_yesT, a_andT, a_orT, a_notT, a_ifV, a_orV, a_andV, a_notV, a_xS, a_rtS, a_ifS, a_asS, a_anS, a_skS, a_raS, a_frS, a_frz, a_m1, a_lmA, a_stS, a_onN, a_rtO, a_prS, a_ch3, a_lcN, a_tupGx, a_colGx, a_anyGx, bnd, bS, sqS, cst, vr, vrF, setR, caN, caM, splitA, okR, cmV, cmT, eqG, neG, dof, lof, tof, slG, inP, tupG, lstG, lstN, allD, dOf, lenG, ltOf, addG, subG, mulG, negG, intG, truT, truG, itG, appG, popG, rootOf, putR, agS, addI, tpG, conG, nilG, lsG, listG, tupleG, seqOf, h]
theorem bad_shared : m_shared_path [.d (.tuple [])] [] = .err 1 ⟨[], []⟩ := by
  simp [m_shared_path, f_shared_path, mOf, inE, a_nilA, a_conA, a_b2, a_noP, a_slV, a_oT, a_oV, a_yesT, a_andT, a_orT, a_notT, a_ifV, a_orV, a_andV, a_notV, a_xS, a_rtS, a_ifS, a_asS, a_anS, a_skS, a_raS, a_frS, a_frz, a_m1, a_lmA, a_stS, a_onN, a_rtO, a_prS, a_ch3, a_lcN, a_tupGx, a_colGx, a_anyGx, bnd, bS, sqS, cst, vr, vrF, setR, caN, caM, splitA, okR, cmV, cmT, eqG, neG, dof, lof, tof, slG, inP, tupG, lstG, lstN, allD, dOf, lenG, ltOf, addG, subG, mulG, negG, intG, truT, truG, itG, appG, popG, rootOf, putR, agS, addI, tpG, conG, nilG, lsG, listG, tupleG, seqOf]
theorem bad_turn : m_in_turn [.d (.tuple [tx []])] [] = .err 1 ⟨[], []⟩ := by
  have h := bad_made
  have e0 : inE 5 [.d (.tuple [tx []])] [] = ⟨[some (.fro (.d (.tuple [tx []]))), none, none, none, none], []⟩ := by simp [inE]
  refine mOf_err (f := f_in_turn) (e := ⟨[some (.fro (.d (.tuple [tx []]))), none, none, none, none], []⟩) (sqS_err ?_)
  rw [e0]
  simp [a_anS, bS, dcN, dcL, bnd, vr, itG, wipE, reE, froOf, setR, yesT, cst, a_conA, a_nilA, caN, caM, splitA, h]
theorem bad_depth : m_depth_of [txt []] [] = .err 1 ⟨[], []⟩ := by
  have h := bad_made
  simp [m_depth_of, f_depth_of, sumGx, mOf, inE, a_nilA, a_conA, a_b2, a_noP, a_slV, a_oT, a_oV, a_yesT, a_andT, a_orT, a_notT, a_ifV, a_orV, a_andV, a_notV, a_xS, a_rtS, a_ifS, a_asS, a_anS, a_skS, a_raS, a_frS, a_frz, a_m1, a_lmA, a_stS, a_onN, a_rtO, a_prS, a_ch3, a_lcN, a_tupGx, a_colGx, a_anyGx, bnd, bS, sqS, cst, vr, vrF, setR, caN, caM, splitA, okR, cmV, cmT, eqG, neG, dof, lof, tof, slG, inP, tupG, lstG, lstN, allD, dOf, lenG, ltOf, addG, subG, mulG, negG, intG, truT, truG, itG, appG, popG, rootOf, putR, agS, addI, tpG, conG, nilG, lsG, listG, tupleG, seqOf, h]
theorem mul_tx (c n : Nat) (h : n ≤ 100000) (e : Ev.Env) : mulG (txt [c]) (.d (.int (n : Int))) e = .ok (txt (List.replicate n c)) e := by
  have h1 : -(2 ^ 63) ≤ ((n : Nat) : Int) ∧ ((n : Nat) : Int) < 2 ^ 63 ∧ (tl (sOf [c])).length * ((n : Nat) : Int).toNat ≤ sizeLine := by
    refine ⟨by omega, by omega, ?_⟩
    rw [Int.toNat_natCast]
    simp
    exact small h
  unfold mulG
  dsimp only
  rw [if_pos h1, Int.toNat_natCast]
  simp
theorem bad_long (n : Nat) (h1 : 120 < n) (h2 : n ≤ 1000) : m_check_path [txt (List.replicate n 97)] [] = .err 1 ⟨[], []⟩ := s_check0 (by rw [List.length_replicate]; exact small (by omega)) (by rw [List.length_replicate]; omega) []
theorem bad_long2 (n : Nat) (h1 : 120 < n) (h2 : n ≤ 1000) (e : Ev.Env) : bnd (conA (b2 (cst (txt [97])) (cst (.d (.int (n : Int)))) mulG) nilA) (caN 1 m_check_path) e = .err 1 e :=
  ca1e (x := tx (List.replicate n 97)) ((b2_of (cst_ok _ _) (cst_ok _ _)).trans (mul_tx 97 n (by omega) e)) (bad_long n h1 h2)
theorem pw_of (l : List Nat) (h : (decide (1 ≤ l.length ∧ l.length ≤ 120) && l.all fun c => decide (c < 1114112)) = true) : Pw l := by
  simp only [Bool.and_eq_true, decide_eq_true_eq, List.all_eq_true] at h
  exact ⟨h.1.1, h.1.2, h.2⟩
theorem bad_bs (i : Nat) (hi : i < 19) (e : Ev.Env) : bs__law_plain i e = .err 1 e := by
  match i, hi with
  | 0, _ => exact ca1e (cst_ok _ _) bad_check
  | 1, _ => exact bad_long2 121 (by omega) (by omega) e
  | 2, _ => exact ca1e (cst_ok _ _) bad_parts
  | 3, _ => exact ca1e (cst_ok _ _) bad_made
  | 4, _ => exact ca2e (cst_ok _ _) (cst_ok _ _) bad_joined
  | 5, _ => exact ca1e (cst_ok _ _) bad_parent
  | 6, _ => exact ca1e (cst_ok _ _) bad_name
  | 7, _ => exact ca1e (cst_ok _ _) bad_ends
  | 8, _ => exact ca1e (cst_ok _ _) bad_ends2
  | 9, _ =>
    have h := s_with_end (p := [47]) (e := [46, 120]) (pw_of _ (by decide)) (pw_of _ (by decide)) (by decide) (by unfold Oc; decide) []
    rw [if_pos (by decide)] at h
    exact ca2e (cst_ok _ _) (cst_ok _ _) h
  | 10, _ =>
    have h := s_with_end (p := [46, 46]) (e := [46, 120]) (pw_of _ (by decide)) (pw_of _ (by decide)) (by decide) (by unfold Oc; decide) []
    rw [if_pos (by decide)] at h
    exact ca2e (cst_ok _ _) (cst_ok _ _) h
  | 11, _ =>
    have h := s_with_end (p := [97]) (e := [120]) (pw_of _ (by decide)) (pw_of _ (by decide)) (by decide) (by unfold Oc; decide) []
    rw [if_pos (by decide)] at h
    exact ca2e (cst_ok _ _) (cst_ok _ _) h
  | 12, _ =>
    have h := s_told (p := [47, 97]) (q := [98]) (pw_of _ (by decide)) (pw_of _ (by decide)) (pw_of _ (by decide)) (pw_of _ (by decide)) []
    rw [if_neg (by decide)] at h
    exact ca2e (cst_ok _ _) (cst_ok _ _) h
  | 13, _ =>
    have h := s_told (p := [46, 46, 47, 97]) (q := [98]) (pw_of _ (by decide)) (pw_of _ (by decide)) (pw_of _ (by decide)) (pw_of _ (by decide)) []
    rw [if_neg (by decide)] at h
    exact ca2e (cst_ok _ _) (cst_ok _ _) h
  | 14, _ =>
    show bnd (conA (bnd nilA tupG) nilA) (caN 1 m_shared_path) e = _
    refine ca1e (x := .tuple []) ?_ bad_shared
    simp [bnd, a_nilA, tupG, allD]
  | 15, _ =>
    have h := s_shared (p0 := [47, 97]) (P' := [[98]]) (X := .tuple (DL [[47, 97], [98]])) (.inr rfl) (fun p hp => by
      simp at hp
      rcases hp with rfl | rfl
      · exact ⟨pw_of _ (by decide), pw_of _ (by decide)⟩
      · exact ⟨pw_of _ (by decide), pw_of _ (by decide)⟩) (by decide) []
    rw [if_pos (by decide)] at h
    show bnd (conA (bnd (conA (cst (txt [47, 97])) (conA (cst (txt [98])) nilA)) tupG) nilA) (caN 1 m_shared_path) e = _
    refine ca1e (x := .tuple (DL [[47, 97], [98]])) ?_ h
    have z2 : (2 : Nat) ≤ sizeLine := by decide
    simp [bnd, a_conA, a_nilA, cst, tupG, allD, dOf, z2]
  | 16, _ => exact ca2e (cst_ok _ _) (cst_ok _ _) bad_within
  | 17, _ =>
    show bnd (conA (bnd (conA (cst (txt [])) nilA) tupG) nilA) (caN 1 m_in_turn) e = _
    refine ca1e (x := .tuple [tx []]) ?_ bad_turn
    have z1 : (1 : Nat) ≤ sizeLine := by decide
    simp [bnd, a_conA, a_nilA, cst, tupG, allD, dOf, z1]
  | 18, _ => exact ca1e (cst_ok _ _) bad_depth
  | i + 19, h => exact absurd h (by omega)
end K1

set_option Elab.async false
set_option linter.all false
set_option maxRecDepth 100000
set_option maxHeartbeats 1000000
namespace K1
open PySem L2 Ev PySem.W PyProof.Rows
def leR (a b : List Nat) : Bool := dataLe false (id : Dt → Dt) (rowD a) (rowD b)
theorem srt_map (L : List (List Nat)) : (L.map rowD).mergeSort (dataLe false (id : Dt → Dt)) = (L.mergeSort leR).map rowD := (List.map_mergeSort (f := rowD) (r := leR) (s := dataLe false (id : Dt → Dt)) fun a _ b _ => rfl).symm
theorem le1 : leR [47, 98] [47, 97, 47, 99] = false := by decide +kernel
theorem le2 : leR [47, 97, 47, 99] [47, 97] = false := by decide +kernel
theorem srt3 : ([[47, 98], [47, 97, 47, 99], [47, 97]] : List (List Nat)).mergeSort leR = [[47, 97], [47, 97, 47, 99], [47, 98]] := by
  simp [List.mergeSort, List.MergeSort.Internal.splitInTwo, List.splitAt, List.splitAt.go, List.merge, le1, le2]
theorem row_inj {x y : List Nat} (h : rowD x = rowD y) : x = y := by
  unfold rowD at h
  injection h with h
  have h2 := (List.cons.inj (List.cons.inj (List.cons.inj h).2).2).1
  injection h2 with h2
  exact sOf_inj.mp h2
theorem rows_inj : ∀ {L M : List (List Nat)}, L.map rowD = M.map rowD → L = M
  | [], [], _ => rfl
  | [], _ :: _, h => by cases h
  | _ :: _, [], h => by cases h
  | x :: L, y :: M, h => by
    rw [List.map_cons, List.map_cons] at h
    rw [row_inj (List.cons.inj h).1, rows_inj (List.cons.inj h).2]
theorem due_srt (Ks : List (List Nat)) : dueL Ks = Ks.mergeSort leR := rows_inj (by rw [← due_eq, ← srt_map])
abbrev PE : List Nat := [80, 97, 116, 104, 69, 114, 114, 111, 114]
theorem oc_of (l : List Nat) (h : (l.all fun c => decide (c < 1114112)) = true) : Oc l := fun c hc => by
  simp only [List.all_eq_true, decide_eq_true_eq] at h
  exact h c hc
theorem oc_PE : Oc PE := oc_of _ (by decide)
abbrev E0 (hs : List Ob) : Ev.Env := ⟨[some (.fro (.clos 19)), none], hs⟩
theorem eqv_tx' (a : List Nat) : PyData.eqv (tx a) (tx a) = true := by rw [eqv_tx]; exact decide_eq_true rfl
theorem tupG_ok {f : Ev.Env → Rs (List R)} {e e1 : Ev.Env} {ds : List Dt} (h : f e = .ok (ds.map R.d) e1) (hz : ds.length ≤ sizeLine) : bnd f tupG e = .ok (.d (.tuple ds)) e1 := by
  rw [bnd_of h]
  have : allD (ds.map R.d) = some ds := by
    clear h hz
    induction ds with
    | nil => rfl
    | cons d ds ih => simp [allD, dOf, ih]
  simp only [tupG, this]
  rw [if_pos hz]
theorem s_lplain (hs : List Ob) : m__law_plain [] hs = .ok (.d (.bool true)) ⟨[], hs⟩ := by
  have s1 : asS (bnd (conA (cst (.clo 0)) (conA (cst (.clo 1)) (conA (cst (.clo 2)) (conA (cst (.clo 3)) (conA (cst (.clo 4)) (conA (cst (.clo 5)) (conA (cst (.clo 6)) (conA (cst (.clo 7)) (conA (cst (.clo 8)) (conA (cst (.clo 9)) (conA (cst (.clo 10)) (conA (cst (.clo 11)) (conA (cst (.clo 12)) (conA (cst (.clo 13)) (conA (cst (.clo 14)) (conA (cst (.clo 15)) (conA (cst (.clo 16)) (conA (cst (.clo 17)) (conA (cst (.clo 18)) nilA))))))))))))))))))) closG) (setR 0) (inE 2 [] hs) = .nx (E0 hs) := by
    refine asS_of (x := .clos 19) (e1 := inE 2 [] hs) ?_ (by simp [setR, inE])
    have z : (19 : Nat) ≤ sizeLine := by decide
    simp [a_conA, a_nilA, bnd, cst, closG, isClo, z]
  have z0 : (0 : Nat) ≤ sizeLine := by decide
  have z1 : (1 : Nat) ≤ sizeLine := by decide
  have z2 : (2 : Nat) ≤ sizeLine := by decide
  have z3 : (3 : Nat) ≤ sizeLine := by decide
  have z19 : (19 : Nat) ≤ sizeLine := by decide
  have lc := lcL_gen (vs := [1]) (t := setR 1) (tc := b2 (bnd (conA (vr 1) nilA) (toldC 1 [80, 97, 116, 104, 69, 114, 114, 111, 114] 19 bs__law_plain)) (cst (txt [80, 97, 116, 104, 69, 114, 114, 111, 114])) (cmT (neG))) (fe := cst (.d (.int 1))) R.clo (fun _ => false) (fun _ => .none) (E0 hs) (List.range 19) (fun i hi => by
    have hi' : i < 19 := List.mem_range.mp hi
    refine ⟨⟨[some (.fro (.clos 19)), some (.fro (.clo i))], hs⟩, by simp [setR], .inr ⟨rfl, ⟨[some (.fro (.clos 19)), some (.fro (.clo i))], hs⟩, ?_, by simp [wipE]⟩⟩
    have t : bnd (conA (vr 1) nilA) (toldC 1 [80, 97, 116, 104, 69, 114, 114, 111, 114] 19 bs__law_plain) ⟨[some (.fro (.clos 19)), some (.fro (.clo i))], hs⟩ = .ok (txt PE) ⟨[some (.fro (.clos 19)), some (.fro (.clo i))], hs⟩ := by
      rw [bnd_of (one_of (show vr 1 ⟨[some (.fro (.clos 19)), some (.fro (.clo i))], hs⟩ = .ok (.clo i) ⟨[some (.fro (.clos 19)), some (.fro (.clo i))], hs⟩ from rfl))]
      unfold toldC
      dsimp only
      rw [if_pos hi']
      exact told_err (bad_bs i hi' _)
    exact ne_same t (cst_ok _ _) (sh_tx oc_PE) (eqv_tx' PE)) [] (by simp [z19])
  have lr : frz (lcN [1] (bnd (vr 0) itC) (setR 1) (b2 (bnd (conA (vr 1) nilA) (toldC 1 [80, 97, 116, 104, 69, 114, 114, 111, 114] 19 bs__law_plain)) (cst (txt [80, 97, 116, 104, 69, 114, 114, 111, 114])) (cmT (neG))) (cst (.d (.int 1)))) (E0 hs) = .ok (.d (.list [])) (E0 hs) := by
    refine lcF_of (rs := (List.range 19).map R.clo) (e1 := E0 hs) rfl (e2 := E0 hs) ?_ (by simp [reE, froOf])
    rw [show wipE [1] (E0 hs) = E0 hs by simp [wipE]]
    rw [lc]
    simp
  have c1 : orT (b2 (frz (lcN [1] (bnd (vr 0) itC) (setR 1) (b2 (bnd (conA (vr 1) nilA) (toldC 1 [80, 97, 116, 104, 69, 114, 114, 111, 114] 19 bs__law_plain)) (cst (txt [80, 97, 116, 104, 69, 114, 114, 111, 114])) (cmT (neG))) (cst (.d (.int 1))))) (bnd nilA lstG) (cmT (neG))) (b2 (bnd (conA (cst (txt [46])) (conA (cst (.d (.int 120))) (conA (cst (txt [46, 46])) nilA))) tupG) (bnd (conA (cst (txt [46])) (conA (cst (.d (.int 120))) (conA (cst (txt [46, 46])) nilA))) tupG) (cmT (neG))) (E0 hs) = .ok false (E0 hs) := by
    have n0 : bnd nilA lstG (E0 hs) = .ok (.d (.list [])) (E0 hs) := by simp [bnd, a_nilA, lstG, allD, z0]
    refine orT_F (ne_same lr n0 sh_list0 eqv_00) ?_
    · have t3 : bnd (conA (cst (txt [46])) (conA (cst (.d (.int 120))) (conA (cst (txt [46, 46])) nilA))) tupG (E0 hs) = .ok (.d (.tuple [tx [46], .int 120, tx [46, 46]])) (E0 hs) := tupG_ok (ds := [tx [46], .int 120, tx [46, 46]]) rfl z3
      exact ne_same t3 t3 (by decide +kernel) (by decide +kernel)
  have m1' := s_made (l := [47, 97, 47, 46, 47, 98, 47, 46, 46, 47, 46, 46, 47, 46, 46, 47, 99, 47, 47, 100]) (pw_of _ (by decide)) []
  rw [show plainL [47, 97, 47, 46, 47, 98, 47, 46, 46, 47, 46, 46, 47, 46, 46, 47, 99, 47, 47, 100] = [47, 99, 47, 100] by decide] at m1'
  have m2' := s_made (l := [97, 47, 46, 46, 47, 46, 46, 47, 98]) (pw_of _ (by decide)) []
  rw [show plainL [97, 47, 46, 46, 47, 46, 46, 47, 98] = [46, 46, 47, 98] by decide] at m2'
  have c2 : orT (b2 (bnd (conA (cst (txt [47, 97, 47, 46, 47, 98, 47, 46, 46, 47, 46, 46, 47, 46, 46, 47, 99, 47, 47, 100])) nilA) (caN 1 m_made_plain)) (cst (txt [47, 99, 47, 100])) (cmT (neG))) (b2 (bnd (conA (cst (txt [97, 47, 46, 46, 47, 46, 46, 47, 98])) nilA) (caN 1 m_made_plain)) (cst (txt [46, 46, 47, 98])) (cmT (neG))) (E0 hs) = .ok false (E0 hs) :=
    (orT_F (ne_same (ca1 (cst_ok _ _) m1') (cst_ok _ _) (sh_tx (oc_of _ (by decide))) (eqv_tx' _)) rfl).trans (ne_same (ca1 (cst_ok _ _) m2') (cst_ok _ _) (sh_tx (oc_of _ (by decide))) (eqv_tx' _))
  have m3' := s_joined (p := [47, 97, 47, 98]) (q := [46, 46, 47, 99]) (pw_of _ (by decide)) (pw_of _ (by decide)) (pw_of _ (by decide)) []
  rw [show plainL (joinP [47, 97, 47, 98] [46, 46, 47, 99]) = [47, 97, 47, 99] by decide] at m3'
  have m4' := s_parent (p := [47]) (pw_of _ (by decide)) (pw_of _ (by decide)) []
  rw [show plainL (joinP [47] dd) = [47] by decide] at m4'
  have m5' := s_ends (l := [46, 97, 46, 98, 46, 99]) (pw_of _ (by decide)) (by decide) []
  rw [show endsL [46, 97, 46, 98, 46, 99] = ([46, 97, 46, 98], [46, 99]) by decide +kernel] at m5'
  have c3 : notT (andT (b2 (bnd (conA (cst (txt [47, 97, 47, 98])) (conA (cst (txt [46, 46, 47, 99])) nilA)) (caN 2 m_joined_path)) (cst (txt [47, 97, 47, 99])) (cmT (eqG))) (andT (b2 (bnd (conA (cst (txt [47])) nilA) (caN 1 m_parent_of)) (cst (txt [47])) (cmT (eqG))) (b2 (bnd (conA (cst (txt [46, 97, 46, 98, 46, 99])) nilA) (caN 1 m_ends_of)) (bnd (conA (cst (txt [46, 97, 46, 98])) (conA (cst (txt [46, 99])) nilA)) tupG) (cmT (eqG))))) (E0 hs) = .ok false (E0 hs) := by
    have t2 : bnd (conA (cst (txt [46, 97, 46, 98])) (conA (cst (txt [46, 99])) nilA)) tupG (E0 hs) = .ok (.d (.tuple [tx [46, 97, 46, 98], tx [46, 99]])) (E0 hs) := tupG_ok (ds := [tx [46, 97, 46, 98], tx [46, 99]]) rfl z2
    have h := andT_T (eq_sameT (e := E0 hs) (ca2 (cst_ok _ _) (cst_ok _ _) m3') (cst_ok _ _) (sh_tx (oc_of _ (by decide))) (eqv_tx' _)) (andT_T (eq_sameT (ca1 (cst_ok _ _) m4') (cst_ok _ _) (sh_tx (oc_of _ (by decide))) (eqv_tx' _)) (eq_sameT (ca1 (cst_ok _ _) m5') t2 (by decide +kernel) (by decide +kernel)))
    rw [a_notT, bnd_of h]; rfl
  have m6' := s_with_end (p := [97, 47, 98, 46, 99]) (e := [46, 100]) (pw_of _ (by decide)) (pw_of _ (by decide)) (by decide) (oc_of _ (by decide)) []
  rw [if_neg (by decide), show withEnd [97, 47, 98, 46, 99] [46, 100] = [97, 47, 98, 46, 100] by decide +kernel] at m6'
  have m7' := s_told (p := [47, 97, 47, 98, 47, 99]) (q := [47, 97, 47, 100]) (pw_of _ (by decide)) (pw_of _ (by decide)) (pw_of _ (by decide)) (pw_of _ (by decide)) []
  rw [if_pos (by decide), show toldL [47, 97, 47, 98, 47, 99] [47, 97, 47, 100] = [46, 46, 47, 98, 47, 99] by decide] at m7'
  have m8' := s_shared (p0 := [47, 97, 47, 98, 47, 99]) (P' := [[47, 97, 47, 98]]) (X := .tuple (DL [[47, 97, 47, 98, 47, 99], [47, 97, 47, 98]])) (.inr rfl) (fun p hp => by
      simp at hp
      rcases hp with rfl | rfl
      · exact ⟨pw_of _ (by decide), pw_of _ (by decide)⟩
      · exact ⟨pw_of _ (by decide), pw_of _ (by decide)⟩) (by decide) []
  rw [if_neg (by decide), show sharedP ([[47, 97, 47, 98, 47, 99], [47, 97, 47, 98]].map plainL) = [47, 97, 47, 98] by decide] at m8'
  have m9' := s_in_turn (P := [[47, 98], [47, 97, 47, 99], [47, 97]]) (X := .tuple (DL [[47, 98], [47, 97, 47, 99], [47, 97]])) (.inr rfl) (fun p hp => by
      simp at hp
      rcases hp with rfl | rfl | rfl
      · exact ⟨pw_of _ (by decide), pw_of _ (by decide)⟩
      · exact ⟨pw_of _ (by decide), pw_of _ (by decide)⟩
      · exact ⟨pw_of _ (by decide), pw_of _ (by decide)⟩) (by decide) []
  rw [show keysL ([[47, 98], [47, 97, 47, 99], [47, 97]].map plainL) = [[47, 98], [47, 97, 47, 99], [47, 97]] by decide, due_srt, srt3] at m9'
  have m10 := s_depth (p := [46, 46, 47, 97, 47, 98]) (pw_of _ (by decide)) (pw_of _ (by decide)) []
  rw [show depL (parts (plainL [46, 46, 47, 97, 47, 98])) = 1 by decide] at m10
  have m11 := s_name (p := [47]) (pw_of _ (by decide)) []
  rw [show lastL (sp (plainL [47])) = [] by decide] at m11
  have u1 : bnd (conA (cst (txt [47, 97, 47, 98, 47, 99])) (conA (cst (txt [47, 97, 47, 98])) nilA)) tupG (E0 hs) = .ok (.d (.tuple (DL [[47, 97, 47, 98, 47, 99], [47, 97, 47, 98]]))) (E0 hs) := tupG_ok (ds := DL [[47, 97, 47, 98, 47, 99], [47, 97, 47, 98]]) rfl z2
  have u2 : bnd (conA (cst (txt [47, 98])) (conA (cst (txt [47, 97, 47, 99])) (conA (cst (txt [47, 97])) nilA))) tupG (E0 hs) = .ok (.d (.tuple (DL [[47, 98], [47, 97, 47, 99], [47, 97]]))) (E0 hs) := tupG_ok (ds := DL [[47, 98], [47, 97, 47, 99], [47, 97]]) rfl z3
  have u3 : bnd (conA (cst (txt [47, 97])) (conA (cst (txt [47, 97, 47, 99])) (conA (cst (txt [47, 98])) nilA))) tupG (E0 hs) = .ok (.d (.tuple (DL [[47, 97], [47, 97, 47, 99], [47, 98]]))) (E0 hs) := tupG_ok (ds := DL [[47, 97], [47, 97, 47, 99], [47, 98]]) rfl z3
  have s5 : rtS ((andV (b2 (bnd (conA (cst (txt [97, 47, 98, 46, 99])) (conA (cst (txt [46, 100])) nilA)) (caN 2 m_with_end)) (cst (txt [97, 47, 98, 46, 100])) (cmV (eqG))) (andV (b2 (bnd (conA (cst (txt [47, 97, 47, 98, 47, 99])) (conA (cst (txt [47, 97, 47, 100])) nilA)) (caN 2 m_told_from)) (cst (txt [46, 46, 47, 98, 47, 99])) (cmV (eqG))) (andV (b2 (bnd (conA (bnd (conA (cst (txt [47, 97, 47, 98, 47, 99])) (conA (cst (txt [47, 97, 47, 98])) nilA)) tupG) nilA) (caN 1 m_shared_path)) (cst (txt [47, 97, 47, 98])) (cmV (eqG))) (andV (b2 (bnd (conA (bnd (conA (cst (txt [47, 98])) (conA (cst (txt [47, 97, 47, 99])) (conA (cst (txt [47, 97])) nilA))) tupG) nilA) (caN 1 m_in_turn)) (bnd (conA (cst (txt [47, 97])) (conA (cst (txt [47, 97, 47, 99])) (conA (cst (txt [47, 98])) nilA))) tupG) (cmV (eqG))) (andV (b2 (bnd (conA (cst (txt [46, 46, 47, 97, 47, 98])) nilA) (caN 1 m_depth_of)) (cst (.d (.int 1))) (cmV (eqG))) (b2 (bnd (conA (cst (txt [47])) nilA) (caN 1 m_name_of)) (cst (txt [])) (cmV (eqG)))))))) ) (E0 hs) = .ret (.d (.bool true)) (E0 hs) := by
    refine rtS_of (andV_T (eq_sameV (ca2 (cst_ok _ _) (cst_ok _ _) m6') (cst_ok _ _) (sh_tx (oc_of _ (by decide))) (eqv_tx' _)) ?_)
    refine andV_T (eq_sameV (ca2 (cst_ok _ _) (cst_ok _ _) m7') (cst_ok _ _) (sh_tx (oc_of _ (by decide))) (eqv_tx' _)) ?_
    refine andV_T (eq_sameV (ca1 u1 m8') (cst_ok _ _) (sh_tx (oc_of _ (by decide))) (eqv_tx' _)) ?_
    refine andV_T (eq_sameV (ca1 u2 m9') u3 (by decide +kernel) (by rw [eqv_tup]; exact decide_eq_true rfl)) ?_
    refine andV_T (eq_sameV (ca1 (cst_ok _ _) m10) (cst_ok _ _) (sh_int 1) (by decide +kernel)) ?_
    exact eq_sameV (ca1 (cst_ok _ _) m11) (cst_ok _ _) (sh_tx oc_0) (eqv_tx' _)
  exact mOf_ret (f := f__law_plain) (sqS_of s1 (sqS_of (ifS_F c1 rfl) (sqS_of (ifS_F c2 rfl) (sqS_of (ifS_F c3 rfl) (sqS_ret s5)))))
end K1

set_option Elab.async false
set_option linter.all false
set_option maxRecDepth 100000
set_option maxHeartbeats 1000000
namespace K1
open PySem L2 Ev Dc PySem.W PyProof.Rows
/-! ### the law's own steps, at any environment -/
section
variable {e e1 : Ev.Env} {i j : Nat} {l p q : List Nat}
theorem pieces_of (hv : vr j e = .ok (txt l) e) (hl : l.length ≤ 1000) : bnd (m1 (vr j) (cst (txt [47])) (splitG)) itG e = .ok ((sp l).map fun x => R.d (tx x)) e := by
  rw [bnd_of ((m1c_of hv).trans (e_split (by omega) e))]
  simp only [itG, it_dl]
theorem split_of (hv : vr j e = .ok (txt l) e) (hl : l.length ≤ 1000) : m1 (vr j) (cst (txt [47])) (splitG) e = .ok (.d (.list (DL (sp l)))) e := (m1c_of hv).trans (e_split (by omega) e)
theorem names_at (hf : Fr i e) (hij : i ≠ j) (hv : vr j e = .ok (txt l) e) (hl : l.length ≤ 1000) : frz (lcN [i] (bnd (m1 (vr j) (cst (txt [47])) (splitG)) itG) (setR i) (b2 (vr i) (bnd (conA (cst (txt [])) (conA (cst (txt [46])) nilA)) lstG) (cmT (inG true))) (vr i)) e = .ok (.d (.list (DL (parts l)))) e := by
  refine lcF_free tx nm tx (sp l) hf (pieces_of hv hl) (small (by have := sp_cnt l; omega)) fun x hx => ⟨?_, fun _ => vr_st hf.lt⟩
  have il := in_list true x [[], [46]] (st i (.d (tx x)) e)
  simp only [dl_cons, dl_nil] at il
  have z2 : (2 : Nat) ≤ sizeLine := by decide
  have hv := vr_st (d := tx x) hf.lt
  cases hn : nm x with
  | true =>
    have n1 := is_nm hn
    simp only [n1, decide_false, if_true, Bool.not_false] at il
    simp [a_b2, a_conA, a_nilA, bnd, hv, cst, lstG, allD, dOf, z2, cmT, il]
  | false =>
    have n1 := not_nm hn
    simp only [n1, decide_true, if_true, Bool.not_true] at il
    simp [a_b2, a_conA, a_nilA, bnd, hv, cst, lstG, allD, dOf, z2, cmT, il]
theorem first1 (hv : vr j e = .ok (txt l) e) (hl : l.length ≤ 1000) : slV (vr j) noP (bnd (cst (.d (.int 1))) inP) e = .ok (txt (l.take 1)) e := by
  have z : l.length ≤ sizeLine := small (by omega)
  rw [slV_of (α := Unit) (fl := noP) (fh := bnd (cst (.d (.int 1))) inP) (l := none) (h := some 1) (e2 := e) (e3 := e) hv rfl rfl]
  simp [slG, z]
theorem is47T (hv : vr j e = .ok (txt l) e) (hl : l.length ≤ 1000) (ho : Oc l) : b2 (slV (vr j) noP (bnd (cst (.d (.int 1))) inP)) (cst (txt [47])) (cmT (eqG)) e = .ok (wh l) e := eqT_tx (first1 hv hl) (cst_ok _ _) (oc_take ho 1) oc_47
theorem is47V (hv : vr j e = .ok (txt l) e) (hl : l.length ≤ 1000) (ho : Oc l) : b2 (slV (vr j) noP (bnd (cst (.d (.int 1))) inP)) (cst (txt [47])) (cmV (eqG)) e = .ok (.d (.bool (wh l))) e := eqV_tx (first1 hv hl) (cst_ok _ _) (oc_take ho 1) oc_47
theorem add_tx {fa fb : Ev.Env → Rs R} {a b : List Nat} {e2 : Ev.Env} (h1 : fa e = .ok (txt a) e1) (h2 : fb e1 = .ok (txt b) e2) (hz : a.length + b.length ≤ 100000) : b2 fa fb addG e = .ok (txt (a ++ b)) e2 := by
  have z : a.length + b.length ≤ sizeLine := small hz
  rw [b2_of h1 h2]
  simp [addG, z]
theorem oc_app2 {a b : List Nat} (h : Oc a) (g : Oc b) : Oc (a ++ 47 :: b) := oc_app h fun c hc => by
  rcases List.mem_cons.mp hc with rfl | hc
  · decide
  · exact g c hc
theorem oc_join {p q : List Nat} (h : Oc p) (g : Oc q) : Oc (joinP p q) := by
  unfold joinP
  split
  · exact g
  · exact oc_app2 h g
theorem Dp.jn {p q : List Nat} (h : Dp p) (g : Dp q) : Pw (joinP p q) := by
  have h1 := h.le
  have h2 := g.le
  refine ⟨?_, ?_, oc_join h.oc g.oc⟩
  · unfold joinP
    split
    · exact g.pw.ne
    · simp; omega
  · unfold joinP
    split
    · omega
    · simp; omega
theorem led_len (s : List (List Nat)) (p : List Nat) : (led s p).length ≤ s.length + p.length + 1 := by
  unfold led
  have key : ∀ (L : List (List Nat)) (s : List (List Nat)), (L.foldl ledF s).length ≤ s.length + L.length := fun L => by
    induction L with
    | nil => intro s; simp
    | cons x L ih =>
      intro s
      have := ih (ledF s x)
      have h : (ledF s x).length ≤ s.length + 1 := by unfold ledF; split <;> simp <;> omega
      simp only [List.foldl_cons, List.length_cons]; omega
  have h1 := key (parts p) (if wh p then [] else s)
  have h2 := parts_count p
  have h3 : (if wh p then ([] : List (List Nat)) else s).length ≤ s.length := by split <;> simp
  omega
theorem oc_led {s : List (List Nat)} (hs : Ocs s) (ho : Oc p) : Ocs (led s p) := by
  unfold led
  have key : ∀ (L : List (List Nat)), Ocs L → ∀ s : List (List Nat), Ocs s → Ocs (L.foldl ledF s) := fun L => by
    induction L with
    | nil => intro _ s h; exact h
    | cons x L ih =>
      intro hL s h
      refine ih (fun y hy => hL y (List.mem_cons_of_mem _ hy)) _ ?_
      unfold ledF
      split
      · exact fun y hy => h y (List.dropLast_subset _ hy)
      · exact fun y hy => (List.mem_append.mp hy).elim (h y) fun z => by rw [List.mem_singleton.mp z]; exact hL x List.mem_cons_self
  refine key _ (oc_parts ho) _ ?_
  split
  · exact fun y hy => by cases hy
  · exact hs
theorem eqv_dl' (L : List (List Nat)) : PyData.eqv (.list (DL L)) (.list (DL L)) = true := by rw [eqv_list]; exact decide_eq_true rfl
abbrev deepL : List (List Nat) := [[116], [117], [118], [119], [120], [121], [122]]
theorem oc_deep : Ocs deepL := by
  intro x hx
  simp at hx
  rcases hx with rfl | rfl | rfl | rfl | rfl | rfl | rfl <;> exact oc_of _ (by decide)
theorem c_made (hp : Dp p) (h2 : vr 2 e = .ok (txt p) e) (h4 : vr 4 e = .ok (.d (.list (DL deepL))) e) (h5 : vr 5 e = .ok (txt (plainL p)) e) : (orT (b2 (vr 5) (bnd (conA (vr 2) nilA) (caN 1 m__law_plain_path)) (cmT (neG))) (orT (b2 (bnd (conA (vr 5) nilA) (caN 1 m_made_plain)) (vr 5) (cmT (neG))) (b2 (bnd (conA (vr 4) (conA (vr 5) nilA)) (caN 2 m__law_led)) (bnd (conA (vr 4) (conA (vr 2) nilA)) (caN 2 m__law_led)) (cmT (neG))))) e = .ok false e := by
  have l1 := hp.le
  have l2 := hp.pl.le
  have k1 := s_lpp (l := p) (by omega) hp.oc []
  have k2 := s_made hp.pl []
  rw [plain_idem] at k2
  have k3 := s_led (S := deepL) (l := plainL p) (by simp) oc_deep (by omega) hp.pl.oc []
  have k4 := s_led (S := deepL) (l := p) (by simp) oc_deep (by omega) hp.oc []
  rw [led_plain] at k3
  refine orT_F (ne_same h5 (ca1 h2 k1) (sh_tx hp.pl.oc) (eqv_tx' _)) (orT_F (ne_same (ca1 h5 k2) h5 (sh_tx hp.pl.oc) (eqv_tx' _)) (ne_same (ca2 h4 h5 k3) (ca2 h4 h2 k4) (sh_list (oc_led oc_deep hp.oc)) (eqv_dl' _)))
theorem c_parts (hp : Dp p) (hf : Fr 22 e) (h2 : vr 2 e = .ok (txt p) e) : b2 (bnd (conA (bnd (conA (vr 2) nilA) (caN 1 m_parts_of)) nilA) listG) (frz (lcN [22] (bnd (m1 (vr 2) (cst (txt [47])) (splitG)) itG) (setR 22) (b2 (vr 22) (bnd (conA (cst (txt [])) (conA (cst (txt [46])) nilA)) lstG) (cmT (inG true))) (vr 22))) (cmT (neG)) e = .ok false e := by
  have l1 := hp.le
  have k1 : bnd (conA (bnd (conA (vr 2) nilA) (caN 1 m_parts_of)) nilA) listG e = .ok (.d (.list (DL (parts p)))) e := by
    rw [bnd_of (one_of (ca1 h2 (s_parts hp.pw [])))]; rfl
  exact ne_same k1 (names_at hf (by decide) h2 (by omega)) (sh_list (oc_parts hp.oc)) (eqv_dl' _)
theorem v_joined (hp : Dp p) (hq : Dp q) (h2 : vr 2 e = .ok (txt p) e) (h3 : vr 3 e = .ok (txt q) e) : bnd (conA (vr 2) (conA (vr 3) nilA)) (caN 2 m_joined_path) e = .ok (txt (plainL (joinP p q))) e := ca2 h2 h3 (s_joined hp.pw hq.pw (hp.jn hq) [])
theorem v_join (hp : Dp p) (hq : Dp q) (h2 : vr 2 e = .ok (txt p) e) (h3 : vr 3 e = .ok (txt q) e) : ifV (b2 (slV (vr 3) noP (bnd (cst (.d (.int 1))) inP)) (cst (txt [47])) (cmT (eqG))) (vr 3) (b2 (b2 (vr 2) (cst (txt [47])) addG) (vr 3) addG) e = .ok (txt (joinP p q)) e := by
  have l1 := hp.le
  have l2 := hq.le
  have c := is47T h3 (by omega) hq.oc
  unfold joinP
  cases w : wh q with
  | true =>
    rw [w] at c
    exact ifV_T c h3
  | false =>
    rw [w] at c
    refine ifV_F c ((add_tx (add_tx h2 (cst_ok _ _) (by simp; omega)) h3 (by simp; omega)).trans ?_)
    simp
theorem c_joined (hp : Dp p) (hq : Dp q) (h2 : vr 2 e = .ok (txt p) e) (h3 : vr 3 e = .ok (txt q) e) (h6 : vr 6 e = .ok (txt (plainL (joinP p q))) e) : b2 (vr 6) (bnd (conA (ifV (b2 (slV (vr 3) noP (bnd (cst (.d (.int 1))) inP)) (cst (txt [47])) (cmT (eqG))) (vr 3) (b2 (b2 (vr 2) (cst (txt [47])) addG) (vr 3) addG)) nilA) (caN 1 m__law_plain_path)) (cmT (neG)) e = .ok false e := by
  have j := hp.jn hq
  have l := j.le
  exact ne_same h6 (ca1 (v_join hp hq h2 h3) (s_lpp (by omega) j.oc [])) (sh_tx (oc_plain j.oc)) (eqv_tx' _)
theorem c_led2 (hp : Dp p) (hq : Dp q) (h2 : vr 2 e = .ok (txt p) e) (h3 : vr 3 e = .ok (txt q) e) (h4 : vr 4 e = .ok (.d (.list (DL deepL))) e) (h6 : vr 6 e = .ok (txt (plainL (joinP p q))) e) : b2 (bnd (conA (vr 4) (conA (vr 6) nilA)) (caN 2 m__law_led)) (bnd (conA (bnd (conA (vr 4) (conA (vr 2) nilA)) (caN 2 m__law_led)) (conA (vr 3) nilA)) (caN 2 m__law_led)) (cmT (neG)) e = .ok false e := by
  have j := hp.jn hq
  have l := j.le
  have l1 := hp.le
  have l2 := hq.le
  have lj := plain_len (joinP p q) j.nn
  have k1 := s_led (S := deepL) (l := plainL (joinP p q)) (by simp) oc_deep (by omega) (oc_plain j.oc) []
  rw [led_plain, led_join _ hp.nn] at k1
  have k2 := s_led (S := deepL) (l := p) (by simp) oc_deep (by omega) hp.oc []
  have ll := led_len deepL p
  have k3 := s_led (S := led deepL p) (l := q) (by simp at ll; omega) (oc_led oc_deep hp.oc) (by omega) hq.oc []
  exact ne_same (ca2 h4 h6 k1) (ca2 (ca2 h4 h2 k2) h3 k3) (sh_list (oc_led (oc_led oc_deep hp.oc) hq.oc)) (eqv_dl' _)
theorem c_parent (hp : Dp p) (h2 : vr 2 e = .ok (txt p) e) : b2 (bnd (conA (vr 2) nilA) (caN 1 m_parent_of)) (bnd (conA (b2 (vr 2) (cst (txt [47, 46, 46])) addG) nilA) (caN 1 m__law_plain_path)) (cmT (neG)) e = .ok false e := by
  have l1 := hp.le
  have ej : joinP p dd = p ++ [47, 46, 46] := rfl
  have pj : Pw (joinP p dd) := ⟨by rw [ej]; simp, by rw [ej]; simp; omega, oc_join hp.oc oc_dd⟩
  have k1 := s_parent hp.pw pj []
  have k2 := s_lpp (l := joinP p dd) (by have := pj.le; omega) pj.oc []
  have k3 : b2 (vr 2) (cst (txt [47, 46, 46])) addG e = .ok (txt (joinP p dd)) e := add_tx h2 (cst_ok _ _) (by simp; omega)
  exact ne_same (ca1 h2 k1) (ca1 k3 k2) (sh_tx (oc_plain pj.oc)) (eqv_tx' _)
theorem cnt_dl (x : List Nat) (L : List (List Nat)) : (L.map sOf).count (sOf x) = L.count x := by
  induction L with
  | nil => rfl
  | cons y L ih =>
    rw [List.map_cons, List.count_cons, List.count_cons, ih]
    congr 1
    by_cases h : y = x
    · subst h; simp
    · have : ¬ sOf y = sOf x := fun z => h (sOf_inj.mp z)
      simp [h, this]
theorem c_three (hp : Dp p) (hf : Fr 22 e) (h2 : vr 2 e = .ok (txt p) e) (h5 : vr 5 e = .ok (txt (plainL p)) e) : (orT (b2 (bnd (conA (vr 2) nilA) (caN 1 m_is_whole)) (b2 (slV (vr 2) noP (bnd (cst (.d (.int 1))) inP)) (cst (txt [47])) (cmV (eqG))) (cmT (neG))) (orT (b2 (bnd (conA (vr 2) nilA) (caN 1 m_name_of)) (b2 (m1 (vr 5) (cst (txt [47])) (splitG)) (bnd (cst (.d (.int 1))) negG) ixG) (cmT (neG))) (b2 (bnd (conA (vr 2) nilA) (caN 1 m_depth_of)) (b2 (bnd (conA (frz (lcN [22] (bnd (m1 (vr 5) (cst (txt [47])) (splitG)) itG) (setR 22) (b2 (vr 22) (bnd (conA (cst (txt [])) (conA (cst (txt [46])) (conA (cst (txt [46, 46])) nilA))) lstG) (cmT (inG true))) (cst (.d (.int 1))))) nilA) lenG) (lmA (m1 (vr 5) (cst (txt [47])) (splitG)) (conA (cst (txt [46, 46])) nilA) cntG) subG) (cmT (neG))))) e = .ok false e := by
  have l1 := hp.le
  have l2 := hp.pl.le
  have k1 := s_whole hp.pw.sz hp.oc []
  have k2 := s_name hp.pw []
  have k3 := s_depth hp.pw hp.pl []
  rw [dep_law] at k3
  have n1 : b2 (m1 (vr 5) (cst (txt [47])) (splitG)) (bnd (cst (.d (.int 1))) negG) ixG e = .ok (txt (lastL (sp (plainL p)))) e := by
    rw [b2_of (split_of h5 (by omega)) (show bnd (cst (.d (.int 1))) negG e = .ok (.d (.int (-1))) e from rfl)]
    simp only [ixG, lof, at_lastL (sp_ne (plainL p))]
  have on := oc_sp hp.pl.oc _ (name_sp p)
  have m1' : frz (lcN [22] (bnd (m1 (vr 5) (cst (txt [47])) (splitG)) itG) (setR 22) (b2 (vr 22) (bnd (conA (cst (txt [])) (conA (cst (txt [46])) (conA (cst (txt [46, 46])) nilA))) lstG) (cmT (inG true))) (cst (.d (.int 1)))) e = .ok (.d (.list (((sp (plainL p)).filter fun x => decide (¬ x ∈ ([[], [46], dd] : List (List Nat)))).map fun _ => .int 1))) e := by
    refine lcF_free tx (fun x => decide (¬ x ∈ ([[], [46], dd] : List (List Nat)))) (fun _ => .int 1) (sp (plainL p)) hf (pieces_of h5 (by omega)) (small (by have := sp_cnt (plainL p); omega)) fun x hx => ⟨?_, fun _ => rfl⟩
    have il := in_list true x [[], [46], dd] (st 22 (.d (tx x)) e)
    simp only [dl_cons, dl_nil] at il
    have z3 : (3 : Nat) ≤ sizeLine := by decide
    have hv := vr_st (d := tx x) hf.lt
    have hb : b2 (vr 22) (bnd (conA (cst (txt [])) (conA (cst (txt [46])) (conA (cst (txt [46, 46])) nilA))) lstG) (cmT (inG true)) (st 22 (.d (tx x)) e) = .ok (!decide (x ∈ ([[], [46], dd] : List (List Nat)))) (st 22 (.d (tx x)) e) := by
      simp [a_b2, a_conA, a_nilA, bnd, hv, cst, lstG, allD, dOf, z3, cmT, il, -List.mem_cons]
    rw [hb]
    by_cases h : x ∈ ([[], [46], dd] : List (List Nat)) <;> simp [h, -List.mem_cons]
  have c1 : lmA (m1 (vr 5) (cst (txt [47])) (splitG)) (conA (cst (txt [46, 46])) nilA) cntG e = .ok (.d (.int ((sp (plainL p)).count dd : Nat))) e := by
    rw [a_lmA, bnd_of (split_of h5 (by omega))]
    simp only [lof]
    rw [bnd_of (one_of (cst_ok _ _))]
    simp only [cntG, lof, strs_dl, cnt_dl]
  have d1 : b2 (bnd (conA (frz (lcN [22] (bnd (m1 (vr 5) (cst (txt [47])) (splitG)) itG) (setR 22) (b2 (vr 22) (bnd (conA (cst (txt [])) (conA (cst (txt [46])) (conA (cst (txt [46, 46])) nilA))) lstG) (cmT (inG true))) (cst (.d (.int 1))))) nilA) lenG) (lmA (m1 (vr 5) (cst (txt [47])) (splitG)) (conA (cst (txt [46, 46])) nilA) cntG) subG e = .ok (.d (.int (lawDep (plainL p)))) e := by
    rw [b2_of (x := .d (.int (((sp (plainL p)).filter fun x => decide (¬ x ∈ ([[], [46], dd] : List (List Nat)))).length : Nat))) (e1 := e) ?_ c1]
    · rfl
    · rw [bnd_of (one_of m1')]
      simp [lenG, lof]
  exact orT_F (ne_same (ca1 h2 k1) (is47V h2 (by omega) hp.oc) (sh_bl _) (by rw [eqv_bl]; exact decide_eq_true rfl)) (orT_F (ne_same (ca1 h2 k2) n1 (sh_tx on) (eqv_tx' _)) (ne_same (ca1 h2 k3) d1 (sh_int _) (by rw [eqv_int]; exact decide_eq_true rfl)))
end
end K1

set_option Elab.async false
set_option linter.all false
set_option maxRecDepth 100000
set_option maxHeartbeats 1000000
namespace K1
open PySem L2 Ev Dc PySem.W PyProof.Rows
section
variable {e e1 : Ev.Env} {i j : Nat} {l p q : List Nat}
def tolT (p q : List Nat) : List Nat := if goodT p q = true then toldL p q else PE
theorem oc_told (h : Dp p) : Oc (toldL p q) := fun c hc => by
  rcases told_chars hc with rfl | rfl | z
  · decide
  · decide
  · exact h.oc c z
theorem told_len (h : Dp p) (g : Dp q) : (toldL p q).length ≤ 200 := by
  have h1 := rows_sum (upsT p q) (restT p q)
  have h2 := res_cnt q
  have h3 := res_sz p
  have h4 := sum_drop (res p).2 (cp (res p).2 (res q).2)
  have h5 : upsT p q ≤ (res q).2.length := Nat.sub_le _ _
  have l1 := h.le
  have l2 := g.le
  have k := jn_szL (rows (upsT p q) (restT p q))
  have e : szL (rows (upsT p q) (restT p q)) = ((rows (upsT p q) (restT p q)).map (·.length + 1)).sum := rfl
  rw [e, h1] at k
  unfold szS at h3 k
  unfold restT at k
  dsimp only at k
  unfold toldL pOf
  simp only [Bool.false_eq_true, if_false]
  split
  · simp
  · unfold restT; omega
theorem oc_tolT (h : Dp p) : Oc (tolT p q) := by
  unfold tolT
  split
  · exact oc_told h
  · exact oc_PE
theorem told_ne (h : Dp p) : toldL p q ≠ PE := fun z => by
  have hc : 80 ∈ toldL p q := by rw [z]; simp
  rcases told_chars hc with c | c | c
  · revert c; decide
  · revert c; decide
  · have := h.ch 80 c
    revert this; decide
theorem v_told (hp : Dp p) (hq : Dp q) (h2 : vr 2 e = .ok (txt p) e) (h3 : vr 3 e = .ok (txt q) e) : toldV 1 [80, 97, 116, 104, 69, 114, 114, 111, 114] (bnd (conA (vr 2) (conA (vr 3) nilA)) (caN 2 m_told_from)) e = .ok (txt (tolT p q)) e := by
  have k := s_told hp.pw hq.pw hp.pl hq.pl []
  unfold tolT
  by_cases g : goodT p q = true
  · rw [if_pos g] at k ⊢
    exact told_ok (ca2 h2 h3 k)
  · rw [if_neg g] at k ⊢
    exact told_err (ca2e h2 h3 k)
theorem v_lpp (hp : Dp p) (h : vr j e = .ok (txt p) e) : bnd (conA (vr j) nilA) (caN 1 m__law_plain_path) e = .ok (txt (plainL p)) e := ca1 h (s_lpp (by have := hp.le; omega) hp.oc [])
theorem v_good1 (hp : Dp p) (hq : Dp q) (h2 : vr 2 e = .ok (txt p) e) (h3 : vr 3 e = .ok (txt q) e) : ifV (b2 (cst (txt [47])) (bnd (conA (slV (vr 2) noP (bnd (cst (.d (.int 1))) inP)) (conA (slV (vr 3) noP (bnd (cst (.d (.int 1))) inP)) nilA)) lstG) (cmT (inG false))) (b2 (slV (vr 2) noP (bnd (cst (.d (.int 1))) inP)) (slV (vr 3) noP (bnd (cst (.d (.int 1))) inP)) (cmV (eqG))) (cst (.d (.bool true))) e = .ok (.d (.bool (decide (wh p = wh q)))) e := by
  have l1 := hp.le
  have l2 := hq.le
  have f2 := first1 h2 (by omega)
  have f3 := first1 h3 (by omega)
  have z2 : (2 : Nat) ≤ sizeLine := by decide
  have hl : bnd (conA (slV (vr 2) noP (bnd (cst (.d (.int 1))) inP)) (conA (slV (vr 3) noP (bnd (cst (.d (.int 1))) inP)) nilA)) lstG e = .ok (.d (.list (DL [p.take 1, q.take 1]))) e := by
    rw [bnd_of (conA_of f2 (one_of f3))]
    simp [lstG, allD, dOf, z2]
  have il := in_list false [47] [p.take 1, q.take 1] e
  have hc : b2 (cst (txt [47])) (bnd (conA (slV (vr 2) noP (bnd (cst (.d (.int 1))) inP)) (conA (slV (vr 3) noP (bnd (cst (.d (.int 1))) inP)) nilA)) lstG) (cmT (inG false)) e = .ok (decide ([47] ∈ [p.take 1, q.take 1])) e := by
    rw [b2_of (cst_ok _ _) hl]
    simp only [cmT]
    rw [il]
    rfl
  by_cases m : [47] ∈ [p.take 1, q.take 1]
  · rw [decide_eq_true m] at hc
    refine ifV_T hc ((eqV_tx f2 f3 (oc_take hp.oc 1) (oc_take hq.oc 1)).trans ?_)
    congr 4
    apply propext
    unfold wh
    simp only [List.mem_cons, List.not_mem_nil, or_false] at m
    rcases m with m | m
    · rw [← m]
      constructor
      · intro z; rw [← z]
      · intro z
        rw [decide_eq_true rfl] at z
        exact (of_decide_eq_true z.symm).symm
    · rw [← m]
      constructor
      · intro z; rw [z]
      · intro z
        rw [decide_eq_true (p := ([47] : List Nat) = [47]) rfl] at z
        exact of_decide_eq_true z
  · rw [decide_eq_false m] at hc
    refine ifV_F hc ?_
    simp only [List.mem_cons, List.not_mem_nil, or_false, not_or] at m
    have w1 : wh p = false := decide_eq_false fun z => m.1 z.symm
    have w2 : wh q = false := decide_eq_false fun z => m.2 z.symm
    rw [w1, w2]; rfl
theorem v_nodd (hp : Dp p) (h : vr j e = .ok (txt (plainL p)) e) : b2 (cst (txt [46, 46])) (m1 (vr j) (cst (txt [47])) (splitG)) (cmV (inG true)) e = .ok (.d (.bool (decide ((res p).1 = 0)))) e := by
  have l := hp.pl.le
  rw [b2_of (cst_ok _ _) (split_of h (by omega))]
  simp only [cmV]
  rw [in_list true dd (sp (plainL p)) e]
  simp only [if_true]
  congr 4
  by_cases z : (res p).1 = 0
  · rw [decide_eq_true z, decide_eq_false fun y => (dd_sp p).mp y z]; rfl
  · rw [decide_eq_false z, decide_eq_true ((dd_sp p).mpr z)]; rfl
theorem v_good2 (hp : Dp p) (hq : Dp q) (h8 : vr 8 e = .ok (txt (plainL p)) e) (h9 : vr 9 e = .ok (txt (plainL q)) e) (h10 : vr 10 e = .ok (.d (.bool (decide (wh p = wh q)))) e) : (andV (vr 10) (andV (b2 (cst (txt [46, 46])) (m1 (vr 8) (cst (txt [47])) (splitG)) (cmV (inG true))) (b2 (cst (txt [46, 46])) (m1 (vr 9) (cst (txt [47])) (splitG)) (cmV (inG true))))) e = .ok (.d (.bool (goodT p q))) e := by
  have k1 := v_nodd hp h8
  have k2 := v_nodd hq h9
  unfold goodT
  by_cases a : wh p = wh q
  · rw [decide_eq_true a] at h10
    refine (andV_T h10 rfl).trans ?_
    by_cases b : (res p).1 = 0
    · rw [decide_eq_true b] at k1
      refine (andV_T k1 k2).trans ?_
      congr 4
      exact propext ⟨fun z => ⟨a, b, z⟩, fun z => z.2.2⟩
    · rw [decide_eq_false b] at k1
      refine (andV_F k1).trans ?_
      rw [decide_eq_false fun z => b z.2.1]
  · rw [decide_eq_false a] at h10
    refine (andV_F h10).trans ?_
    rw [decide_eq_false fun z => a z.1]
theorem eq_blT {fa fb : Ev.Env → Rs R} {a b : Bool} {e2 : Ev.Env} (h1 : fa e = .ok (.d (.bool a)) e1) (h2 : fb e1 = .ok (.d (.bool b)) e2) : b2 fa fb (cmT eqG) e = .ok (decide (a = b)) e2 := by
  rw [b2_of h1 h2]
  simp only [cmT, eqG, dof, sh_bl, and_self, if_true, eqv_bl]
theorem c_told1 (hp : Dp p) (h7 : vr 7 e = .ok (txt (tolT p q)) e) (h10 : vr 10 e = .ok (.d (.bool (goodT p q))) e) : b2 (b2 (vr 7) (cst (txt [80, 97, 116, 104, 69, 114, 114, 111, 114])) (cmV (eqG))) (vr 10) (cmT (eqG)) e = .ok false e := by
  refine (eq_blT (eqV_tx h7 (cst_ok _ _) (oc_tolT hp) oc_PE) h10).trans ?_
  congr 1
  unfold tolT
  cases g : goodT p q with
  | true =>
    rw [if_pos rfl, decide_eq_false (told_ne hp)]; rfl
  | false =>
    rw [if_neg (by decide)]; rfl
theorem truT_bl {f : Ev.Env → Rs R} {b : Bool} (h : f e = .ok (.d (.bool b)) e1) : bnd f truT e = .ok b e1 := by
  rw [bnd_of h]; rfl
theorem c_told2 (hp : Dp p) (hq : Dp q) (h7 : vr 7 e = .ok (txt (tolT p q)) e) (h8 : vr 8 e = .ok (txt (plainL p)) e) (h9 : vr 9 e = .ok (txt (plainL q)) e) (h10 : vr 10 e = .ok (.d (.bool (goodT p q))) e) : (andT (bnd (vr 10) truT) ((orT (b2 (bnd (conA (ifV (b2 (vr 9) (cst (txt [47])) (cmT (neG))) (b2 (b2 (vr 9) (cst (txt [47])) addG) (vr 7) addG) (b2 (cst (txt [47])) (vr 7) addG)) nilA) (caN 1 m__law_plain_path)) (vr 8) (cmT (neG))) (b2 (vr 7) (bnd (conA (vr 7) nilA) (caN 1 m__law_plain_path)) (cmT (neG)))))) e = .ok false e := by
  cases g : goodT p q with
  | false =>
    rw [g] at h10
    exact andT_F (truT_bl h10)
  | true =>
    rw [g] at h10
    have et : tolT p q = toldL p q := if_pos g
    rw [et] at h7
    have tl := told_len hp hq
    have ot := oc_told (q := q) hp
    have pl := hq.pl.le
    have v1 : ifV (b2 (vr 9) (cst (txt [47])) (cmT (neG))) (b2 (b2 (vr 9) (cst (txt [47])) addG) (vr 7) addG) (b2 (cst (txt [47])) (vr 7) addG) e = .ok (txt (backT p q)) e := by
      have c := neT_tx h9 (cst_ok (txt [47]) e) hq.pl.oc oc_47
      unfold backT
      by_cases z : plainL q = [47]
      · rw [decide_eq_true z] at c
        rw [if_neg fun y => y z]
        exact (ifV_F c (add_tx (cst_ok _ _) h7 (by simp; omega))).trans rfl
      · rw [decide_eq_false z] at c
        rw [if_pos z]
        refine (ifV_T c (add_tx (add_tx h9 (cst_ok _ _) (by simp; omega)) h7 (by simp; omega))).trans ?_
        simp
    have bl : (backT p q).length ≤ 1000 := by unfold backT; split <;> simp <;> omega
    have bo : Oc (backT p q) := by
      unfold backT
      split
      · exact oc_app2 hq.pl.oc ot
      · exact oc_app oc_47 ot
    have k1 := s_lpp bl bo []
    rw [told_back g] at k1
    have k2 := s_lpp (l := toldL p q) (by omega) ot []
    rw [told_plain] at k2
    exact andT_T (truT_bl h10) (orT_F (ne_same (ca1 v1 k1) h8 (sh_tx hp.pl.oc) (eqv_tx' _)) (ne_same h7 (ca1 h7 k2) (sh_tx ot) (eqv_tx' _)))
theorem c_within (hp : Dp p) (hq : Dp q) (h2 : vr 2 e = .ok (txt p) e) (h3 : vr 3 e = .ok (txt q) e) (h8 : vr 8 e = .ok (txt (plainL p)) e) (h9 : vr 9 e = .ok (txt (plainL q)) e) : b2 (bnd (conA (vr 2) (conA (vr 3) nilA)) (caN 2 m_is_within)) (bnd (conA (vr 8) (conA (vr 9) nilA)) (caN 2 m__law_within)) (cmT (neG)) e = .ok false e := by
  have l1 := hp.pl.le
  have l2 := hq.pl.le
  exact ne_same (ca2 h2 h3 (s_within hp.pw hq.pw hp.pl hq.pl [])) (ca2 h8 h9 (s_lwithin (by omega) hp.pl.oc (by omega) hq.pl.oc [])) (sh_bl _) (by rw [eqv_bl]; exact decide_eq_true rfl)
end
end K1

set_option Elab.async false
set_option linter.all false
set_option maxRecDepth 100000
set_option maxHeartbeats 1000000
namespace Ev
open PySem L2 Dc
/-- the dice stand in slot 1 -/
def ow (o : Ob) (e : Ev.Env) : Ev.Env := ⟨e.sl.set 1 (some (.own o)), e.hs⟩
section
variable {o o' : Ob} {e e' : Ev.Env} {i j : Nat} {r x : R}
theorem ow_ow : ow o' (ow o e) = ow o' e := by unfold ow; simp
theorem ow_st (h : i ≠ 1) : ow o (st i x e) = st i x (ow o e) := by
  unfold ow st
  simp only [Env.mk.injEq, and_true]
  exact List.set_comm _ _ h
theorem vr_ow (h : 1 < e.sl.length) : vr 1 (ow o e) = .ok (.loc 1) (ow o e) := by
  unfold vr
  have : (ow o e).sl[1]? = some (some (.own o)) := List.getElem?_set_self h
  rw [this]
theorem root_ow (h : 1 < e.sl.length) : rootOf (ow o e) (.loc 1) = some o := by
  unfold rootOf
  have : (ow o e).sl[1]? = some (some (.own o)) := List.getElem?_set_self h
  dsimp only
  rw [this]
theorem put_ow : putR (ow o e) (.loc 1) o' = ow o' e := ow_ow
theorem vr_ow_ne (hj : j ≠ 1) (h : vr j e = .ok r e) : vr j (ow o e) = .ok r (ow o e) := by
  unfold vr at h ⊢
  have : (ow o e).sl[j]? = e.sl[j]? := List.getElem?_set_ne (Ne.symm hj)
  rw [this]
  split at h
  · rename_i r' hr
    injection h with h1 h2
    subst h1
    rfl
  · rename_i o ho
    injection h with h1 h2
    subst h1
    rfl
  · cases h
theorem Fr.ow (hj : j ≠ 1) (h : Fr j e) : Fr j (ow o e) := by
  unfold Fr
  have : (Ev.ow o e).sl[j]? = e.sl[j]? := List.getElem?_set_ne (Ne.symm hj)
  rw [this]; exact h
theorem ow_len : (ow o e).sl.length = e.sl.length := List.length_set
theorem st_len : (st i x e).sl.length = e.sl.length := List.length_set
theorem re_fr (h0 : Fr i e) (h : Fr i e') : reE [i] e e' = e' := by
  refine sl_ext (fun k => ?_) rfl
  unfold reE
  rw [List.getElem?_mapIdx]
  cases q : e'.sl[k]? with
  | none => rfl
  | some s =>
    simp only [Option.map_some, List.mem_singleton]
    split
    · rename_i hk
      subst hk
      unfold Fr at h h0
      rw [h] at q
      cases q
      rw [h0]; rfl
    · rfl
end
end Ev
namespace K1
open PySem L2 Ev Dc PySem.W PyProof.Rows
section
variable {e e1 : Ev.Env} {i j : Nat} {l p q : List Nat}
theorem roll_ow (a b c m : Int) (h : 1 < e.sl.length) (hm : 1 ≤ m) (hM : m ≤ 100000000) : ∃ v a' b' c' : Int, 0 ≤ v ∧ v < m ∧ bnd (conA (vr 1) (conA (cst (.d (.int m))) nilA)) (caN 2 m__law_roll) (ow (DO a b c) e) = .ok (.d (.int v)) (ow (DO a' b' c') e) := by
  obtain ⟨v, a', b', c', h1, h2, h3⟩ := rollE a b c m (.inl ⟨1, rfl⟩) (vr_ow h) (root_ow h) hm hM
  exact ⟨v, a', b', c', h1, h2, h3.trans (by rw [put_ow])⟩
theorem drawn_ow (a b c : Int) (h : 1 < e.sl.length) : ∃ p a' b' c', Dp p ∧ bnd (conA (vr 1) nilA) (caN 1 m__law_drawn) (ow (DO a b c) e) = .ok (txt p) (ow (DO a' b' c') e) := by
  obtain ⟨p, a', b', c', h1, h2⟩ := s_drawn a b c
  refine ⟨p, a', b', c', h1, ?_⟩
  rw [bnd_of (one_of (vr_ow h))]
  simp only [caN, caM, splitA, root_ow h, h2, List.length_cons, List.length_nil, okR, if_true, put_ow]
theorem texts_P {Pp : List Nat → Prop} {ds : List Dt} : (∀ d ∈ ds, ∃ x, Pp x ∧ d = tx x) → ∃ L : List (List Nat), ds = DL L ∧ (∀ x ∈ L, Pp x) := by
  induction ds with
  | nil => exact fun _ => ⟨[], rfl, by simp⟩
  | cons d ds ih =>
    intro h
    obtain ⟨x, h1, rfl⟩ := h d List.mem_cons_self
    obtain ⟨L, rfl, h2⟩ := ih fun y hy => h y (List.mem_cons_of_mem _ hy)
    exact ⟨x :: L, rfl, fun y hy => by
      rcases List.mem_cons.mp hy with rfl | hy
      · exact h1
      · exact h2 y hy⟩
/-- as many texts as a die tells, each drawn -/
theorem many_ow {Pp : List Nat → Prop} (a b c m : Int) {fe : Ev.Env → Rs R} (h : 1 < e.sl.length) (hf : Fr 20 e) (hm : 1 ≤ m) (hM : m ≤ 1000) (hfe : ∀ (a b c : Int) (e' : Ev.Env), 1 < e'.sl.length → ∃ x a' b' c', Pp x ∧ fe (ow (DO a b c) e') = .ok (txt x) (ow (DO a' b' c') e')) :
    ∃ (L : List (List Nat)) (a' b' c' : Int), 1 ≤ L.length ∧ (L.length : Int) ≤ m ∧ (∀ x ∈ L, Pp x) ∧ frz (lcN [20] (bnd (conA (b2 (cst (.d (.int 1))) (bnd (conA (vr 1) (conA (cst (.d (.int m))) nilA)) (caN 2 m__law_roll)) addG) nilA) rgG) (setR 20) yesT fe) (ow (DO a b c) e) = .ok (.d (.list (DL L))) (ow (DO a' b' c') e) := by
  obtain ⟨n, a1, b1, c1, n0, nm, hn⟩ := roll_ow a b c m h hm (by omega)
  have hr : bnd (conA (b2 (cst (.d (.int 1))) (bnd (conA (vr 1) (conA (cst (.d (.int m))) nilA)) (caN 2 m__law_roll)) addG) nilA) rgG (ow (DO a b c) e) = .ok ((List.range (n.toNat + 1)).map fun (k : Nat) => R.d (.int (0 + (k : Int)))) (ow (DO a1 b1 c1) e) := by
    have h1 : b2 (cst (.d (.int 1))) (bnd (conA (vr 1) (conA (cst (.d (.int m))) nilA)) (caN 2 m__law_roll)) addG (ow (DO a b c) e) = .ok (.d (.int ((n.toNat + 1 : Nat) : Int))) (ow (DO a1 b1 c1) e) := by
      rw [b2_of (cst_ok _ _) hn]
      have : (1 : Int) + n = ((n.toNat + 1 : Nat) : Int) := by omega
      rw [← this]; rfl
    rw [bnd_of (one_of h1)]
    exact rg_of (by omega) _
  obtain ⟨ds, e2, k1, k2, k3, a2, b2', c2, rfl⟩ := lcL_draw (vs := [20]) (t := setR 20) (fe := fe) (fun e' => ∃ a b c, e' = ow (DO a b c) e) (fun d => ∃ x, Pp x ∧ d = tx x) ((List.range (n.toNat + 1)).map fun (k : Nat) => R.d (.int (0 + (k : Int)))) (fun r hr e' ⟨a, b, c, he⟩ => by
    subst he
    obtain ⟨k, _, rfl⟩ := List.mem_map.mp hr
    obtain ⟨x, a', b', c', hx, hv⟩ := hfe a b c (st 20 (.d (.int (0 + (k : Int)))) e) (by rw [st_len]; exact h)
    have e1 : setR 20 (.d (.int (0 + (k : Int)))) (ow (DO a b c) e) = some (st 20 (.d (.int (0 + (k : Int)))) (ow (DO a b c) e)) := setR_st (by rw [ow_len]; exact hf.lt)
    rw [← ow_st (by decide)] at e1
    have e2 : wipE [20] (ow (DO a' b' c') (st 20 (.d (.int (0 + (k : Int)))) e)) = ow (DO a' b' c') e := by
      rw [ow_st (by decide)]
      exact wip_st (hf.ow (by decide))
    exact ⟨_, tx x, _, e1, hv, ⟨x, hx, rfl⟩, a', b', c', e2⟩) [] (ow (DO a1 b1 c1) e) ⟨a1, b1, c1, rfl⟩ (by simp; exact small (by omega))
  obtain ⟨L, rfl, hL⟩ := texts_P k3
  rw [List.nil_append] at k1
  have Ll : L.length = n.toNat + 1 := by simpa using k2
  refine ⟨L, a2, b2', c2, by omega, by omega, hL, lcF_of hr ?_ (re_fr (hf.ow (by decide)) (hf.ow (by decide)))⟩
  rw [wip_same (hf.ow (by decide))]
  exact k1
/-! ### rows of paths -/
theorem it_list (L : List (List Nat)) (hv : vr j e = .ok (.d (.list (DL L))) e) : bnd (vr j) itG e = .ok (L.map fun x => R.d (tx x)) e := by
  rw [bnd_of hv]
  simp only [itG, it_dl]
def sameB (P : List (List Nat)) : Bool := match P with
  | [] => false
  | p0 :: P' => !((p0 :: P').any fun p => !decide (wh p = wh p0))
theorem sameB_cons (p0 : List Nat) (P' : List (List Nat)) : sameB (p0 :: P') = !((p0 :: P').any fun p => !decide (wh p = wh p0)) := rfl
theorem keysB_ge {α : Type} : ∀ (l : List (Bool × α)) (a : List Bool), a.length ≤ (keysB a l).length
  | [], a => Nat.le_refl _
  | kv :: l, a => by
    have := keysB_ge l (addB a kv.1)
    have h2 : a.length ≤ (addB a kv.1).length := by unfold addB; split <;> simp
    exact Nat.le_trans h2 this
theorem keysB_one {α : Type} (w0 : Bool) : ∀ (l : List (Bool × α)), decide ((keysB [w0] l).length = 1) = !(l.any fun kv => !decide (kv.1 = w0))
  | [] => rfl
  | kv :: l => by
    show decide ((keysB (addB [w0] kv.1) l).length = 1) = _
    rw [List.any_cons]
    by_cases h : kv.1 = w0
    · have e1 : addB [w0] kv.1 = [w0] := by unfold addB; rw [h]; simp
      rw [e1, keysB_one w0 l, decide_eq_true h]; rfl
    · have e1 : (addB [w0] kv.1).length = 2 := by
        unfold addB
        rw [if_neg (by simpa using h)]; rfl
      have h2 := keysB_ge l (addB [w0] kv.1)
      rw [decide_eq_false (by omega), decide_eq_false h]; rfl
theorem pairsB_map {α : Type} (f : α → Bool) (v : Dt) : ∀ L : List α, pairsB (L.map fun x => PyData.tuple [.bool (f x), v]) = some (L.map fun x => (f x, v))
  | [] => rfl
  | x :: L => by
    rw [List.map_cons, List.map_cons]
    simp only [pairsB, pairsB_map f v L]
theorem v_same {p0 : List Nat} {P' : List (List Nat)} (hP : ∀ p ∈ p0 :: P', Dp p) (hz : (p0 :: P').length ≤ 100) (hf : Fr 21 e) (h11 : vr 11 e = .ok (.d (.list (DL (p0 :: P')))) e) : b2 (bnd (conA (frz (lcN [21] (bnd (vr 11) itG) (setR 21) yesT (bnd (conA (b2 (slV (vr 21) noP (bnd (cst (.d (.int 1))) inP)) (cst (txt [47])) (cmV (eqG))) (conA (cst (.d (.int 1))) nilA)) tupG))) nilA) lenDA) (cst (.d (.int 1))) (cmV (eqG)) e = .ok (.d (.bool (sameB (p0 :: P')))) e := by
  have z2 : (2 : Nat) ≤ sizeLine := by decide
  have k1 : frz (lcN [21] (bnd (vr 11) itG) (setR 21) yesT (bnd (conA (b2 (slV (vr 21) noP (bnd (cst (.d (.int 1))) inP)) (cst (txt [47])) (cmV (eqG))) (conA (cst (.d (.int 1))) nilA)) tupG)) e = .ok (.d (.list ((p0 :: P').map fun p => .tuple [.bool (wh p), .int 1]))) e := by
    have k := lcF_free (tc := yesT) (fe := bnd (conA (b2 (slV (vr 21) noP (bnd (cst (.d (.int 1))) inP)) (cst (txt [47])) (cmV (eqG))) (conA (cst (.d (.int 1))) nilA)) tupG) tx (fun _ => true) (fun p => .tuple [.bool (wh p), .int 1]) (p0 :: P') hf (it_list _ h11) (small (by omega)) fun x hx => ⟨rfl, fun _ => ?_⟩
    · rw [List.filter_eq_self.mpr fun _ _ => rfl] at k
      exact k
    · have dx := hP x hx
      have lx := dx.le
      exact tupG_ok (ds := [.bool (wh x), .int 1]) (conA_of (is47V (vr_st hf.lt) (by omega) dx.oc) (one_of (cst_ok _ _))) z2
  have ef : PyData.tuple [.bool (wh p0), .int 1] :: P'.map (fun p => PyData.tuple [.bool (wh p), .int 1]) = (p0 :: P').map fun p => PyData.tuple [.bool (wh p), .int 1] := rfl
  have kn : bnd (conA (frz (lcN [21] (bnd (vr 11) itG) (setR 21) yesT (bnd (conA (b2 (slV (vr 21) noP (bnd (cst (.d (.int 1))) inP)) (cst (txt [47])) (cmV (eqG))) (conA (cst (.d (.int 1))) nilA)) tupG))) nilA) lenDA e = .ok (.d (.int ((keysB [] ((p0 :: P').map fun p => (wh p, PyData.int 1))).length : Nat))) e := by
    rw [bnd_of (one_of k1)]
    have hp : Ev.pairsOf ((p0 :: P').map fun p => PyData.tuple [.bool (wh p), .int 1]) = none := by
      rw [List.map_cons]
      simp only [Ev.pairsOf, keyR]
    simp only [lenDA, lof, hp, pairsB_map]
  have e1 : keysB [] ((p0 :: P').map fun p => (wh p, PyData.int 1)) = keysB [wh p0] (P'.map fun p => (wh p, PyData.int 1)) := rfl
  rw [b2_of kn (cst_ok _ _)]
  simp only [cmV]
  rw [Dc.eq_int]
  have e2 : decide (((keysB [] ((p0 :: P').map fun p => (wh p, PyData.int 1))).length : Int) = 1) = sameB (p0 :: P') := by
    rw [e1]
    have e3 : decide (((keysB [wh p0] (P'.map fun p => (wh p, PyData.int 1))).length : Int) = 1) = decide ((keysB [wh p0] (P'.map fun p => (wh p, PyData.int 1))).length = 1) := decide_eq_decide.mpr (by omega)
    rw [e3, keysB_one]
    rw [sameB_cons, List.any_cons, List.any_map]
    simp only [decide_true, Bool.not_true, Bool.false_or, Function.comp_def]
  rw [e2]
def tolS (P : List (List Nat)) : List Nat := if sameB P = true then sharedP (P.map plainL) else PE
theorem shared_chars {P : List (List Nat)} (hP : ∀ p ∈ P, Dp p) : ∀ c ∈ sharedP (P.map plainL), c ∈ signsD := fun c hc => by
  cases P with
  | nil => cases hc
  | cons p0 P' =>
    have key : ∀ c ∈ jn ((parts (plainL p0)).take (com (parts (plainL p0)) ((plainL p0 :: P'.map plainL).map parts))), c ∈ signsD := fun c hc => by
      rcases jn_chars hc with rfl | ⟨x, hx, h⟩
      · decide
      · have h1 := (parts_mem (List.mem_of_mem_take hx)).2.2 c h
        rcases plain_chars h1 with rfl | rfl | h2
        · decide
        · decide
        · exact (hP p0 List.mem_cons_self).ch c h2
    replace hc : c ∈ outB (wh (plainL p0)) (jn ((parts (plainL p0)).take (com (parts (plainL p0)) ((plainL p0 :: P'.map plainL).map parts)))) := hc
    unfold outB at hc
    split at hc
    · rcases List.mem_cons.mp hc with rfl | hc
      · decide
      · exact key c hc
    · split at hc
      · rw [List.mem_singleton.mp hc]; decide
      · exact key c hc
theorem signs_oc (h : ∀ c ∈ l, c ∈ signsD) : Oc l := fun c hc => by
  have := h c hc
  simp at this
  omega
theorem signs_ne (h : ∀ c ∈ l, c ∈ signsD) : l ≠ PE := fun z => by
  have := h 80 (by rw [z]; simp)
  revert this; decide
theorem oc_tolS {P : List (List Nat)} (hP : ∀ p ∈ P, Dp p) : Oc (tolS P) := by
  unfold tolS
  split
  · exact signs_oc (shared_chars hP)
  · exact oc_PE
theorem v_shared {p0 : List Nat} {P' : List (List Nat)} (hP : ∀ p ∈ p0 :: P', Dp p) (hz : (p0 :: P').length ≤ 100) (h11 : vr 11 e = .ok (.d (.list (DL (p0 :: P')))) e) : toldV 1 [80, 97, 116, 104, 69, 114, 114, 111, 114] (bnd (conA (vr 11) nilA) (caN 1 m_shared_path)) e = .ok (txt (tolS (p0 :: P'))) e := by
  have k := s_shared (p0 := p0) (P' := P') (X := .list (DL (p0 :: P'))) (.inl rfl) (fun p hp => ⟨(hP p hp).pw, (hP p hp).pl⟩) (by omega) []
  unfold tolS
  rw [sameB_cons]
  cases g : ((p0 :: P').any fun p => !decide (wh p = wh p0)) with
  | true =>
    rw [g, if_pos rfl] at k
    rw [if_neg (by simp)]
    exact told_err (ca1e h11 k)
  | false =>
    rw [g, if_neg (by decide)] at k
    rw [if_pos (by decide)]
    exact told_ok (ca1 h11 k)
theorem v_plains {P : List (List Nat)} (hP : ∀ p ∈ P, Dp p) (hz : P.length ≤ 100) (hf : Fr 21 e) (h11 : vr 11 e = .ok (.d (.list (DL P))) e) : frz (lcN [21] (bnd (vr 11) itG) (setR 21) yesT (bnd (conA (vr 21) nilA) (caN 1 m__law_plain_path))) e = .ok (.d (.list (DL (P.map plainL)))) e := by
  have k := lcF_free (tc := yesT) (fe := bnd (conA (vr 21) nilA) (caN 1 m__law_plain_path)) tx (fun _ => true) (fun p => tx (plainL p)) P hf (it_list _ h11) (small (by omega)) fun x hx => ⟨rfl, fun _ => v_lpp (hP x hx) (vr_st hf.lt)⟩
  rw [List.filter_eq_self.mpr fun _ _ => rfl] at k
  rw [k]
  unfold DL
  rw [List.map_map]; rfl
theorem c_shared {p0 : List Nat} {P' : List (List Nat)} (hP : ∀ p ∈ p0 :: P', Dp p) (hz : (p0 :: P').length ≤ 100) (hf : Fr 21 e) (h11 : vr 11 e = .ok (.d (.list (DL (p0 :: P')))) e) (h7 : vr 7 e = .ok (txt (tolS (p0 :: P'))) e) (h12 : vr 12 e = .ok (.d (.bool (sameB (p0 :: P')))) e) : (orT (b2 (b2 (vr 7) (cst (txt [80, 97, 116, 104, 69, 114, 114, 111, 114])) (cmV (eqG))) (vr 12) (cmT (eqG))) ((andT (bnd (vr 12) truT) (b2 (vr 7) (bnd (conA (frz (lcN [21] (bnd (vr 11) itG) (setR 21) yesT (bnd (conA (vr 21) nilA) (caN 1 m__law_plain_path)))) nilA) (caN 1 m__law_shared)) (cmT (neG)))))) e = .ok false e := by
  have c1 := eq_blT (eqV_tx h7 (cst_ok (txt PE) e) (oc_tolS hP) oc_PE) h12
  have d0 := hP p0 List.mem_cons_self
  cases g : sameB (p0 :: P') with
  | false =>
    have et : tolS (p0 :: P') = PE := by unfold tolS; rw [if_neg (by rw [g]; decide)]
    rw [g, et] at c1
    rw [g] at h12
    refine orT_F (c1.trans ?_) (andT_F (truT_bl h12))
    rfl
  | true =>
    have et : tolS (p0 :: P') = sharedP ((p0 :: P').map plainL) := if_pos g
    rw [g, et, decide_eq_false (signs_ne (shared_chars hP))] at c1
    rw [g] at h12
    rw [et] at h7
    have k := s_lshared (a0 := plainL p0) (A' := P'.map plainL) (fun a ha => by
      obtain ⟨p, hp, rfl⟩ := List.mem_map.mp (show a ∈ (p0 :: P').map plainL from ha)
      have := (hP p hp).pl
      exact ⟨by have := this.le; omega, this.oc⟩) (by simp at hz ⊢; omega) (by
        have h1 := parts_count (plainL p0)
        have h2 := plain_len p0 d0.nn
        have h3 := d0.le
        omega) []
    refine orT_F (c1.trans rfl) (andT_T (truT_bl h12) (ne_same h7 (ca1 (v_plains hP hz hf h11) k) (sh_tx (signs_oc (shared_chars hP))) (eqv_tx' _)))
theorem pairsOf_map : ∀ L : List (List Nat), Ev.pairsOf (L.map fun x => PyData.tuple [tx x, .int 1]) = some (L.map fun x => (ky x, .int 1))
  | [] => rfl
  | x :: L => by
    rw [List.map_cons, List.map_cons]
    simp only [Ev.pairsOf, keyR, pairsOf_map L]
theorem v_keys {P : List (List Nat)} (hP : ∀ p ∈ P, Dp p) (hz : P.length ≤ 100) (hf : Fr 21 e) (h11 : vr 11 e = .ok (.d (.list (DL P))) e) : onN (bnd (conA (frz (lcN [21] (bnd (vr 11) itG) (setR 21) yesT (bnd (conA (bnd (conA (vr 21) nilA) (caN 1 m__law_plain_path)) (conA (cst (.d (.int 1))) nilA)) tupG))) nilA) dictN) listDG e = .ok (.d (.list (DL (keysL (P.map plainL))))) e := by
  have z2 : (2 : Nat) ≤ sizeLine := by decide
  have k := lcF_free (tc := yesT) (fe := bnd (conA (bnd (conA (vr 21) nilA) (caN 1 m__law_plain_path)) (conA (cst (.d (.int 1))) nilA)) tupG) tx (fun _ => true) (fun p => .tuple [tx (plainL p), .int 1]) P hf (it_list _ h11) (small (by omega)) fun x hx => ⟨rfl, fun _ => tupG_ok (ds := [tx (plainL x), .int 1]) (conA_of (v_lpp (hP x hx) (vr_st hf.lt)) (one_of (cst_ok _ _))) z2⟩
  rw [List.filter_eq_self.mpr fun _ _ => rfl] at k
  have e1 : (P.map fun p => PyData.tuple [tx (plainL p), .int 1]) = (P.map plainL).map fun x => PyData.tuple [tx x, .int 1] := by rw [List.map_map]; rfl
  rw [e1] at k
  rw [a_onN]
  rw [bnd_of (show bnd (conA (frz (lcN [21] (bnd (vr 11) itG) (setR 21) yesT (bnd (conA (bnd (conA (vr 21) nilA) (caN 1 m__law_plain_path)) (conA (cst (.d (.int 1))) nilA)) tupG))) nilA) dictN e = .ok (.dic (mergeD [] ((P.map plainL).map fun x => (ky x, .int 1)))) e from by
    rw [bnd_of (one_of k)]
    simp only [dictN, lof, pairsOf_map])]
  simp only [listDG]
  congr 3
  refine keys_D ?_
  have fk := fold_keys (fun x : List Nat => x) (fun _ => PyData.int 1) (P.map plainL) [] [] rfl
  rw [List.map_id'] at fk
  unfold mergeD
  rw [List.foldl_map]
  exact fk
end
end K1

set_option Elab.async false
set_option linter.all false
set_option maxRecDepth 100000
set_option maxHeartbeats 1000000
namespace K1
open PySem L2 Ev Dc PySem.W PyProof.Rows
section
variable {e e1 : Ev.Env} {i j : Nat} {l p q : List Nat}
theorem neV_tx {fa fb : Ev.Env → Rs R} {e e1 e2 : Ev.Env} {a b : List Nat} (h : fa e = .ok (txt a) e1) (h2 : fb e1 = .ok (txt b) e2) (oa : Oc a) (ob : Oc b) : b2 fa fb (cmV neG) e = .ok (.d (.bool (!decide (a = b)))) e2 := by
  rw [b2_of h h2]
  simp only [cmV, neG, dof, sh_tx oa, sh_tx ob, and_self, if_true, eqv_tx]
theorem v_due {Ks : List (List Nat)} (hK : ∀ x ∈ Ks, Pw x) (hz : Ks.length ≤ 100) (f21 : Fr 21 e) (f22 : Fr 22 e) (f23 : Fr 23 e) (h13 : vr 13 e = .ok (.d (.list (DL Ks))) e) : frz (lcN [21] (bnd (bnd (conA (frz (lcN [23] (bnd (vr 13) itG) (setR 23) yesT (bnd (conA (b2 (slV (vr 23) noP (bnd (cst (.d (.int 1))) inP)) (cst (txt [47])) (cmV (neG))) (conA (bnd (conA (frz (lcN [22] (bnd (m1 (vr 23) (cst (txt [47])) (splitG)) itG) (setR 22) (b2 (vr 22) (bnd (conA (cst (txt [])) (conA (cst (txt [46])) nilA)) lstG) (cmT (inG true))) (vr 22))) nilA) tupleG) (conA (vr 23) nilA))) tupG))) nilA) sortedG) itG) (setR 21) yesT (b2 (vr 21) (cst (.d (.int 2))) ixG)) e = .ok (.d (.list (DL (dueL Ks)))) e := by
  have z3 : (3 : Nat) ≤ sizeLine := by decide
  have k := lcF_free (tc := yesT) (fe := bnd (conA (b2 (slV (vr 23) noP (bnd (cst (.d (.int 1))) inP)) (cst (txt [47])) (cmV (neG))) (conA (bnd (conA (frz (lcN [22] (bnd (m1 (vr 23) (cst (txt [47])) (splitG)) itG) (setR 22) (b2 (vr 22) (bnd (conA (cst (txt [])) (conA (cst (txt [46])) nilA)) lstG) (cmT (inG true))) (vr 22))) nilA) tupleG) (conA (vr 23) nilA))) tupG) tx (fun _ => true) rowD Ks f23 (it_list _ h13) (small (by omega)) fun x hx => ⟨rfl, fun _ => by
    have px := hK x hx
    have lx := px.le
    have hv := vr_st (d := tx x) f23.lt
    have t : bnd (conA (frz (lcN [22] (bnd (m1 (vr 23) (cst (txt [47])) (splitG)) itG) (setR 22) (b2 (vr 22) (bnd (conA (cst (txt [])) (conA (cst (txt [46])) nilA)) lstG) (cmT (inG true))) (vr 22))) nilA) tupleG (st 23 (.d (tx x)) e) = .ok (.d (.tuple (DL (parts x)))) (st 23 (.d (tx x)) e) := by
      rw [bnd_of (one_of (names_at (f22.st (by decide)) (by decide) hv (by omega)))]; rfl
    exact tupG_ok (ds := [.bool (!wh x), .tuple (DL (parts x)), tx x]) (conA_of (neV_tx (first1 hv (by omega)) (cst_ok _ _) (oc_take px.oc 1) oc_47) (conA_of t (one_of hv))) z3⟩
  rw [List.filter_eq_self.mpr fun _ _ => rfl] at k
  have ks : bnd (bnd (conA (frz (lcN [23] (bnd (vr 13) itG) (setR 23) yesT (bnd (conA (b2 (slV (vr 23) noP (bnd (cst (.d (.int 1))) inP)) (cst (txt [47])) (cmV (neG))) (conA (bnd (conA (frz (lcN [22] (bnd (m1 (vr 23) (cst (txt [47])) (splitG)) itG) (setR 22) (b2 (vr 22) (bnd (conA (cst (txt [])) (conA (cst (txt [46])) nilA)) lstG) (cmT (inG true))) (vr 22))) nilA) tupleG) (conA (vr 23) nilA))) tupG))) nilA) sortedG) itG e = .ok ((dueL Ks).map fun x => R.d (rowD x)) e := by
    have s : bnd (conA (frz (lcN [23] (bnd (vr 13) itG) (setR 23) yesT (bnd (conA (b2 (slV (vr 23) noP (bnd (cst (.d (.int 1))) inP)) (cst (txt [47])) (cmV (neG))) (conA (bnd (conA (frz (lcN [22] (bnd (m1 (vr 23) (cst (txt [47])) (splitG)) itG) (setR 22) (b2 (vr 22) (bnd (conA (cst (txt [])) (conA (cst (txt [46])) nilA)) lstG) (cmT (inG true))) (vr 22))) nilA) tupleG) (conA (vr 23) nilA))) tupG))) nilA) sortedG e = .ok (.d (.list ((dueL Ks).map rowD))) e := by
      rw [bnd_of (one_of k)]
      simp only [sortedG]
      rw [if_pos (srt_row (by omega)), due_eq]
    rw [bnd_of s]
    simp only [itG, List.map_map]
    rfl
  have k2 := lcF_free (tc := yesT) (fe := b2 (vr 21) (cst (.d (.int 2))) ixG) rowD (fun _ => true) tx (dueL Ks) f21 ks (small (by rw [due_len]; omega)) fun x hx => ⟨rfl, fun _ => by
    rw [b2c_of (vr_st f21.lt)]
    simp only [ixG, lof, tof, rowD, atI_2]⟩
  rw [List.filter_eq_self.mpr fun _ _ => rfl] at k2
  exact k2
theorem c_turn {P : List (List Nat)} (hP : ∀ p ∈ P, Dp p) (hz : P.length ≤ 100) (h11 : vr 11 e = .ok (.d (.list (DL P))) e) (h14 : vr 14 e = .ok (.d (.list (DL (dueL (keysL (P.map plainL)))))) e) : b2 (bnd (conA (bnd (conA (vr 11) nilA) (caN 1 m_in_turn)) nilA) listG) (vr 14) (cmT (neG)) e = .ok false e := by
  have k := s_in_turn (P := P) (X := .list (DL P)) (.inl rfl) (fun p hp => ⟨(hP p hp).pw, (hP p hp).pl⟩) (by omega) []
  have k1 : bnd (conA (bnd (conA (vr 11) nilA) (caN 1 m_in_turn)) nilA) listG e = .ok (.d (.list (DL (dueL (keysL (P.map plainL)))))) e := by
    rw [bnd_of (one_of (ca1 h11 k))]; rfl
  refine ne_same k1 h14 (sh_list fun x hx => ?_) (eqv_dl' _)
  obtain ⟨p, hp, rfl⟩ := List.mem_map.mp (keysL_mem (due_mem hx))
  exact (hP p hp).pl.oc
theorem join_gen (s : List Nat) (L : List (List Nat)) : Txt.join (sOf s) (L.map sOf) = sOf (TL.joinL s L) := by
  rw [TL.join_eq]
  have h := TL.tl_join (sOf s) (L.map sOf)
  rw [List.map_map] at h
  have : (TL.tl ∘ sOf) = (id : List Nat → List Nat) := funext fun s => rfl
  rw [this, List.map_id] at h
  rw [← sOf_tl (Str.join (sOf s) (L.map sOf))]
  exact congrArg sOf h
theorem joinL_0 : ∀ L : List (List Nat), TL.joinL [] L = L.flatten
  | [] => rfl
  | [x] => by simp [TL.joinL]
  | x :: y :: r => by
    have := joinL_0 (y :: r)
    simp only [TL.joinL, List.nil_append, List.flatten_cons] at this ⊢
    rw [this]
theorem e_join0 {L : List (List Nat)} (h : szL L ≤ 100000) (e : Ev.Env) : joinG (sOf []) (.d (.list (DL L))) e = .ok (txt L.flatten) e := by
  have h2 := szL_eq L
  have : ((L.map sOf).map (·.length)).sum + (L.map sOf).length * (sOf []).length ≤ 16777216 := by
    rw [List.length_map, len_sOf]; simp only [List.length_nil]; omega
  simp only [joinG, seqOf, lof, strs_dl, this, if_true, join_gen, joinL_0]
theorem e_join0T {L : List (List Nat)} (h : szL L ≤ 100000) (e : Ev.Env) : joinG (sOf []) (.d (.tuple (DL L))) e = .ok (txt L.flatten) e := by
  have h2 := szL_eq L
  have : ((L.map sOf).map (·.length)).sum + (L.map sOf).length * (sOf []).length ≤ 16777216 := by
    rw [List.length_map, len_sOf]; simp only [List.length_nil]; omega
  simp only [joinG, seqOf, lof, tof, strs_dl, this, if_true, join_gen, joinL_0]
abbrev signsE : List Nat := [46, 97, 98]
structure Ep (l : List Nat) : Prop where
  n1 : 1 ≤ l.length
  n6 : l.length ≤ 6
  ch : ∀ c ∈ l, c ∈ signsE
theorem Ep.oc (h : Ep l) : Oc l := fun c hc => by
  have := h.ch c hc
  simp at this
  omega
theorem ix_text {v : Int} (h0 : 0 ≤ v) (h3 : v < 3) (e : Ev.Env) : ∃ c ∈ signsE, ixG (txt [46, 97, 98]) (.d (.int v)) e = .ok (txt [c]) e := by
  have z : (3 : Nat) ≤ sizeLine := by decide
  have : v = 0 ∨ v = 1 ∨ v = 2 := by omega
  rcases this with rfl | rfl | rfl
  · refine ⟨46, by simp, ?_⟩
    have a : atI [46, 97, 98] (0 : Int) = some 46 := by rfl
    simp [ixG, z, a]
  · refine ⟨97, by simp, ?_⟩
    have a : atI [46, 97, 98] (1 : Int) = some 97 := by rfl
    simp [ixG, z, a]
  · refine ⟨98, by simp, ?_⟩
    have a : atI [46, 97, 98] (2 : Int) = some 98 := by rfl
    simp [ixG, z, a]
theorem flat_one : ∀ {L : List (List Nat)}, (∀ x ∈ L, ∃ c ∈ signsE, x = [c]) → L.flatten.length = L.length ∧ szL L = 2 * L.length ∧ ∀ c ∈ L.flatten, c ∈ signsE
  | [], _ => ⟨rfl, rfl, by simp⟩
  | x :: L, h => by
    obtain ⟨c, hc, rfl⟩ := h x List.mem_cons_self
    obtain ⟨h1, h2, h3⟩ := flat_one fun y hy => h y (List.mem_cons_of_mem _ hy)
    refine ⟨by simp [h1], ?_, fun d hd => ?_⟩
    · simp only [szL, List.map_cons, List.sum_cons, List.length_cons, List.length_nil] at h2 ⊢
      omega
    · rw [List.flatten_cons] at hd
      rcases List.mem_append.mp hd with z | z
      · rw [List.mem_singleton.mp z]; exact hc
      · exact h3 d z
theorem v_name (a b c : Int) (h : 1 < e.sl.length) (hf : Fr 20 e) : ∃ n a' b' c', Ep n ∧ m1 (cst (txt [])) (frz (lcN [20] (bnd (conA (b2 (cst (.d (.int 1))) (bnd (conA (vr 1) (conA (cst (.d (.int 6))) nilA)) (caN 2 m__law_roll)) addG) nilA) rgG) (setR 20) yesT (b2 (cst (txt [46, 97, 98])) (bnd (conA (vr 1) (conA (cst (.d (.int 3))) nilA)) (caN 2 m__law_roll)) ixG))) (joinG) (ow (DO a b c) e) = .ok (txt n) (ow (DO a' b' c') e) := by
  obtain ⟨L, a', b', c', h1, h2, h3, h4⟩ := many_ow (Pp := fun x => ∃ c ∈ signsE, x = [c]) a b c 6 (fe := b2 (cst (txt [46, 97, 98])) (bnd (conA (vr 1) (conA (cst (.d (.int 3))) nilA)) (caN 2 m__law_roll)) ixG) h hf (by omega) (by omega) fun a b c e' he => by
    obtain ⟨v, a', b', c', v0, v3, hv⟩ := roll_ow a b c 3 he (by omega) (by omega)
    obtain ⟨s, hs, hi⟩ := ix_text v0 v3 (ow (DO a' b' c') e')
    exact ⟨[s], a', b', c', ⟨s, hs, rfl⟩, (b2_of (cst_ok _ _) hv).trans hi⟩
  obtain ⟨g1, g2, g3⟩ := flat_one h3
  exact ⟨L.flatten, a', b', c', ⟨by omega, by omega, g3⟩, (m1_of (cst_ok _ _) h4).trans (e_join0 (by omega) _)⟩
theorem v_ahead (hl : Ep l) (h15 : vr 15 e = .ok (txt l) e) : b2 (bnd (conA (vr 15) nilA) lenG) (bnd (conA (m1 (vr 15) (cst (txt [46])) (tt1 (fun a b => .str (Txt.lstripChars a b)) sizeLine)) nilA) lenG) subG e = .ok (.d (.int (aheadE l))) e := by
  have l6 := hl.n6
  have bl := body_len l
  have z1 : l.length ≤ sizeLine := small (by omega)
  have zb : (bL l).length ≤ sizeLine := small (by omega)
  have e1 := body_eq l
  have e3 : (l.length : Int) - ((bL l).length : Int) = aheadE l := rfl
  simp [a_b2, a_conA, a_nilA, a_m1, bnd, h15, cst, tt1, e1, lenG, z1, zb, subG, e3]
theorem v_spot (hl : Ep l) (h15 : vr 15 e = .ok (txt l) e) : m1 (vr 15) (cst (txt [46])) (tt1 (fun a b => .int (Txt.rfind a b)) sizeLine) e = .ok (.d (.int (spotE l))) e := by
  have l6 := hl.n6
  have z1 : l.length ≤ sizeLine := small (by omega)
  have e3 : Txt.rfind (sOf l) (sOf [46]) = spotE l := rfl
  simp [a_m1, bnd, h15, cst, tt1, z1, e3]
theorem v_due2 (hl : Ep l) (h15 : vr 15 e = .ok (txt l) e) (h16 : vr 16 e = .ok (.d (.int (aheadE l))) e) (h17 : vr 17 e = .ok (.d (.int (spotE l))) e) : ifV (b2 (vr 17) (vr 16) (cmT (ltOf ltI ltL))) (bnd (conA (vr 15) (conA (cst (txt [])) nilA)) tupG) (bnd (conA (slV (vr 15) noP (bnd (vr 17) inP)) (conA (slV (vr 15) (bnd (vr 17) inP) noP) nilA)) tupG) e = .ok (.d (.tuple (DL [(lawE l).1, (lawE l).2]))) e := by
  have l6 := hl.n6
  have z1 : l.length ≤ sizeLine := small (by omega)
  have z2 : (2 : Nat) ≤ sizeLine := by decide
  have c : b2 (vr 17) (vr 16) (cmT (ltOf ltI ltL)) e = .ok (decide (spotE l < aheadE l)) e := by
    rw [b2_of h17 h16]; rfl
  by_cases h : spotE l < aheadE l
  · rw [decide_eq_true h] at c
    have er : lawE l = (l, []) := by unfold lawE; rw [if_pos h]
    rw [er]
    exact ifV_T c (tupG_ok (ds := DL [l, []]) (conA_of h15 (one_of (cst_ok _ _))) z2)
  · rw [decide_eq_false h] at c
    have er : lawE l = (cutA l none (some (spotE l)), cutA l (some (spotE l)) none) := by unfold lawE; rw [if_neg h]
    rw [er]
    have i17 : bnd (vr 17) inP e = .ok (some (spotE l)) e := by rw [bnd_of h17]; rfl
    have s1 : slV (vr 15) noP (bnd (vr 17) inP) e = .ok (txt (cutA l none (some (spotE l)))) e := by
      rw [slV_of (α := Unit) (fl := noP) (l := none) (e2 := e) h15 rfl i17]
      simp [slG, z1]
    have s2 : slV (vr 15) (bnd (vr 17) inP) noP e = .ok (txt (cutA l (some (spotE l)) none)) e := by
      rw [slV_of (α := Unit) (fh := noP) (h := none) (e3 := e) h15 i17 rfl]
      simp [slG, z1]
    exact ifV_F c (tupG_ok (ds := DL [cutA l none (some (spotE l)), cutA l (some (spotE l)) none]) (conA_of s1 (one_of s2)) z2)
theorem c_ends (hl : Ep l) (h15 : vr 15 e = .ok (txt l) e) (h14 : vr 14 e = .ok (.d (.tuple (DL [(lawE l).1, (lawE l).2]))) e) : (orT (b2 (bnd (conA (vr 15) nilA) (caN 1 m_ends_of)) (vr 14) (cmT (neG))) (b2 (m1 (cst (txt [])) (bnd (conA (vr 15) nilA) (caN 1 m_ends_of)) (joinG)) (vr 15) (cmT (neG)))) e = .ok false e := by
  have l6 := hl.n6
  obtain ⟨g1, g2⟩ := ends_law hl.n1 hl.n6 hl.ch
  have pl : Pw l := ⟨hl.n1, by omega, hl.oc⟩
  have ns : ¬ 47 ∈ l := fun z => by
    have := hl.ch 47 z
    revert this; decide
  have k := s_ends pl ns []
  have oe := ends_oc hl.oc
  have el := ends_len l
  rw [← g1] at h14
  have j := e_join0T (L := [(endsL l).1, (endsL l).2]) (by simp [szL]; omega) e
  have fl : [(endsL l).1, (endsL l).2].flatten = l := by simpa using g2
  rw [fl] at j
  refine orT_F (ne_same (ca1 h15 k) h14 (sh_tup (L := [(endsL l).1, (endsL l).2]) fun x hx => ?_) (by
    have := eqv_tup [(endsL l).1, (endsL l).2] [(endsL l).1, (endsL l).2]
    rw [decide_eq_true rfl] at this
    exact this)) (ne_same ((m1_of (cst_ok _ _) (ca1 h15 k)).trans j) h15 (sh_tx hl.oc) (eqv_tx' _))
  simp at hx
  rcases hx with rfl | rfl
  · exact oe.1
  · exact oe.2
/-! ### another end -/
abbrev poolE : List (List Nat) := [[], [46, 120], [46, 121, 122], [113], [46, 97, 47, 98]]
theorem oc_poolE {x : List Nat} (h : x ∈ poolE) : Oc x ∧ x.length ≤ 4 := by
  simp at h
  rcases h with rfl | rfl | rfl | rfl | rfl <;> exact ⟨oc_of _ (by decide), by decide⟩
theorem v_end (a b c : Int) (h : 1 < e.sl.length) : ∃ x a' b' c', x ∈ poolE ∧ b2 (bnd (conA (cst (txt [])) (conA (cst (txt [46, 120])) (conA (cst (txt [46, 121, 122])) (conA (cst (txt [113])) (conA (cst (txt [46, 97, 47, 98])) nilA))))) lstG) (bnd (conA (vr 1) (conA (cst (.d (.int 5))) nilA)) (caN 2 m__law_roll)) ixG (ow (DO a b c) e) = .ok (txt x) (ow (DO a' b' c') e) := by
  obtain ⟨v, a', b', c', v0, v5, hv⟩ := roll_ow (e := e) a b c 5 h (by omega) (by omega)
  have z5 : (5 : Nat) ≤ sizeLine := by decide
  have hl : bnd (conA (cst (txt [])) (conA (cst (txt [46, 120])) (conA (cst (txt [46, 121, 122])) (conA (cst (txt [113])) (conA (cst (txt [46, 97, 47, 98])) nilA))))) lstG (ow (DO a b c) e) = .ok (.d (.list (DL poolE))) (ow (DO a b c) e) := by
    simp [a_conA, a_nilA, bnd, cst, lstG, allD, dOf, z5, DL]
  obtain ⟨x, hx, hi⟩ := ix_pool (L := poolE) v0 v5 (ow (DO a' b' c') e)
  exact ⟨x, a', b', c', hx, (b2_of hl hv).trans hi⟩
theorem v_last (hp : Dp p) (h8 : vr 8 e = .ok (txt (plainL p)) e) : b2 (m1 (vr 8) (cst (txt [47])) (splitG)) (bnd (cst (.d (.int 1))) negG) ixG e = .ok (txt (nameL p)) e := by
  have l2 := hp.pl.le
  rw [b2_of (split_of h8 (by omega)) (show bnd (cst (.d (.int 1))) negG e = .ok (.d (.int (-1))) e from rfl)]
  simp only [ixG, lof, at_lastL (sp_ne (plainL p))]
  rfl
theorem badE_pool {n x : List Nat} (hx : x ∈ poolE) : badE n x = (decide (n ∈ ([[], [46], dd] : List (List Nat))) || decide (x ∈ ([[113], [46, 97, 47, 98]] : List (List Nat)))) := by
  unfold badE
  rw [← Bool.decide_or]
  apply decide_eq_decide.mpr
  have : ((x ≠ [] ∧ x.take 1 ≠ [46]) ∨ 47 ∈ x) ↔ x ∈ ([[113], [46, 97, 47, 98]] : List (List Nat)) := by
    simp at hx
    rcases hx with rfl | rfl | rfl | rfl | rfl <;> simp
  rw [this]
theorem v_good3 {x : List Nat} (hx : x ∈ poolE) (h18 : vr 18 e = .ok (txt x) e) (h19 : vr 19 e = .ok (txt (nameL p)) e) : (andV (b2 (vr 19) (bnd (conA (cst (txt [])) (conA (cst (txt [46])) (conA (cst (txt [46, 46])) nilA))) lstG) (cmV (inG true))) (b2 (vr 18) (bnd (conA (cst (txt [113])) (conA (cst (txt [46, 97, 47, 98])) nilA)) lstG) (cmV (inG true)))) e = .ok (.d (.bool (!badE (nameL p) x))) e := by
  have z2 : (2 : Nat) ≤ sizeLine := by decide
  have z3 : (3 : Nat) ≤ sizeLine := by decide
  have b1 : b2 (vr 19) (bnd (conA (cst (txt [])) (conA (cst (txt [46])) (conA (cst (txt [46, 46])) nilA))) lstG) (cmV (inG true)) e = .ok (.d (.bool (!decide (nameL p ∈ ([[], [46], dd] : List (List Nat)))))) e := by
    have hl : bnd (conA (cst (txt [])) (conA (cst (txt [46])) (conA (cst (txt [46, 46])) nilA))) lstG e = .ok (.d (.list (DL [[], [46], dd]))) e := by simp [a_conA, a_nilA, bnd, cst, lstG, allD, dOf, z3]
    rw [b2_of h19 hl]
    simp only [cmV]
    rw [in_list true (nameL p) [[], [46], dd] e]
    rfl
  have b2' : b2 (vr 18) (bnd (conA (cst (txt [113])) (conA (cst (txt [46, 97, 47, 98])) nilA)) lstG) (cmV (inG true)) e = .ok (.d (.bool (!decide (x ∈ ([[113], [46, 97, 47, 98]] : List (List Nat)))))) e := by
    have hl : bnd (conA (cst (txt [113])) (conA (cst (txt [46, 97, 47, 98])) nilA)) lstG e = .ok (.d (.list (DL [[113], [46, 97, 47, 98]]))) e := by simp [a_conA, a_nilA, bnd, cst, lstG, allD, dOf, z2]
    rw [b2_of h18 hl]
    simp only [cmV]
    rw [in_list true x [[113], [46, 97, 47, 98]] e]
    rfl
  rw [badE_pool hx]
  by_cases n : nameL p ∈ ([[], [46], dd] : List (List Nat))
  · rw [decide_eq_true n] at b1 ⊢
    exact andV_F b1
  · rw [decide_eq_false n] at b1 ⊢
    exact (andV_T b1 b2').trans (by simp only [Bool.false_or])
theorem c_end {x : List Nat} (hp : Dp p) (hx : x ∈ poolE) (h2 : vr 2 e = .ok (txt p) e) (h8 : vr 8 e = .ok (txt (plainL p)) e) (h10 : vr 10 e = .ok (.d (.bool (!badE (nameL p) x))) e) (h18 : vr 18 e = .ok (txt x) e) (h19 : vr 19 e = .ok (txt (nameL p)) e) : b2 (toldV 1 [80, 97, 116, 104, 69, 114, 114, 111, 114] (bnd (conA (vr 2) (conA (vr 18) nilA)) (caN 2 m_with_end))) (ifV (bnd (vr 10) truT) (b2 (b2 (slV (vr 8) noP (bnd (b2 (bnd (conA (vr 8) nilA) lenG) (bnd (conA (vr 19) nilA) lenG) subG) inP)) (b2 (bnd (conA (vr 19) nilA) (caN 1 m_ends_of)) (cst (.d (.int 0))) ixG) addG) (vr 18) addG) (cst (txt [80, 97, 116, 104, 69, 114, 114, 111, 114]))) (cmT (neG)) e = .ok false e := by
  obtain ⟨ox, lx⟩ := oc_poolE hx
  have k := s_with_end hp.pw hp.pl (e := x) (by omega) ox []
  cases q : badE (nameL p) x with
  | true =>
    rw [q, if_pos rfl] at k
    rw [q] at h10
    exact ne_same (told_err (ca2e h2 h18 k)) (ifV_F (truT_bl h10) (cst_ok _ _)) (sh_tx oc_PE) (eqv_tx' _)
  | false =>
    rw [q, if_neg (by decide)] at k
    rw [q] at h10
    have qn := of_decide_eq_false q
    have nn : nameL p ≠ [] := fun z => qn (.inl (by rw [z]; simp))
    have ns : ¬ 47 ∈ nameL p := (mem_sp (name_sp p)).1
    have np := name_pw hp.pl nn
    have a3 := s_ends np ns []
    have l1 := hp.pl.le
    have l2 := np.le
    have l3 := (ends_len (nameL p)).1
    have l4 := cut_len (plainL p) none (some (((plainL p).length : Int) - ((nameL p).length : Int)))
    have za := hp.pl.sz
    have zb := np.sz
    have n8 : bnd (conA (vr 8) nilA) lenG e = .ok (.d (.int ((plainL p).length : Nat))) e := by
      rw [bnd_of (one_of h8)]
      simp [lenG, za]
    have n19 : bnd (conA (vr 19) nilA) lenG e = .ok (.d (.int ((nameL p).length : Nat))) e := by
      rw [bnd_of (one_of h19)]
      simp [lenG, zb]
    have n3 : bnd (b2 (bnd (conA (vr 8) nilA) lenG) (bnd (conA (vr 19) nilA) lenG) subG) inP e = .ok (some (((plainL p).length : Int) - ((nameL p).length : Int))) e := by
      rw [bnd_of ((b2_of n8 n19).trans rfl)]; rfl
    have sl : slV (vr 8) noP (bnd (b2 (bnd (conA (vr 8) nilA) lenG) (bnd (conA (vr 19) nilA) lenG) subG) inP) e = .ok (txt (cutA (plainL p) none (some (((plainL p).length : Int) - ((nameL p).length : Int))))) e := by
      rw [slV_of (α := Unit) (fl := noP) (l := none) (e2 := e) h8 rfl n3]
      simp [slG, za]
    have i0 : atI [tx (endsL (nameL p)).1, tx (endsL (nameL p)).2] 0 = some (tx (endsL (nameL p)).1) := rfl
    have en : b2 (bnd (conA (vr 19) nilA) (caN 1 m_ends_of)) (cst (.d (.int 0))) ixG e = .ok (txt (endsL (nameL p)).1) e := by
      rw [b2c_of (ca1 h19 a3)]
      simp only [ixG, lof, tof, i0]
    have w : b2 (b2 (slV (vr 8) noP (bnd (b2 (bnd (conA (vr 8) nilA) lenG) (bnd (conA (vr 19) nilA) lenG) subG) inP)) (b2 (bnd (conA (vr 19) nilA) (caN 1 m_ends_of)) (cst (.d (.int 0))) ixG) addG) (vr 18) addG e = .ok (txt (withEnd p x)) e := add_tx (add_tx sl en (by omega)) h18 (by rw [List.length_append]; omega)
    have ow : Oc (withEnd p x) := oc_app (oc_app (fun c hc => hp.pl.oc c (cut_mem hc)) (ends_oc np.oc).1) ox
    exact ne_same (told_ok (ca2 h2 h18 k)) (ifV_T (truT_bl h10) w) (sh_tx ow) (eqv_tx' _)
end
end K1

set_option Elab.async false
set_option linter.all false
set_option maxRecDepth 100000
set_option maxHeartbeats 1000000
namespace K1
open PySem L2 Ev Dc PySem.W PyProof.Rows
noncomputable def bodyL : Ev.Env → Sr := (sqS (asS (bnd (conA (bnd (conA (vr 1) nilA) (caN 1 m__law_drawn)) (conA (bnd (conA (vr 1) nilA) (caN 1 m__law_drawn)) nilA)) tupG) (tpG 2 (conG (setR 2) (conG (setR 3) nilG))))
  (sqS (asS (bnd (conA (cst (txt [116])) (conA (cst (txt [117])) (conA (cst (txt [118])) (conA (cst (txt [119])) (conA (cst (txt [120])) (conA (cst (txt [121])) (conA (cst (txt [122])) nilA))))))) lstG) (setR 4))
  (sqS (asS (bnd (conA (vr 2) nilA) (caN 1 m_made_plain)) (setR 5))
  (sqS (ifS ((orT (b2 (vr 5) (bnd (conA (vr 2) nilA) (caN 1 m__law_plain_path)) (cmT (neG))) (orT (b2 (bnd (conA (vr 5) nilA) (caN 1 m_made_plain)) (vr 5) (cmT (neG))) (b2 (bnd (conA (vr 4) (conA (vr 5) nilA)) (caN 2 m__law_led)) (bnd (conA (vr 4) (conA (vr 2) nilA)) (caN 2 m__law_led)) (cmT (neG)))))) (sqS (rtS (cst (.d (.bool false))))
  skS) skS)
  (sqS (ifS (b2 (bnd (conA (bnd (conA (vr 2) nilA) (caN 1 m_parts_of)) nilA) listG) (frz (lcN [22] (bnd (m1 (vr 2) (cst (txt [47])) (splitG)) itG) (setR 22) (b2 (vr 22) (bnd (conA (cst (txt [])) (conA (cst (txt [46])) nilA)) lstG) (cmT (inG true))) (vr 22))) (cmT (neG))) (sqS (rtS (cst (.d (.bool false))))
  skS) skS)
  (sqS (asS (bnd (conA (vr 2) (conA (vr 3) nilA)) (caN 2 m_joined_path)) (setR 6))
  (sqS (ifS (b2 (vr 6) (bnd (conA (ifV (b2 (slV (vr 3) noP (bnd (cst (.d (.int 1))) inP)) (cst (txt [47])) (cmT (eqG))) (vr 3) (b2 (b2 (vr 2) (cst (txt [47])) addG) (vr 3) addG)) nilA) (caN 1 m__law_plain_path)) (cmT (neG))) (sqS (rtS (cst (.d (.bool false))))
  skS) skS)
  (sqS (ifS (b2 (bnd (conA (vr 4) (conA (vr 6) nilA)) (caN 2 m__law_led)) (bnd (conA (bnd (conA (vr 4) (conA (vr 2) nilA)) (caN 2 m__law_led)) (conA (vr 3) nilA)) (caN 2 m__law_led)) (cmT (neG))) (sqS (rtS (cst (.d (.bool false))))
  skS) skS)
  (sqS (ifS (b2 (bnd (conA (vr 2) nilA) (caN 1 m_parent_of)) (bnd (conA (b2 (vr 2) (cst (txt [47, 46, 46])) addG) nilA) (caN 1 m__law_plain_path)) (cmT (neG))) (sqS (rtS (cst (.d (.bool false))))
  skS) skS)
  (sqS (ifS ((orT (b2 (bnd (conA (vr 2) nilA) (caN 1 m_is_whole)) (b2 (slV (vr 2) noP (bnd (cst (.d (.int 1))) inP)) (cst (txt [47])) (cmV (eqG))) (cmT (neG))) (orT (b2 (bnd (conA (vr 2) nilA) (caN 1 m_name_of)) (b2 (m1 (vr 5) (cst (txt [47])) (splitG)) (bnd (cst (.d (.int 1))) negG) ixG) (cmT (neG))) (b2 (bnd (conA (vr 2) nilA) (caN 1 m_depth_of)) (b2 (bnd (conA (frz (lcN [22] (bnd (m1 (vr 5) (cst (txt [47])) (splitG)) itG) (setR 22) (b2 (vr 22) (bnd (conA (cst (txt [])) (conA (cst (txt [46])) (conA (cst (txt [46, 46])) nilA))) lstG) (cmT (inG true))) (cst (.d (.int 1))))) nilA) lenG) (lmA (m1 (vr 5) (cst (txt [47])) (splitG)) (conA (cst (txt [46, 46])) nilA) cntG) subG) (cmT (neG)))))) (sqS (rtS (cst (.d (.bool false))))
  skS) skS)
  (sqS (asS (toldV 1 [80, 97, 116, 104, 69, 114, 114, 111, 114] (bnd (conA (vr 2) (conA (vr 3) nilA)) (caN 2 m_told_from))) (setR 7))
  (sqS (prS 8 9 (conA (bnd (conA (vr 2) nilA) (caN 1 m__law_plain_path)) (conA (bnd (conA (vr 3) nilA) (caN 1 m__law_plain_path)) nilA)))
  (sqS (asS (ifV (b2 (cst (txt [47])) (bnd (conA (slV (vr 2) noP (bnd (cst (.d (.int 1))) inP)) (conA (slV (vr 3) noP (bnd (cst (.d (.int 1))) inP)) nilA)) lstG) (cmT (inG false))) (b2 (slV (vr 2) noP (bnd (cst (.d (.int 1))) inP)) (slV (vr 3) noP (bnd (cst (.d (.int 1))) inP)) (cmV (eqG))) (cst (.d (.bool true)))) (setR 10))
  (sqS (asS ((andV (vr 10) (andV (b2 (cst (txt [46, 46])) (m1 (vr 8) (cst (txt [47])) (splitG)) (cmV (inG true))) (b2 (cst (txt [46, 46])) (m1 (vr 9) (cst (txt [47])) (splitG)) (cmV (inG true)))))) (setR 10))
  (sqS (ifS (b2 (b2 (vr 7) (cst (txt [80, 97, 116, 104, 69, 114, 114, 111, 114])) (cmV (eqG))) (vr 10) (cmT (eqG))) (sqS (rtS (cst (.d (.bool false))))
  skS) skS)
  (sqS (ifS ((andT (bnd (vr 10) truT) ((orT (b2 (bnd (conA (ifV (b2 (vr 9) (cst (txt [47])) (cmT (neG))) (b2 (b2 (vr 9) (cst (txt [47])) addG) (vr 7) addG) (b2 (cst (txt [47])) (vr 7) addG)) nilA) (caN 1 m__law_plain_path)) (vr 8) (cmT (neG))) (b2 (vr 7) (bnd (conA (vr 7) nilA) (caN 1 m__law_plain_path)) (cmT (neG))))))) (sqS (rtS (cst (.d (.bool false))))
  skS) skS)
  (sqS (ifS (b2 (bnd (conA (vr 2) (conA (vr 3) nilA)) (caN 2 m_is_within)) (bnd (conA (vr 8) (conA (vr 9) nilA)) (caN 2 m__law_within)) (cmT (neG))) (sqS (rtS (cst (.d (.bool false))))
  skS) skS)
  (sqS (asS (frz (lcN [20] (bnd (conA (b2 (cst (.d (.int 1))) (bnd (conA (vr 1) (conA (cst (.d (.int 4))) nilA)) (caN 2 m__law_roll)) addG) nilA) rgG) (setR 20) yesT (bnd (conA (vr 1) nilA) (caN 1 m__law_drawn)))) (setR 11))
  (sqS (asS (b2 (bnd (conA (frz (lcN [21] (bnd (vr 11) itG) (setR 21) yesT (bnd (conA (b2 (slV (vr 21) noP (bnd (cst (.d (.int 1))) inP)) (cst (txt [47])) (cmV (eqG))) (conA (cst (.d (.int 1))) nilA)) tupG))) nilA) lenDA) (cst (.d (.int 1))) (cmV (eqG))) (setR 12))
  (sqS (asS (toldV 1 [80, 97, 116, 104, 69, 114, 114, 111, 114] (bnd (conA (vr 11) nilA) (caN 1 m_shared_path))) (setR 7))
  (sqS (ifS ((orT (b2 (b2 (vr 7) (cst (txt [80, 97, 116, 104, 69, 114, 114, 111, 114])) (cmV (eqG))) (vr 12) (cmT (eqG))) ((andT (bnd (vr 12) truT) (b2 (vr 7) (bnd (conA (frz (lcN [21] (bnd (vr 11) itG) (setR 21) yesT (bnd (conA (vr 21) nilA) (caN 1 m__law_plain_path)))) nilA) (caN 1 m__law_shared)) (cmT (neG))))))) (sqS (rtS (cst (.d (.bool false))))
  skS) skS)
  (sqS (asS (onN (bnd (conA (frz (lcN [21] (bnd (vr 11) itG) (setR 21) yesT (bnd (conA (bnd (conA (vr 21) nilA) (caN 1 m__law_plain_path)) (conA (cst (.d (.int 1))) nilA)) tupG))) nilA) dictN) listDG) (setR 13))
  (sqS (asS (frz (lcN [21] (bnd (bnd (conA (frz (lcN [23] (bnd (vr 13) itG) (setR 23) yesT (bnd (conA (b2 (slV (vr 23) noP (bnd (cst (.d (.int 1))) inP)) (cst (txt [47])) (cmV (neG))) (conA (bnd (conA (frz (lcN [22] (bnd (m1 (vr 23) (cst (txt [47])) (splitG)) itG) (setR 22) (b2 (vr 22) (bnd (conA (cst (txt [])) (conA (cst (txt [46])) nilA)) lstG) (cmT (inG true))) (vr 22))) nilA) tupleG) (conA (vr 23) nilA))) tupG))) nilA) sortedG) itG) (setR 21) yesT (b2 (vr 21) (cst (.d (.int 2))) ixG))) (setR 14))
  (sqS (ifS (b2 (bnd (conA (bnd (conA (vr 11) nilA) (caN 1 m_in_turn)) nilA) listG) (vr 14) (cmT (neG))) (sqS (rtS (cst (.d (.bool false))))
  skS) skS)
  (sqS (asS (m1 (cst (txt [])) (frz (lcN [20] (bnd (conA (b2 (cst (.d (.int 1))) (bnd (conA (vr 1) (conA (cst (.d (.int 6))) nilA)) (caN 2 m__law_roll)) addG) nilA) rgG) (setR 20) yesT (b2 (cst (txt [46, 97, 98])) (bnd (conA (vr 1) (conA (cst (.d (.int 3))) nilA)) (caN 2 m__law_roll)) ixG))) (joinG)) (setR 15))
  (sqS (asS (b2 (bnd (conA (vr 15) nilA) lenG) (bnd (conA (m1 (vr 15) (cst (txt [46])) (tt1 (fun a b => .str (Txt.lstripChars a b)) sizeLine)) nilA) lenG) subG) (setR 16))
  (sqS (asS (m1 (vr 15) (cst (txt [46])) (tt1 (fun a b => .int (Txt.rfind a b)) sizeLine)) (setR 17))
  (sqS (asS (ifV (b2 (vr 17) (vr 16) (cmT (ltOf ltI ltL))) (bnd (conA (vr 15) (conA (cst (txt [])) nilA)) tupG) (bnd (conA (slV (vr 15) noP (bnd (vr 17) inP)) (conA (slV (vr 15) (bnd (vr 17) inP) noP) nilA)) tupG)) (setR 14))
  (sqS (ifS ((orT (b2 (bnd (conA (vr 15) nilA) (caN 1 m_ends_of)) (vr 14) (cmT (neG))) (b2 (m1 (cst (txt [])) (bnd (conA (vr 15) nilA) (caN 1 m_ends_of)) (joinG)) (vr 15) (cmT (neG))))) (sqS (rtS (cst (.d (.bool false))))
  skS) skS)
  (sqS (asS (b2 (bnd (conA (cst (txt [])) (conA (cst (txt [46, 120])) (conA (cst (txt [46, 121, 122])) (conA (cst (txt [113])) (conA (cst (txt [46, 97, 47, 98])) nilA))))) lstG) (bnd (conA (vr 1) (conA (cst (.d (.int 5))) nilA)) (caN 2 m__law_roll)) ixG) (setR 18))
  (sqS (asS (b2 (m1 (vr 8) (cst (txt [47])) (splitG)) (bnd (cst (.d (.int 1))) negG) ixG) (setR 19))
  (sqS (asS ((andV (b2 (vr 19) (bnd (conA (cst (txt [])) (conA (cst (txt [46])) (conA (cst (txt [46, 46])) nilA))) lstG) (cmV (inG true))) (b2 (vr 18) (bnd (conA (cst (txt [113])) (conA (cst (txt [46, 97, 47, 98])) nilA)) lstG) (cmV (inG true))))) (setR 10))
  (sqS (ifS (b2 (toldV 1 [80, 97, 116, 104, 69, 114, 114, 111, 114] (bnd (conA (vr 2) (conA (vr 18) nilA)) (caN 2 m_with_end))) (ifV (bnd (vr 10) truT) (b2 (b2 (slV (vr 8) noP (bnd (b2 (bnd (conA (vr 8) nilA) lenG) (bnd (conA (vr 19) nilA) lenG) subG) inP)) (b2 (bnd (conA (vr 19) nilA) (caN 1 m_ends_of)) (cst (.d (.int 0))) ixG) addG) (vr 18) addG) (cst (txt [80, 97, 116, 104, 69, 114, 114, 111, 114]))) (cmT (neG))) (sqS (rtS (cst (.d (.bool false))))
  skS) skS)
  skS)))))))))))))))))))))))))))))))))
theorem f_law_eq : f_law = sqS (rdS 1 (bnd (conA (vr 0) (conA (cst (.d (.int 1))) nilA)) (caR 2 m__law_rounds)) bodyL) (sqS (rtS (caM m__law_plain [])) skS) := rfl
abbrev e00 (X : List Dt) : Ev.Env := ⟨some (.fro (.scr X)) :: List.replicate 23 none, []⟩
theorem setR_ow {i : Nat} {d : Dt} {o : Ob} {e : Ev.Env} (h : i < e.sl.length) (hi : i ≠ 1) : setR i (.d d) (ow o e) = some (ow o (st i (.d d) e)) := by
  rw [setR_st (by rw [ow_len]; exact h), ow_st hi]
theorem asS_ow {i : Nat} {f : Ev.Env → Rs R} {d : Dt} {o o' : Ob} {e : Ev.Env} (hv : f (ow o e) = .ok (.d d) (ow o' e)) (h : i < e.sl.length) (hi : i ≠ 1) : asS f (setR i) (ow o e) = .nx (ow o' (st i (.d d) e)) := asS_of hv (setR_ow h hi)
theorem prS_ow {i j : Nat} {fs : Ev.Env → Rs (List R)} {x y : Dt} {o o' : Ob} {e : Ev.Env} (hv : fs (ow o e) = .ok [.d x, .d y] (ow o' e)) (h : i < e.sl.length) (hi : i ≠ 1) (h2 : j < e.sl.length) (hj : j ≠ 1) : prS i j fs (ow o e) = .nx (ow o' (st j (.d y) (st i (.d x) e))) := by
  have h1 := setR_ow (d := x) (o := o') h hi
  have h3 := setR_ow (d := y) (o := o') (e := st i (.d x) e) (by rw [st_len]; exact h2) hj
  unfold prS bS
  rw [hv]
  simp only [h1, h3]
theorem tp2_ow {i j : Nat} {x y : Dt} {o : Ob} {e : Ev.Env} (h : i < e.sl.length) (hi : i ≠ 1) (h2 : j < e.sl.length) (hj : j ≠ 1) : tpG 2 (conG (setR i) (conG (setR j) nilG)) (.d (.tuple [x, y])) (ow o e) = some (ow o (st j (.d y) (st i (.d x) e))) := by
  have h1 := setR_ow (d := x) (o := o) h hi
  have h3 := setR_ow (d := y) (o := o) (e := st i (.d x) e) (by rw [st_len]; exact h2) hj
  simp only [tpG, tof, conG, nilG, h1, h3, List.length_cons, List.length_nil, if_true]
theorem if_no {c : Ev.Env → Rs Bool} {s : Ev.Env → Sr} {e : Ev.Env} (h : c e = .ok false e) : ifS c s skS e = .nx e := ifS_F h rfl
theorem s_body (e0 : Ev.Env) (le0 : e0.sl.length = 24) (k20e0 : Fr 20 e0) (k21e0 : Fr 21 e0) (k22e0 : Fr 22 e0) (k23e0 : Fr 23 e0) (a b c : Int) : ∃ e', bodyL (ow (DO a b c) e0) = .nx e' := by
  have z2 : (2 : Nat) ≤ sizeLine := by decide
  have z7 : (7 : Nat) ≤ sizeLine := by decide
  obtain ⟨p, a1, b1, c1, hp, dp⟩ := drawn_ow (e := e0) a b c (by rw [le0]; decide)
  obtain ⟨q, a2, b2', c2, hq, dq⟩ := drawn_ow (e := e0) a1 b1 c1 (by rw [le0]; decide)
  have s1 := asS_of (tupG_ok (ds := [tx p, tx q]) (conA_of dp (one_of dq)) z2) (tp2_ow (i := 2) (j := 3) (x := tx p) (y := tx q) (o := DO a2 b2' c2) (e := e0) (by rw [le0]; decide) (by decide) (by rw [le0]; decide) (by decide))
  obtain ⟨e1, he1⟩ : ∃ zz : Ev.Env, zz = st 2 (txt p) e0 := ⟨_, rfl⟩
  have le1 : e1.sl.length = 24 := by rw [he1, st_len]; exact le0
  have g2e1 : vr 2 e1 = .ok (txt p) e1 := by rw [he1]; exact vr_st (by rw [le0]; decide)
  have k20e1 : Fr 20 e1 := by rw [he1]; exact k20e0.st (by decide)
  have k21e1 : Fr 21 e1 := by rw [he1]; exact k21e0.st (by decide)
  have k22e1 : Fr 22 e1 := by rw [he1]; exact k22e0.st (by decide)
  have k23e1 : Fr 23 e1 := by rw [he1]; exact k23e0.st (by decide)
  obtain ⟨e2, he2⟩ : ∃ zz : Ev.Env, zz = st 3 (txt q) e1 := ⟨_, rfl⟩
  have le2 : e2.sl.length = 24 := by rw [he2, st_len]; exact le1
  have g2e2 : vr 2 e2 = .ok (txt p) e2 := by rw [he2]; exact vr_ne (by decide) g2e1
  have g3e2 : vr 3 e2 = .ok (txt q) e2 := by rw [he2]; exact vr_st (by rw [le1]; decide)
  have k20e2 : Fr 20 e2 := by rw [he2]; exact k20e1.st (by decide)
  have k21e2 : Fr 21 e2 := by rw [he2]; exact k21e1.st (by decide)
  have k22e2 : Fr 22 e2 := by rw [he2]; exact k22e1.st (by decide)
  have k23e2 : Fr 23 e2 := by rw [he2]; exact k23e1.st (by decide)
  rw [← he1, ← he2] at s1
  have hdeep : bnd (conA (cst (txt [116])) (conA (cst (txt [117])) (conA (cst (txt [118])) (conA (cst (txt [119])) (conA (cst (txt [120])) (conA (cst (txt [121])) (conA (cst (txt [122])) nilA))))))) lstG (ow (DO a2 b2' c2) e2) = .ok (.d (.list (DL deepL))) (ow (DO a2 b2' c2) e2) := by
    simp [a_conA, a_nilA, bnd, cst, lstG, allD, dOf, z7, DL]
  obtain ⟨e3, he3⟩ : ∃ zz : Ev.Env, zz = st 4 (.d (.list (DL deepL))) e2 := ⟨_, rfl⟩
  have le3 : e3.sl.length = 24 := by rw [he3, st_len]; exact le2
  have g2e3 : vr 2 e3 = .ok (txt p) e3 := by rw [he3]; exact vr_ne (by decide) g2e2
  have g3e3 : vr 3 e3 = .ok (txt q) e3 := by rw [he3]; exact vr_ne (by decide) g3e2
  have g4e3 : vr 4 e3 = .ok (.d (.list (DL deepL))) e3 := by rw [he3]; exact vr_st (by rw [le2]; decide)
  have k20e3 : Fr 20 e3 := by rw [he3]; exact k20e2.st (by decide)
  have k21e3 : Fr 21 e3 := by rw [he3]; exact k21e2.st (by decide)
  have k22e3 : Fr 22 e3 := by rw [he3]; exact k22e2.st (by decide)
  have k23e3 : Fr 23 e3 := by rw [he3]; exact k23e2.st (by decide)
  have s2 := asS_ow (i := 4) (o := DO a2 b2' c2) (o' := DO a2 b2' c2) (e := e2) (hdeep) (by rw [le2]; decide) (by decide)
  rw [← he3] at s2
  obtain ⟨e4, he4⟩ : ∃ zz : Ev.Env, zz = st 5 (txt (plainL p)) e3 := ⟨_, rfl⟩
  have le4 : e4.sl.length = 24 := by rw [he4, st_len]; exact le3
  have g2e4 : vr 2 e4 = .ok (txt p) e4 := by rw [he4]; exact vr_ne (by decide) g2e3
  have g3e4 : vr 3 e4 = .ok (txt q) e4 := by rw [he4]; exact vr_ne (by decide) g3e3
  have g4e4 : vr 4 e4 = .ok (.d (.list (DL deepL))) e4 := by rw [he4]; exact vr_ne (by decide) g4e3
  have g5e4 : vr 5 e4 = .ok (txt (plainL p)) e4 := by rw [he4]; exact vr_st (by rw [le3]; decide)
  have k20e4 : Fr 20 e4 := by rw [he4]; exact k20e3.st (by decide)
  have k21e4 : Fr 21 e4 := by rw [he4]; exact k21e3.st (by decide)
  have k22e4 : Fr 22 e4 := by rw [he4]; exact k22e3.st (by decide)
  have k23e4 : Fr 23 e4 := by rw [he4]; exact k23e3.st (by decide)
  have s3 := asS_ow (i := 5) (o := DO a2 b2' c2) (o' := DO a2 b2' c2) (e := e3) (ca1 (vr_ow_ne (by decide) g2e3) (s_made hp.pw [])) (by rw [le3]; decide) (by decide)
  rw [← he4] at s3
  have s4 := if_no (s := (sqS (rtS (cst (.d (.bool false)))) skS)) (c_made (e := ow (DO a2 b2' c2) e4) hp (vr_ow_ne (by decide) g2e4) (vr_ow_ne (by decide) g4e4) (vr_ow_ne (by decide) g5e4))
  have s5 := if_no (s := (sqS (rtS (cst (.d (.bool false)))) skS)) (c_parts (e := ow (DO a2 b2' c2) e4) hp (k22e4.ow (by decide)) (vr_ow_ne (by decide) g2e4))
  obtain ⟨e5, he5⟩ : ∃ zz : Ev.Env, zz = st 6 (txt (plainL (joinP p q))) e4 := ⟨_, rfl⟩
  have le5 : e5.sl.length = 24 := by rw [he5, st_len]; exact le4
  have g2e5 : vr 2 e5 = .ok (txt p) e5 := by rw [he5]; exact vr_ne (by decide) g2e4
  have g3e5 : vr 3 e5 = .ok (txt q) e5 := by rw [he5]; exact vr_ne (by decide) g3e4
  have g4e5 : vr 4 e5 = .ok (.d (.list (DL deepL))) e5 := by rw [he5]; exact vr_ne (by decide) g4e4
  have g5e5 : vr 5 e5 = .ok (txt (plainL p)) e5 := by rw [he5]; exact vr_ne (by decide) g5e4
  have g6e5 : vr 6 e5 = .ok (txt (plainL (joinP p q))) e5 := by rw [he5]; exact vr_st (by rw [le4]; decide)
  have k20e5 : Fr 20 e5 := by rw [he5]; exact k20e4.st (by decide)
  have k21e5 : Fr 21 e5 := by rw [he5]; exact k21e4.st (by decide)
  have k22e5 : Fr 22 e5 := by rw [he5]; exact k22e4.st (by decide)
  have k23e5 : Fr 23 e5 := by rw [he5]; exact k23e4.st (by decide)
  have s6 := asS_ow (i := 6) (o := DO a2 b2' c2) (o' := DO a2 b2' c2) (e := e4) (v_joined hp hq (e := ow (DO a2 b2' c2) e4) (vr_ow_ne (by decide) g2e4) (vr_ow_ne (by decide) g3e4)) (by rw [le4]; decide) (by decide)
  rw [← he5] at s6
  have s7 := if_no (s := (sqS (rtS (cst (.d (.bool false)))) skS)) (c_joined (e := ow (DO a2 b2' c2) e5) hp hq (vr_ow_ne (by decide) g2e5) (vr_ow_ne (by decide) g3e5) (vr_ow_ne (by decide) g6e5))
  have s8 := if_no (s := (sqS (rtS (cst (.d (.bool false)))) skS)) (c_led2 (e := ow (DO a2 b2' c2) e5) hp hq (vr_ow_ne (by decide) g2e5) (vr_ow_ne (by decide) g3e5) (vr_ow_ne (by decide) g4e5) (vr_ow_ne (by decide) g6e5))
  have s9 := if_no (s := (sqS (rtS (cst (.d (.bool false)))) skS)) (c_parent (e := ow (DO a2 b2' c2) e5) hp (vr_ow_ne (by decide) g2e5))
  have s10 := if_no (s := (sqS (rtS (cst (.d (.bool false)))) skS)) (c_three (e := ow (DO a2 b2' c2) e5) hp (k22e5.ow (by decide)) (vr_ow_ne (by decide) g2e5) (vr_ow_ne (by decide) g5e5))
  obtain ⟨e6, he6⟩ : ∃ zz : Ev.Env, zz = st 7 (txt (tolT p q)) e5 := ⟨_, rfl⟩
  have le6 : e6.sl.length = 24 := by rw [he6, st_len]; exact le5
  have g2e6 : vr 2 e6 = .ok (txt p) e6 := by rw [he6]; exact vr_ne (by decide) g2e5
  have g3e6 : vr 3 e6 = .ok (txt q) e6 := by rw [he6]; exact vr_ne (by decide) g3e5
  have g7e6 : vr 7 e6 = .ok (txt (tolT p q)) e6 := by rw [he6]; exact vr_st (by rw [le5]; decide)
  have k20e6 : Fr 20 e6 := by rw [he6]; exact k20e5.st (by decide)
  have k21e6 : Fr 21 e6 := by rw [he6]; exact k21e5.st (by decide)
  have k22e6 : Fr 22 e6 := by rw [he6]; exact k22e5.st (by decide)
  have k23e6 : Fr 23 e6 := by rw [he6]; exact k23e5.st (by decide)
  have s11 := asS_ow (i := 7) (o := DO a2 b2' c2) (o' := DO a2 b2' c2) (e := e5) (v_told hp hq (e := ow (DO a2 b2' c2) e5) (vr_ow_ne (by decide) g2e5) (vr_ow_ne (by decide) g3e5)) (by rw [le5]; decide) (by decide)
  rw [← he6] at s11
  obtain ⟨e7, he7⟩ : ∃ zz : Ev.Env, zz = st 8 (txt (plainL p)) e6 := ⟨_, rfl⟩
  have le7 : e7.sl.length = 24 := by rw [he7, st_len]; exact le6
  have g2e7 : vr 2 e7 = .ok (txt p) e7 := by rw [he7]; exact vr_ne (by decide) g2e6
  have g3e7 : vr 3 e7 = .ok (txt q) e7 := by rw [he7]; exact vr_ne (by decide) g3e6
  have g7e7 : vr 7 e7 = .ok (txt (tolT p q)) e7 := by rw [he7]; exact vr_ne (by decide) g7e6
  have g8e7 : vr 8 e7 = .ok (txt (plainL p)) e7 := by rw [he7]; exact vr_st (by rw [le6]; decide)
  have k20e7 : Fr 20 e7 := by rw [he7]; exact k20e6.st (by decide)
  have k21e7 : Fr 21 e7 := by rw [he7]; exact k21e6.st (by decide)
  have k22e7 : Fr 22 e7 := by rw [he7]; exact k22e6.st (by decide)
  have k23e7 : Fr 23 e7 := by rw [he7]; exact k23e6.st (by decide)
  obtain ⟨e8, he8⟩ : ∃ zz : Ev.Env, zz = st 9 (txt (plainL q)) e7 := ⟨_, rfl⟩
  have le8 : e8.sl.length = 24 := by rw [he8, st_len]; exact le7
  have g2e8 : vr 2 e8 = .ok (txt p) e8 := by rw [he8]; exact vr_ne (by decide) g2e7
  have g3e8 : vr 3 e8 = .ok (txt q) e8 := by rw [he8]; exact vr_ne (by decide) g3e7
  have g7e8 : vr 7 e8 = .ok (txt (tolT p q)) e8 := by rw [he8]; exact vr_ne (by decide) g7e7
  have g8e8 : vr 8 e8 = .ok (txt (plainL p)) e8 := by rw [he8]; exact vr_ne (by decide) g8e7
  have g9e8 : vr 9 e8 = .ok (txt (plainL q)) e8 := by rw [he8]; exact vr_st (by rw [le7]; decide)
  have k20e8 : Fr 20 e8 := by rw [he8]; exact k20e7.st (by decide)
  have k21e8 : Fr 21 e8 := by rw [he8]; exact k21e7.st (by decide)
  have k22e8 : Fr 22 e8 := by rw [he8]; exact k22e7.st (by decide)
  have k23e8 : Fr 23 e8 := by rw [he8]; exact k23e7.st (by decide)
  have s12 := prS_ow (i := 8) (j := 9) (o := DO a2 b2' c2) (o' := DO a2 b2' c2) (e := e6) (conA_of (v_lpp hp (j := 2) (e := ow (DO a2 b2' c2) e6) (vr_ow_ne (by decide) g2e6)) (one_of (v_lpp hq (j := 3) (e := ow (DO a2 b2' c2) e6) (vr_ow_ne (by decide) g3e6)))) (by rw [le6]; decide) (by decide) (by rw [le6]; decide) (by decide)
  rw [← he7, ← he8] at s12
  obtain ⟨e9, he9⟩ : ∃ zz : Ev.Env, zz = st 10 (.d (.bool (decide (wh p = wh q)))) e8 := ⟨_, rfl⟩
  have le9 : e9.sl.length = 24 := by rw [he9, st_len]; exact le8
  have g2e9 : vr 2 e9 = .ok (txt p) e9 := by rw [he9]; exact vr_ne (by decide) g2e8
  have g3e9 : vr 3 e9 = .ok (txt q) e9 := by rw [he9]; exact vr_ne (by decide) g3e8
  have g7e9 : vr 7 e9 = .ok (txt (tolT p q)) e9 := by rw [he9]; exact vr_ne (by decide) g7e8
  have g8e9 : vr 8 e9 = .ok (txt (plainL p)) e9 := by rw [he9]; exact vr_ne (by decide) g8e8
  have g9e9 : vr 9 e9 = .ok (txt (plainL q)) e9 := by rw [he9]; exact vr_ne (by decide) g9e8
  have g10e9 : vr 10 e9 = .ok (.d (.bool (decide (wh p = wh q)))) e9 := by rw [he9]; exact vr_st (by rw [le8]; decide)
  have k20e9 : Fr 20 e9 := by rw [he9]; exact k20e8.st (by decide)
  have k21e9 : Fr 21 e9 := by rw [he9]; exact k21e8.st (by decide)
  have k22e9 : Fr 22 e9 := by rw [he9]; exact k22e8.st (by decide)
  have k23e9 : Fr 23 e9 := by rw [he9]; exact k23e8.st (by decide)
  have s13 := asS_ow (i := 10) (o := DO a2 b2' c2) (o' := DO a2 b2' c2) (e := e8) (v_good1 hp hq (e := ow (DO a2 b2' c2) e8) (vr_ow_ne (by decide) g2e8) (vr_ow_ne (by decide) g3e8)) (by rw [le8]; decide) (by decide)
  rw [← he9] at s13
  obtain ⟨e10, he10⟩ : ∃ zz : Ev.Env, zz = st 10 (.d (.bool (goodT p q))) e9 := ⟨_, rfl⟩
  have le10 : e10.sl.length = 24 := by rw [he10, st_len]; exact le9
  have g2e10 : vr 2 e10 = .ok (txt p) e10 := by rw [he10]; exact vr_ne (by decide) g2e9
  have g3e10 : vr 3 e10 = .ok (txt q) e10 := by rw [he10]; exact vr_ne (by decide) g3e9
  have g7e10 : vr 7 e10 = .ok (txt (tolT p q)) e10 := by rw [he10]; exact vr_ne (by decide) g7e9
  have g8e10 : vr 8 e10 = .ok (txt (plainL p)) e10 := by rw [he10]; exact vr_ne (by decide) g8e9
  have g9e10 : vr 9 e10 = .ok (txt (plainL q)) e10 := by rw [he10]; exact vr_ne (by decide) g9e9
  have g10e10 : vr 10 e10 = .ok (.d (.bool (goodT p q))) e10 := by rw [he10]; exact vr_st (by rw [le9]; decide)
  have k20e10 : Fr 20 e10 := by rw [he10]; exact k20e9.st (by decide)
  have k21e10 : Fr 21 e10 := by rw [he10]; exact k21e9.st (by decide)
  have k22e10 : Fr 22 e10 := by rw [he10]; exact k22e9.st (by decide)
  have k23e10 : Fr 23 e10 := by rw [he10]; exact k23e9.st (by decide)
  have s14 := asS_ow (i := 10) (o := DO a2 b2' c2) (o' := DO a2 b2' c2) (e := e9) (v_good2 hp hq (e := ow (DO a2 b2' c2) e9) (vr_ow_ne (by decide) g8e9) (vr_ow_ne (by decide) g9e9) (vr_ow_ne (by decide) g10e9)) (by rw [le9]; decide) (by decide)
  rw [← he10] at s14
  have s15 := if_no (s := (sqS (rtS (cst (.d (.bool false)))) skS)) (c_told1 (q := q) (e := ow (DO a2 b2' c2) e10) hp (vr_ow_ne (by decide) g7e10) (vr_ow_ne (by decide) g10e10))
  have s16 := if_no (s := (sqS (rtS (cst (.d (.bool false)))) skS)) (c_told2 (e := ow (DO a2 b2' c2) e10) hp hq (vr_ow_ne (by decide) g7e10) (vr_ow_ne (by decide) g8e10) (vr_ow_ne (by decide) g9e10) (vr_ow_ne (by decide) g10e10))
  have s17 := if_no (s := (sqS (rtS (cst (.d (.bool false)))) skS)) (c_within (e := ow (DO a2 b2' c2) e10) hp hq (vr_ow_ne (by decide) g2e10) (vr_ow_ne (by decide) g3e10) (vr_ow_ne (by decide) g8e10) (vr_ow_ne (by decide) g9e10))
  obtain ⟨P, a3, b3, c3, P1, P4, hP, hrow⟩ := many_ow (e := e10) (Pp := Dp) a2 b2' c2 4 (fe := bnd (conA (vr 1) nilA) (caN 1 m__law_drawn)) (by rw [le10]; decide) k20e10 (by decide) (by decide) fun a b c e' he => drawn_ow a b c he
  obtain ⟨p0, P', rfl⟩ : ∃ p0 P', P = p0 :: P' := by
    cases P with
    | nil => simp at P1
    | cons p0 P' => exact ⟨p0, P', rfl⟩
  have hz : (p0 :: P').length ≤ 100 := by omega
  obtain ⟨e11, he11⟩ : ∃ zz : Ev.Env, zz = st 11 (.d (.list (DL (p0 :: P')))) e10 := ⟨_, rfl⟩
  have le11 : e11.sl.length = 24 := by rw [he11, st_len]; exact le10
  have g2e11 : vr 2 e11 = .ok (txt p) e11 := by rw [he11]; exact vr_ne (by decide) g2e10
  have g8e11 : vr 8 e11 = .ok (txt (plainL p)) e11 := by rw [he11]; exact vr_ne (by decide) g8e10
  have g11e11 : vr 11 e11 = .ok (.d (.list (DL (p0 :: P')))) e11 := by rw [he11]; exact vr_st (by rw [le10]; decide)
  have k20e11 : Fr 20 e11 := by rw [he11]; exact k20e10.st (by decide)
  have k21e11 : Fr 21 e11 := by rw [he11]; exact k21e10.st (by decide)
  have k22e11 : Fr 22 e11 := by rw [he11]; exact k22e10.st (by decide)
  have k23e11 : Fr 23 e11 := by rw [he11]; exact k23e10.st (by decide)
  have s18 := asS_ow (i := 11) (o := DO a2 b2' c2) (o' := DO a3 b3 c3) (e := e10) (hrow) (by rw [le10]; decide) (by decide)
  rw [← he11] at s18
  obtain ⟨e12, he12⟩ : ∃ zz : Ev.Env, zz = st 12 (.d (.bool (sameB (p0 :: P')))) e11 := ⟨_, rfl⟩
  have le12 : e12.sl.length = 24 := by rw [he12, st_len]; exact le11
  have g2e12 : vr 2 e12 = .ok (txt p) e12 := by rw [he12]; exact vr_ne (by decide) g2e11
  have g8e12 : vr 8 e12 = .ok (txt (plainL p)) e12 := by rw [he12]; exact vr_ne (by decide) g8e11
  have g11e12 : vr 11 e12 = .ok (.d (.list (DL (p0 :: P')))) e12 := by rw [he12]; exact vr_ne (by decide) g11e11
  have g12e12 : vr 12 e12 = .ok (.d (.bool (sameB (p0 :: P')))) e12 := by rw [he12]; exact vr_st (by rw [le11]; decide)
  have k20e12 : Fr 20 e12 := by rw [he12]; exact k20e11.st (by decide)
  have k21e12 : Fr 21 e12 := by rw [he12]; exact k21e11.st (by decide)
  have k22e12 : Fr 22 e12 := by rw [he12]; exact k22e11.st (by decide)
  have k23e12 : Fr 23 e12 := by rw [he12]; exact k23e11.st (by decide)
  have s19 := asS_ow (i := 12) (o := DO a3 b3 c3) (o' := DO a3 b3 c3) (e := e11) (v_same (e := ow (DO a3 b3 c3) e11) hP hz (k21e11.ow (by decide)) (vr_ow_ne (by decide) g11e11)) (by rw [le11]; decide) (by decide)
  rw [← he12] at s19
  obtain ⟨e13, he13⟩ : ∃ zz : Ev.Env, zz = st 7 (txt (tolS (p0 :: P'))) e12 := ⟨_, rfl⟩
  have le13 : e13.sl.length = 24 := by rw [he13, st_len]; exact le12
  have g2e13 : vr 2 e13 = .ok (txt p) e13 := by rw [he13]; exact vr_ne (by decide) g2e12
  have g8e13 : vr 8 e13 = .ok (txt (plainL p)) e13 := by rw [he13]; exact vr_ne (by decide) g8e12
  have g11e13 : vr 11 e13 = .ok (.d (.list (DL (p0 :: P')))) e13 := by rw [he13]; exact vr_ne (by decide) g11e12
  have g12e13 : vr 12 e13 = .ok (.d (.bool (sameB (p0 :: P')))) e13 := by rw [he13]; exact vr_ne (by decide) g12e12
  have g7e13 : vr 7 e13 = .ok (txt (tolS (p0 :: P'))) e13 := by rw [he13]; exact vr_st (by rw [le12]; decide)
  have k20e13 : Fr 20 e13 := by rw [he13]; exact k20e12.st (by decide)
  have k21e13 : Fr 21 e13 := by rw [he13]; exact k21e12.st (by decide)
  have k22e13 : Fr 22 e13 := by rw [he13]; exact k22e12.st (by decide)
  have k23e13 : Fr 23 e13 := by rw [he13]; exact k23e12.st (by decide)
  have s20 := asS_ow (i := 7) (o := DO a3 b3 c3) (o' := DO a3 b3 c3) (e := e12) (v_shared (e := ow (DO a3 b3 c3) e12) hP hz (vr_ow_ne (by decide) g11e12)) (by rw [le12]; decide) (by decide)
  rw [← he13] at s20
  have s21 := if_no (s := (sqS (rtS (cst (.d (.bool false)))) skS)) (c_shared (e := ow (DO a3 b3 c3) e13) hP hz (k21e13.ow (by decide)) (vr_ow_ne (by decide) g11e13) (vr_ow_ne (by decide) g7e13) (vr_ow_ne (by decide) g12e13))
  obtain ⟨e14, he14⟩ : ∃ zz : Ev.Env, zz = st 13 (.d (.list (DL (keysL ((p0 :: P').map plainL))))) e13 := ⟨_, rfl⟩
  have le14 : e14.sl.length = 24 := by rw [he14, st_len]; exact le13
  have g2e14 : vr 2 e14 = .ok (txt p) e14 := by rw [he14]; exact vr_ne (by decide) g2e13
  have g8e14 : vr 8 e14 = .ok (txt (plainL p)) e14 := by rw [he14]; exact vr_ne (by decide) g8e13
  have g11e14 : vr 11 e14 = .ok (.d (.list (DL (p0 :: P')))) e14 := by rw [he14]; exact vr_ne (by decide) g11e13
  have g13e14 : vr 13 e14 = .ok (.d (.list (DL (keysL ((p0 :: P').map plainL))))) e14 := by rw [he14]; exact vr_st (by rw [le13]; decide)
  have k20e14 : Fr 20 e14 := by rw [he14]; exact k20e13.st (by decide)
  have k21e14 : Fr 21 e14 := by rw [he14]; exact k21e13.st (by decide)
  have k22e14 : Fr 22 e14 := by rw [he14]; exact k22e13.st (by decide)
  have k23e14 : Fr 23 e14 := by rw [he14]; exact k23e13.st (by decide)
  have s22 := asS_ow (i := 13) (o := DO a3 b3 c3) (o' := DO a3 b3 c3) (e := e13) (v_keys (e := ow (DO a3 b3 c3) e13) hP hz (k21e13.ow (by decide)) (vr_ow_ne (by decide) g11e13)) (by rw [le13]; decide) (by decide)
  rw [← he14] at s22
  have hK : ∀ x ∈ keysL ((p0 :: P').map plainL), Pw x := fun x hx => by
    obtain ⟨p, hp, rfl⟩ := List.mem_map.mp (keysL_mem hx)
    exact (hP p hp).pl
  have zK : (keysL ((p0 :: P').map plainL)).length ≤ 100 := by
    have := keys_len ((p0 :: P').map plainL) []
    unfold keysL
    rw [List.length_map] at this
    simp only [List.length_nil] at this
    omega
  obtain ⟨e15, he15⟩ : ∃ zz : Ev.Env, zz = st 14 (.d (.list (DL (dueL (keysL ((p0 :: P').map plainL)))))) e14 := ⟨_, rfl⟩
  have le15 : e15.sl.length = 24 := by rw [he15, st_len]; exact le14
  have g2e15 : vr 2 e15 = .ok (txt p) e15 := by rw [he15]; exact vr_ne (by decide) g2e14
  have g8e15 : vr 8 e15 = .ok (txt (plainL p)) e15 := by rw [he15]; exact vr_ne (by decide) g8e14
  have g11e15 : vr 11 e15 = .ok (.d (.list (DL (p0 :: P')))) e15 := by rw [he15]; exact vr_ne (by decide) g11e14
  have g13e15 : vr 13 e15 = .ok (.d (.list (DL (keysL ((p0 :: P').map plainL))))) e15 := by rw [he15]; exact vr_ne (by decide) g13e14
  have g14e15 : vr 14 e15 = .ok (.d (.list (DL (dueL (keysL ((p0 :: P').map plainL)))))) e15 := by rw [he15]; exact vr_st (by rw [le14]; decide)
  have k20e15 : Fr 20 e15 := by rw [he15]; exact k20e14.st (by decide)
  have k21e15 : Fr 21 e15 := by rw [he15]; exact k21e14.st (by decide)
  have k22e15 : Fr 22 e15 := by rw [he15]; exact k22e14.st (by decide)
  have k23e15 : Fr 23 e15 := by rw [he15]; exact k23e14.st (by decide)
  have s23 := asS_ow (i := 14) (o := DO a3 b3 c3) (o' := DO a3 b3 c3) (e := e14) (v_due (e := ow (DO a3 b3 c3) e14) hK zK (k21e14.ow (by decide)) (k22e14.ow (by decide)) (k23e14.ow (by decide)) (vr_ow_ne (by decide) g13e14)) (by rw [le14]; decide) (by decide)
  rw [← he15] at s23
  have s24 := if_no (s := (sqS (rtS (cst (.d (.bool false)))) skS)) (c_turn (e := ow (DO a3 b3 c3) e15) hP hz (vr_ow_ne (by decide) g11e15) (vr_ow_ne (by decide) g14e15))
  obtain ⟨nm, a4, b4, c4, hn, hname⟩ := v_name (e := e15) a3 b3 c3 (by rw [le15]; decide) k20e15
  obtain ⟨e16, he16⟩ : ∃ zz : Ev.Env, zz = st 15 (txt nm) e15 := ⟨_, rfl⟩
  have le16 : e16.sl.length = 24 := by rw [he16, st_len]; exact le15
  have g2e16 : vr 2 e16 = .ok (txt p) e16 := by rw [he16]; exact vr_ne (by decide) g2e15
  have g8e16 : vr 8 e16 = .ok (txt (plainL p)) e16 := by rw [he16]; exact vr_ne (by decide) g8e15
  have g15e16 : vr 15 e16 = .ok (txt nm) e16 := by rw [he16]; exact vr_st (by rw [le15]; decide)
  have s25 := asS_ow (i := 15) (o := DO a3 b3 c3) (o' := DO a4 b4 c4) (e := e15) (hname) (by rw [le15]; decide) (by decide)
  rw [← he16] at s25
  obtain ⟨e17, he17⟩ : ∃ zz : Ev.Env, zz = st 16 (.d (.int (aheadE nm))) e16 := ⟨_, rfl⟩
  have le17 : e17.sl.length = 24 := by rw [he17, st_len]; exact le16
  have g2e17 : vr 2 e17 = .ok (txt p) e17 := by rw [he17]; exact vr_ne (by decide) g2e16
  have g8e17 : vr 8 e17 = .ok (txt (plainL p)) e17 := by rw [he17]; exact vr_ne (by decide) g8e16
  have g15e17 : vr 15 e17 = .ok (txt nm) e17 := by rw [he17]; exact vr_ne (by decide) g15e16
  have g16e17 : vr 16 e17 = .ok (.d (.int (aheadE nm))) e17 := by rw [he17]; exact vr_st (by rw [le16]; decide)
  have s26 := asS_ow (i := 16) (o := DO a4 b4 c4) (o' := DO a4 b4 c4) (e := e16) (v_ahead (e := ow (DO a4 b4 c4) e16) hn (vr_ow_ne (by decide) g15e16)) (by rw [le16]; decide) (by decide)
  rw [← he17] at s26
  obtain ⟨e18, he18⟩ : ∃ zz : Ev.Env, zz = st 17 (.d (.int (spotE nm))) e17 := ⟨_, rfl⟩
  have le18 : e18.sl.length = 24 := by rw [he18, st_len]; exact le17
  have g2e18 : vr 2 e18 = .ok (txt p) e18 := by rw [he18]; exact vr_ne (by decide) g2e17
  have g8e18 : vr 8 e18 = .ok (txt (plainL p)) e18 := by rw [he18]; exact vr_ne (by decide) g8e17
  have g15e18 : vr 15 e18 = .ok (txt nm) e18 := by rw [he18]; exact vr_ne (by decide) g15e17
  have g16e18 : vr 16 e18 = .ok (.d (.int (aheadE nm))) e18 := by rw [he18]; exact vr_ne (by decide) g16e17
  have g17e18 : vr 17 e18 = .ok (.d (.int (spotE nm))) e18 := by rw [he18]; exact vr_st (by rw [le17]; decide)
  have s27 := asS_ow (i := 17) (o := DO a4 b4 c4) (o' := DO a4 b4 c4) (e := e17) (v_spot (e := ow (DO a4 b4 c4) e17) hn (vr_ow_ne (by decide) g15e17)) (by rw [le17]; decide) (by decide)
  rw [← he18] at s27
  obtain ⟨e19, he19⟩ : ∃ zz : Ev.Env, zz = st 14 (.d (.tuple (DL [(lawE nm).1, (lawE nm).2]))) e18 := ⟨_, rfl⟩
  have le19 : e19.sl.length = 24 := by rw [he19, st_len]; exact le18
  have g2e19 : vr 2 e19 = .ok (txt p) e19 := by rw [he19]; exact vr_ne (by decide) g2e18
  have g8e19 : vr 8 e19 = .ok (txt (plainL p)) e19 := by rw [he19]; exact vr_ne (by decide) g8e18
  have g15e19 : vr 15 e19 = .ok (txt nm) e19 := by rw [he19]; exact vr_ne (by decide) g15e18
  have g16e19 : vr 16 e19 = .ok (.d (.int (aheadE nm))) e19 := by rw [he19]; exact vr_ne (by decide) g16e18
  have g17e19 : vr 17 e19 = .ok (.d (.int (spotE nm))) e19 := by rw [he19]; exact vr_ne (by decide) g17e18
  have g14e19 : vr 14 e19 = .ok (.d (.tuple (DL [(lawE nm).1, (lawE nm).2]))) e19 := by rw [he19]; exact vr_st (by rw [le18]; decide)
  have s28 := asS_ow (i := 14) (o := DO a4 b4 c4) (o' := DO a4 b4 c4) (e := e18) (v_due2 (e := ow (DO a4 b4 c4) e18) hn (vr_ow_ne (by decide) g15e18) (vr_ow_ne (by decide) g16e18) (vr_ow_ne (by decide) g17e18)) (by rw [le18]; decide) (by decide)
  rw [← he19] at s28
  have s29 := if_no (s := (sqS (rtS (cst (.d (.bool false)))) skS)) (c_ends (e := ow (DO a4 b4 c4) e19) hn (vr_ow_ne (by decide) g15e19) (vr_ow_ne (by decide) g14e19))
  obtain ⟨x, a5, b5, c5, hx, hend⟩ := v_end (e := e19) a4 b4 c4 (by rw [le19]; decide)
  obtain ⟨e20, he20⟩ : ∃ zz : Ev.Env, zz = st 18 (txt x) e19 := ⟨_, rfl⟩
  have le20 : e20.sl.length = 24 := by rw [he20, st_len]; exact le19
  have g2e20 : vr 2 e20 = .ok (txt p) e20 := by rw [he20]; exact vr_ne (by decide) g2e19
  have g8e20 : vr 8 e20 = .ok (txt (plainL p)) e20 := by rw [he20]; exact vr_ne (by decide) g8e19
  have g18e20 : vr 18 e20 = .ok (txt x) e20 := by rw [he20]; exact vr_st (by rw [le19]; decide)
  have s30 := asS_ow (i := 18) (o := DO a4 b4 c4) (o' := DO a5 b5 c5) (e := e19) (hend) (by rw [le19]; decide) (by decide)
  rw [← he20] at s30
  obtain ⟨e21, he21⟩ : ∃ zz : Ev.Env, zz = st 19 (txt (nameL p)) e20 := ⟨_, rfl⟩
  have le21 : e21.sl.length = 24 := by rw [he21, st_len]; exact le20
  have g2e21 : vr 2 e21 = .ok (txt p) e21 := by rw [he21]; exact vr_ne (by decide) g2e20
  have g8e21 : vr 8 e21 = .ok (txt (plainL p)) e21 := by rw [he21]; exact vr_ne (by decide) g8e20
  have g18e21 : vr 18 e21 = .ok (txt x) e21 := by rw [he21]; exact vr_ne (by decide) g18e20
  have g19e21 : vr 19 e21 = .ok (txt (nameL p)) e21 := by rw [he21]; exact vr_st (by rw [le20]; decide)
  have s31 := asS_ow (i := 19) (o := DO a5 b5 c5) (o' := DO a5 b5 c5) (e := e20) (v_last (e := ow (DO a5 b5 c5) e20) hp (vr_ow_ne (by decide) g8e20)) (by rw [le20]; decide) (by decide)
  rw [← he21] at s31
  obtain ⟨e22, he22⟩ : ∃ zz : Ev.Env, zz = st 10 (.d (.bool (!badE (nameL p) x))) e21 := ⟨_, rfl⟩
  have le22 : e22.sl.length = 24 := by rw [he22, st_len]; exact le21
  have g2e22 : vr 2 e22 = .ok (txt p) e22 := by rw [he22]; exact vr_ne (by decide) g2e21
  have g8e22 : vr 8 e22 = .ok (txt (plainL p)) e22 := by rw [he22]; exact vr_ne (by decide) g8e21
  have g18e22 : vr 18 e22 = .ok (txt x) e22 := by rw [he22]; exact vr_ne (by decide) g18e21
  have g19e22 : vr 19 e22 = .ok (txt (nameL p)) e22 := by rw [he22]; exact vr_ne (by decide) g19e21
  have g10e22 : vr 10 e22 = .ok (.d (.bool (!badE (nameL p) x))) e22 := by rw [he22]; exact vr_st (by rw [le21]; decide)
  have s32 := asS_ow (i := 10) (o := DO a5 b5 c5) (o' := DO a5 b5 c5) (e := e21) (v_good3 (p := p) (e := ow (DO a5 b5 c5) e21) hx (vr_ow_ne (by decide) g18e21) (vr_ow_ne (by decide) g19e21)) (by rw [le21]; decide) (by decide)
  rw [← he22] at s32
  have s33 := if_no (s := (sqS (rtS (cst (.d (.bool false)))) skS)) (c_end (e := ow (DO a5 b5 c5) e22) hp hx (vr_ow_ne (by decide) g2e22) (vr_ow_ne (by decide) g8e22) (vr_ow_ne (by decide) g10e22) (vr_ow_ne (by decide) g18e22) (vr_ow_ne (by decide) g19e22))
  refine ⟨ow (DO a5 b5 c5) e22, ?_⟩
  unfold bodyL
  refine sqS_of s1 ?_
  refine sqS_of s2 ?_
  refine sqS_of s3 ?_
  refine sqS_of s4 ?_
  refine sqS_of s5 ?_
  refine sqS_of s6 ?_
  refine sqS_of s7 ?_
  refine sqS_of s8 ?_
  refine sqS_of s9 ?_
  refine sqS_of s10 ?_
  refine sqS_of s11 ?_
  refine sqS_of s12 ?_
  refine sqS_of s13 ?_
  refine sqS_of s14 ?_
  refine sqS_of s15 ?_
  refine sqS_of s16 ?_
  refine sqS_of s17 ?_
  refine sqS_of s18 ?_
  refine sqS_of s19 ?_
  refine sqS_of s20 ?_
  refine sqS_of s21 ?_
  refine sqS_of s22 ?_
  refine sqS_of s23 ?_
  refine sqS_of s24 ?_
  refine sqS_of s25 ?_
  refine sqS_of s26 ?_
  refine sqS_of s27 ?_
  refine sqS_of s28 ?_
  refine sqS_of s29 ?_
  refine sqS_of s30 ?_
  refine sqS_of s31 ?_
  refine sqS_of s32 ?_
  refine sqS_of s33 ?_
  rfl
theorem plain (ns : List Int) : ∃ e, m_law [.scr (ns.map .int)] [] = .ok (.d (.bool true)) e := by
  have e0 : inE 24 [.scr (ns.map .int)] [] = e00 (ns.map .int) := rfl
  obtain ⟨a, b, c, hr⟩ := s_rounds ns
  obtain ⟨e', hb⟩ := s_body (e00 (ns.map .int)) rfl rfl rfl rfl rfl a b c
  have h1 : rdS 1 (bnd (conA (vr 0) (conA (cst (.d (.int 1))) nilA)) (caR 2 m__law_rounds)) bodyL (e00 (ns.map .int)) = .nx e' := by
    have hf : bnd (conA (vr 0) (conA (cst (.d (.int 1))) nilA)) (caR 2 m__law_rounds) (e00 (ns.map .int)) = .ok (DO a b c) (e00 (ns.map .int)) := by
      rw [bnd_of (conA_of (show vr 0 (e00 (ns.map .int)) = .ok (.scr (ns.map .int)) (e00 (ns.map .int)) from rfl) (one_of (cst_ok _ _)))]
      simp only [caR, splitA, List.length_cons, List.length_nil, hr, if_true]
    unfold rdS bS
    rw [hf]
    dsimp only
    rw [if_pos (by show 1 < 24; decide)]
    unfold lpS
    rw [show (⟨(e00 (ns.map .int)).sl.set 1 (some (.own (DO a b c))), (e00 (ns.map .int)).hs⟩ : Ev.Env) = ow (DO a b c) (e00 (ns.map .int)) from rfl, hb]
  have h2 : rtS (caM m__law_plain []) e' = .ret (.d (.bool true)) e' := by
    refine rtS_of ?_
    simp only [caM, splitA, s_lplain, okR]
  refine ⟨⟨[], e'.hs⟩, ?_⟩
  have hm : m_law = mOf 24 f_law := rfl
  rw [hm, f_law_eq]
  exact mOf_ret (by rw [e0]; exact sqS_of h1 (sqS_ret h2))
end K1

theorem PySem.Challenge.cw_shellstack_k01_paths_made_plain_holds : PySem.Challenge.rw_shellstack_k01_paths_made_plain.Holds := by
  exact hHolds fun ns _ => K1.plain ns
