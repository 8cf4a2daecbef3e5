import PyProof.Rows.All
import HandS.HeadHook4
import Wide.All
import OpenK.AllK
import Wide.FinOn
import HandS.Base
import HandS.Call
import HandS.List
import HandS.Comp
import HandS.Dict
import HandS.Iter
import HandS.Zip
import HandS.IsInst
import HandS.Ends
import HandS.Exc
import HandS.ExcInit
import HandS.Words
import HandS.WordsExc
import HandS.Defaults
import HandS.Lambda
import HandS.TupAny
import HandS.TupMul
import HandS.Conv
import HandS.NoneIn
import PyProof.Rows.RuleB_pow
import HandS.ExcField
import HandS.TryOnly
import HandS.MakeKwOnly
import PyProof.ReprRoads
import PyProof.CallFns
import PyProof.StrLawsRepr
import PyProof.FitsInt
import PyProof.DictList
import PyProof.Rows.RegStrFacts
import HandS.EndTab
import HandS.HeadWalk
import HandS.Style
import HandS.NestedK
import HandS.SortInts
import HandS.ListItems
import KE.KRevSl
import PySem.Challenge.RW_postriders_k39_whole_numberings_and_stat
import HandS.HeadEnd
import HandS.Head2
/-! DL, part 0: the defs that make lambdas (each law has its own list). -/
namespace DL
open PySem
def lamDefs : List Str := ["law"]
/-- their tables of code objects, the lambdas' names -/
def tabK (K : PySem.W.Frag) : List (Addr × Str) := lamDefs.map fun d => (He.tabOf K (He.codeOf K (d, none)), d ++ ".<locals>." ++ "<lambda>")
end DL

set_option Elab.async false
set_option linter.all false
set_option maxRecDepth 100000
set_option maxHeartbeats 4000000
/-! DL, part a: deep data by value over the hand layer: data, what a value stands for, extension of the heap. -/
namespace DL
/-- more draws than this are never made -/
@[irreducible] def LIM : Nat := 2 ^ 100000
open PySem PySem.Spec PyProof.Rows L2

inductive D where
  | non | bl (b : Bool) | int (i : Int) | str (x : Str)
  | lst (xs : List D) | tup (xs : List D) | dct (kvs : List (D × D)) | strm | vee (v : V)

/-- frozen places: never changed again by the def that runs -/
abbrev Reg := Addr → Prop
/-- the written part, the heap at the def's entry, the drawing stream (its list, its list of cells) -/
structure Fx where
  K : PySem.W.Frag
  H0 : Hp
  R0 : Reg
  st : Option (Addr × Addr)
  L : Nat
def Fx.T (F : Fx) : List (Addr × Str) := tabK F.K
def Fx.mx (F : Fx) (a : Addr) : Prop := ∃ p, F.st = some p ∧ (a = p.1 ∨ a = p.2)
/-- the stream's state, at most B draws so far -/
def StrmOk (H : Hp) (p : Addr × Addr) (B : Nat) : Prop := p.1 ≠ p.2 ∧ ∃ (xs : List Int) (c n s : Int), H p.1 = some (.lst [.ref p.2, .int c, .int n, .int s]) ∧ H p.2 = some (.lst (xs.map V.int)) ∧
  0 ≤ c ∧ 0 ≤ n ∧ n ≤ (B : Int) ∧ 0 ≤ s ∧ s < 2147483629
theorem StrmOk.mono {H : Hp} {p : Addr × Addr} {B B' : Nat} (h : StrmOk H p B) (l : B ≤ B') : StrmOk H p B' := by
  obtain ⟨a, xs, c, n, s, h1, h2, h3, h4, h5, h6, h7⟩ := h
  exact ⟨a, xs, c, n, s, h1, h2, h3, h4, by omega, h6, h7⟩
def Fx.inv (F : Fx) (B : Nat) (H : Hp) : Prop := ∀ p, F.st = some p → StrmOk H p B
theorem Fx.inv.mono {F : Fx} {B B' : Nat} {H : Hp} (h : F.inv B H) (l : B ≤ B') : F.inv B' H := fun p e => (h p e).mono l
/-- not a table of code objects -/
def NoTbl (o : HO) : Prop := ∀ ps, o ≠ .tbl ps
/-- nothing there but, at most, a table of code objects -/
def Nn (H : Hp) (a : Addr) : Prop := ∀ o, H a = some o → ¬ NoTbl o
theorem Nn.of {H : Hp} {a : Addr} (h : H a = none) : Nn H a := fun o e => by rw [h] at e; cases e
theorem NoTbl.lst {xs : List V} : NoTbl (.lst xs) := fun _ z => nomatch z
theorem NoTbl.tup {xs : List V} : NoTbl (.tup xs) := fun _ z => nomatch z
theorem NoTbl.dK {xs : List (Key × V)} : NoTbl (.dK xs) := fun _ z => nomatch z
theorem NoTbl.dT {xs : List (List Key × V)} : NoTbl (.dT xs) := fun _ z => nomatch z
theorem NoTbl.frz {o : Obj} {u : HO} : NoTbl (.frz o u) := fun _ z => nomatch z

theorem mx_lst {F : Fx} {B : Nat} {H : Hp} (I : F.inv B H) {a : Addr} (m : F.mx a) : ∃ xs, H a = some (.lst xs) := by
  obtain ⟨p, e, m⟩ := m
  obtain ⟨_, xs, c, n, s, h1, h2, _⟩ := I p e
  rcases m with m | m <;> subst m
  · exact ⟨_, h1⟩
  · exact ⟨_, h2⟩

structure HpOk (F : Fx) (B : Nat) (R : Reg) (H : Hp) : Prop where
  inv : F.inv B H
  good : ∀ a, R a → ¬ F.mx a ∧ ∃ o, H a = some o ∧ NoTbl o
  ent : ∀ a o, ¬ F.mx a → F.H0 a = some o → NoTbl o → H a = some o
  ent2 : ∀ a, Nn H a → Nn F.H0 a
  reg0 : ∀ a, R a → F.R0 a ∨ Nn F.H0 a
  tab : LamX.Tabs F.T H
  lim : F.L ≤ LIM

structure Ext (F : Fx) (R : Reg) (H : Hp) (R' : Reg) (H' : Hp) : Prop where
  reg : ∀ a, R a → R' a
  keep : ∀ a o, ¬ F.mx a → H a = some o → NoTbl o → H' a = some o
  new : ∀ a, R' a → R a ∨ Nn H a
  there : ∀ a, Nn H' a → Nn H a
theorem Ext.refl {F : Fx} {R : Reg} {H : Hp} : Ext F R H R H := ⟨fun _ h => h, fun _ _ _ h _ => h, fun _ h => .inl h, fun _ h => h⟩
theorem Ext.trans {F : Fx} {R R1 R2 : Reg} {H H1 H2 : Hp} (a : Ext F R H R1 H1) (b : Ext F R1 H1 R2 H2) : Ext F R H R2 H2 :=
  ⟨fun x h => b.reg x (a.reg x h), fun x o m h n => b.keep x o m (a.keep x o m h n) n, fun x h => (b.new x h).elim (a.new x) fun z => .inr (a.there x z), fun x h => a.there x (b.there x h)⟩

/-! ### what a value stands for -/
mutual
inductive RpD (F : Fx) (H : Hp) (R : Reg) : Bool → V → D → Prop
  | non {n : Bool} : RpD F H R n .non .non
  | bl {n : Bool} (b : Bool) : RpD F H R n (.bl b) (.bl b)
  | int {n : Bool} (i : Int) : RpD F H R n (.int i) (.int i)
  | str {n : Bool} (x : Str) : RpD F H R n (.str x) (.str x)
  | lst {n : Bool} {a : Addr} {vs : List V} {ds : List D} : H a = some (.lst vs) → R a → (n = true → Nn F.H0 a) → RpL F H R n vs ds → RpD F H R n (.ref a) (.lst ds)
  | tup {n : Bool} {a : Addr} {vs : List V} {ds : List D} : SqT F.K H a vs → RpL F H R n vs ds → RpD F H R n (.ref a) (.tup ds)
  | dK {n : Bool} {a : Addr} {kvs : List (Key × V)} {ds : List (D × D)} : H a = some (.dK kvs) → R a → (n = true → Nn F.H0 a) → RpK F H R n kvs ds → RpD F H R n (.ref a) (.dct ds)
  | dT {n : Bool} {a : Addr} {kvs : List (List Key × V)} {ds : List (D × D)} : H a = some (.dT kvs) → R a → (n = true → Nn F.H0 a) → RpT F H R n kvs ds → RpD F H R n (.ref a) (.dct ds)
  | strm {n : Bool} {p : Addr × Addr} : F.st = some p → RpD F H R n (.ref p.1) .strm
  | vee {n : Bool} (v : V) : RpD F H R n v (.vee v)
inductive RpL (F : Fx) (H : Hp) (R : Reg) : Bool → List V → List D → Prop
  | nil {n : Bool} : RpL F H R n [] []
  | cons {n : Bool} {v : V} {vs : List V} {d : D} {ds : List D} : RpD F H R n v d → RpL F H R n vs ds → RpL F H R n (v :: vs) (d :: ds)
inductive RpK (F : Fx) (H : Hp) (R : Reg) : Bool → List (Key × V) → List (D × D) → Prop
  | nil {n : Bool} : RpK F H R n [] []
  | consI {n : Bool} {i : Int} {v : V} {vs : List (Key × V)} {d : D} {ds : List (D × D)} : RpD F H R n v d → RpK F H R n vs ds → RpK F H R n ((.inl i, v) :: vs) ((.int i, d) :: ds)
  | consS {n : Bool} {x : Str} {v : V} {vs : List (Key × V)} {d : D} {ds : List (D × D)} : RpD F H R n v d → RpK F H R n vs ds → RpK F H R n ((.inr x, v) :: vs) ((.str x, d) :: ds)
inductive RpT (F : Fx) (H : Hp) (R : Reg) : Bool → List (List Key × V) → List (D × D) → Prop
  | nil {n : Bool} : RpT F H R n [] []
  | cons {n : Bool} {k : List Key} {v : V} {vs : List (List Key × V)} {ks : List D} {d : D} {ds : List (D × D)} : RpL F H R true (k.map kV) ks → RpD F H R n v d → RpT F H R n vs ds → RpT F H R n ((k, v) :: vs) ((.tup ks, d) :: ds)
end

/-- a value: its data, whether all lists and dicts in it are new since the entry, the concrete value where it is known -/
structure Dv where
  d : D
  n : Bool := true
  v : Option V := none
def Rp (F : Fx) (H : Hp) (R : Reg) (x : Dv) (v : V) : Prop := RpD F H R x.n v x.d ∧ ∀ u, x.v = some u → u = v

/-- what a change of heap, of frozen places, of the entry must keep for a value's data -/
structure Mv (F : Fx) (R : Reg) (H : Hp) (F' : Fx) (R' : Reg) (H' : Hp) (n n' : Bool) : Prop where
  K : F'.K = F.K
  st : ∀ p, F.st = some p → F'.st = some p
  reg : ∀ a o, R a → H a = some o → NoTbl o → R' a ∧ H' a = some o
  tup : ∀ a vs, SqT F.K H a vs → SqT F.K H' a vs
  new : n' = true → n = true ∧ ∀ a o, R a → H a = some o → Nn F.H0 a → Nn F'.H0 a

mutual
theorem RpD.mv {F F' : Fx} {R R' : Reg} {H H' : Hp} : ∀ {n n' : Bool} {d : D} {v : V}, Mv F R H F' R' H' n n' → RpD F H R n v d → RpD F' H' R' n' v d
  | _, _, _, _, _, .non => .non
  | _, _, _, _, _, .bl b => .bl b
  | _, _, _, _, _, .int i => .int i
  | _, _, _, _, _, .str x => .str x
  | _, _, _, _, m, .lst h r w t => .lst (m.reg _ _ r h .lst).2 (m.reg _ _ r h .lst).1 (fun z => (m.new z).2 _ _ r h (w (m.new z).1)) (RpL.mv m t)
  | _, _, _, _, m, .tup h t => .tup (by rw [m.K]; exact m.tup _ _ h) (RpL.mv m t)
  | _, _, _, _, m, .dK h r w t => .dK (m.reg _ _ r h .dK).2 (m.reg _ _ r h .dK).1 (fun z => (m.new z).2 _ _ r h (w (m.new z).1)) (RpK.mv m t)
  | _, _, _, _, m, .dT h r w t => .dT (m.reg _ _ r h .dT).2 (m.reg _ _ r h .dT).1 (fun z => (m.new z).2 _ _ r h (w (m.new z).1)) (RpT.mv m t)
  | _, _, _, _, m, .strm e => .strm (m.st _ e)
  | _, _, _, _, _, .vee v => .vee v
theorem RpL.mv {F F' : Fx} {R R' : Reg} {H H' : Hp} : ∀ {n n' : Bool} {ds : List D} {vs : List V}, Mv F R H F' R' H' n n' → RpL F H R n vs ds → RpL F' H' R' n' vs ds
  | _, _, _, _, _, .nil => .nil
  | _, _, _, _, m, .cons a b => .cons (RpD.mv m a) (RpL.mv m b)
theorem RpK.mv {F F' : Fx} {R R' : Reg} {H H' : Hp} : ∀ {n n' : Bool} {ds : List (D × D)} {vs : List (Key × V)}, Mv F R H F' R' H' n n' → RpK F H R n vs ds → RpK F' H' R' n' vs ds
  | _, _, _, _, _, .nil => .nil
  | _, _, _, _, m, .consI a b => .consI (RpD.mv m a) (RpK.mv m b)
  | _, _, _, _, m, .consS a b => .consS (RpD.mv m a) (RpK.mv m b)
theorem RpT.mv {F F' : Fx} {R R' : Reg} {H H' : Hp} : ∀ {n n' : Bool} {ds : List (D × D)} {vs : List (List Key × V)}, Mv F R H F' R' H' n n' → RpT F H R n vs ds → RpT F' H' R' n' vs ds
  | _, _, _, _, _, .nil => .nil
  | _, _, _, _, m, .cons k a b => .cons (RpL.mv0 m k) (RpD.mv m a) (RpT.mv m b)
/-- keys: flat -/
theorem RpL.mv0 {F F' : Fx} {R R' : Reg} {H H' : Hp} : ∀ {n n' : Bool} {k : List Key} {ks : List D}, Mv F R H F' R' H' n n' → RpL F H R true (k.map kV) ks → RpL F' H' R' true (k.map kV) ks
  | _, _, [], _, _, .nil => .nil
  | _, _, .inl i :: k, _, m, .cons a b => by
    refine .cons ?_ (RpL.mv0 m b)
    cases a with
    | int => exact .int i
    | vee => exact .vee _
  | _, _, .inr x :: k, _, m, .cons a b => by
    refine .cons ?_ (RpL.mv0 m b)
    cases a with
    | str => exact .str x
    | vee => exact .vee _
end

theorem sqT_keep {F : Fx} {B : Nat} {H H' : Hp} (I : F.inv B H) (k : ∀ a o, ¬ F.mx a → H a = some o → NoTbl o → H' a = some o) {a : Addr} {vs : List V} (h : SqT F.K H a vs) : SqT F.K H' a vs := by
  have nm : ∀ o, H a = some o → (∀ xs, o ≠ .lst xs) → ¬ F.mx a := fun o e n m => by
    obtain ⟨xs, z⟩ := mx_lst I m
    rw [e] at z
    exact n xs (Option.some.inj z)
  rcases h with (h | ⟨o, h⟩) | h
  · exact .inl (.inl (k a _ (nm _ h fun _ z => nomatch z) h .tup))
  · exact .inl (.inr ⟨o, k a _ (nm _ h fun _ z => nomatch z) h .frz⟩)
  · exact .inr h

theorem Ext.mv {F : Fx} {B : Nat} {R R' : Reg} {H H' : Hp} (I : HpOk F B R H) (e : Ext F R H R' H') {n n' : Bool} (h : n' = true → n = true) : Mv F R H F R' H' n n' :=
  ⟨rfl, fun _ z => z, fun a o r ha nt => ⟨e.reg a r, e.keep a o (I.good a r).1 ha nt⟩, fun _ _ h => sqT_keep I.inv e.keep h, fun z => ⟨h z, fun _ _ _ _ q => q⟩⟩
theorem RpD.ext {F : Fx} {B : Nat} {R R' : Reg} {H H' : Hp} {n : Bool} {v : V} {d : D} (h : RpD F H R n v d) (I : HpOk F B R H) (e : Ext F R H R' H') : RpD F H' R' n v d := h.mv (e.mv I fun z => z)
theorem RpL.ext {F : Fx} {B : Nat} {R R' : Reg} {H H' : Hp} {n : Bool} {v : List V} {d : List D} (h : RpL F H R n v d) (I : HpOk F B R H) (e : Ext F R H R' H') : RpL F H' R' n v d := h.mv (e.mv I fun z => z)
theorem Rp.ext {F : Fx} {B : Nat} {R R' : Reg} {H H' : Hp} {x : Dv} {v : V} (h : Rp F H R x v) (I : HpOk F B R H) (e : Ext F R H R' H') : Rp F H' R' x v := ⟨h.1.ext I e, h.2⟩
theorem mv_weak {F : Fx} {R : Reg} {H : Hp} {n n' : Bool} (h : n' = true → n = true) : Mv F R H F R H n n' := ⟨rfl, fun _ z => z, fun _ _ r h _ => ⟨r, h⟩, fun _ _ h => h, fun z => ⟨h z, fun _ _ _ _ q => q⟩⟩
theorem RpD.weak {F : Fx} {R : Reg} {H : Hp} {n n' : Bool} {v : V} {d : D} (h : RpD F H R n v d) (w : n' = true → n = true) : RpD F H R n' v d := h.mv (mv_weak w)
theorem RpL.weak {F : Fx} {R : Reg} {H : Hp} {n n' : Bool} {v : List V} {d : List D} (h : RpL F H R n v d) (w : n' = true → n = true) : RpL F H R n' v d := h.mv (mv_weak w)

theorem RpL.len {F : Fx} {R : Reg} {H : Hp} : ∀ {n : Bool} {vs : List V} {ds : List D}, RpL F H R n vs ds → vs.length = ds.length
  | _, _, _, .nil => rfl
  | _, _, _, .cons _ b => by rw [List.length_cons, List.length_cons, b.len]
theorem RpL.get {F : Fx} {R : Reg} {H : Hp} : ∀ {n : Bool} {vs : List V} {ds : List D} {i : Nat} {d : D}, RpL F H R n vs ds → ds[i]? = some d → ∃ v, vs[i]? = some v ∧ RpD F H R n v d
  | _, _, _, _, _, .nil, e => by simp at e
  | _, _, _, 0, _, .cons a _, e => by simp at e; subst e; exact ⟨_, rfl, a⟩
  | _, _, _, i + 1, _, .cons _ b, e => by
    obtain ⟨v, h1, h2⟩ := RpL.get (i := i) b (by simpa using e)
    exact ⟨v, by simpa using h1, h2⟩
theorem RpL.get' {F : Fx} {R : Reg} {H : Hp} : ∀ {n : Bool} {vs : List V} {ds : List D} {i : Nat} {v : V}, RpL F H R n vs ds → vs[i]? = some v → ∃ d, ds[i]? = some d ∧ RpD F H R n v d
  | _, _, _, _, _, .nil, e => by simp at e
  | _, _, _, 0, _, .cons a _, e => by simp at e; subst e; exact ⟨_, rfl, a⟩
  | _, _, _, i + 1, _, .cons _ b, e => by
    obtain ⟨v, h1, h2⟩ := RpL.get' (i := i) b (by simpa using e)
    exact ⟨v, by simpa using h1, h2⟩
theorem RpL.app {F : Fx} {R : Reg} {H : Hp} : ∀ {n : Bool} {vs us : List V} {ds es : List D}, RpL F H R n vs ds → RpL F H R n us es → RpL F H R n (vs ++ us) (ds ++ es)
  | _, _, _, _, _, .nil, b => b
  | _, _, _, _, _, .cons a t, b => .cons a (t.app b)
theorem RpL.take {F : Fx} {R : Reg} {H : Hp} : ∀ {n : Bool} {vs : List V} {ds : List D} (k : Nat), RpL F H R n vs ds → RpL F H R n (vs.take k) (ds.take k)
  | _, _, _, 0, _ => .nil
  | _, _, _, k + 1, .nil => .nil
  | _, _, _, k + 1, .cons a t => .cons a (RpL.take k t)
theorem RpL.drop {F : Fx} {R : Reg} {H : Hp} : ∀ {n : Bool} {vs : List V} {ds : List D} (k : Nat), RpL F H R n vs ds → RpL F H R n (vs.drop k) (ds.drop k)
  | _, _, _, 0, h => h
  | _, _, _, k + 1, .nil => .nil
  | _, _, _, k + 1, .cons a t => RpL.drop k t
theorem RpL.set {F : Fx} {R : Reg} {H : Hp} {v : V} {d : D} : ∀ {n : Bool} {vs : List V} {ds : List D} (k : Nat), RpD F H R n v d → RpL F H R n vs ds → RpL F H R n (vs.set k v) (ds.set k d)
  | _, _, _, _, _, .nil => .nil
  | _, _, _, 0, a, .cons _ t => .cons a t
  | _, _, _, k + 1, a, .cons b t => .cons b (RpL.set k a t)
theorem RpL.rev {F : Fx} {R : Reg} {H : Hp} {n : Bool} {vs : List V} {ds : List D} (h : RpL F H R n vs ds) : RpL F H R n vs.reverse ds.reverse := by
  induction vs generalizing ds with
  | nil => cases h; exact .nil
  | cons v vs ih =>
    cases h with
    | cons a t => rw [List.reverse_cons, List.reverse_cons]; exact (ih t).app (.cons a .nil)

/-! ### data that holds no list, no dict -/
mutual
def D.imm : D → Bool
  | .lst _ => false
  | .dct _ => false
  | .vee _ => false
  | .tup ds => D.immL ds
  | _ => true
def D.immL : List D → Bool
  | [] => true
  | d :: ds => D.imm d && D.immL ds
end
mutual
theorem RpD.imm {F : Fx} {R : Reg} {H : Hp} : ∀ {n : Bool} {v : V} {d : D}, RpD F H R n v d → D.imm d = true → RpD F H R true v d
  | _, _, _, .non, _ => .non
  | _, _, _, .bl b, _ => .bl b
  | _, _, _, .int i, _ => .int i
  | _, _, _, .str x, _ => .str x
  | _, _, _, .tup h t, e => .tup h (RpL.imm t (by simpa [D.imm] using e))
  | _, _, _, .strm h, _ => .strm h
theorem RpL.imm {F : Fx} {R : Reg} {H : Hp} : ∀ {n : Bool} {v : List V} {d : List D}, RpL F H R n v d → D.immL d = true → RpL F H R true v d
  | _, _, _, .nil, _ => .nil
  | _, _, _, .cons a b, e => by
    simp only [D.immL, Bool.and_eq_true] at e
    exact .cons (a.imm e.1) (b.imm e.2)
end
/-- new, or holds nothing that changes -/
def Dv.fr (x : Dv) : Bool := x.n || x.d.imm
theorem Rp.fr {F : Fx} {R : Reg} {H : Hp} {x : Dv} {v : V} (h : Rp F H R x v) : RpD F H R x.fr v x.d := by
  cases e : x.n with
  | true => have := h.1; rw [e] at this; exact this.weak fun _ => rfl
  | false =>
    unfold Dv.fr
    rw [e, Bool.false_or]
    cases e2 : x.d.imm with
    | true => exact h.1.imm e2
    | false => exact h.1.weak fun z => nomatch z
/-- scalars -/
def D.sca : D → Bool
  | .non => true
  | .bl _ => true
  | .int _ => true
  | .str _ => true
  | _ => false
theorem RpD.sca {F F' : Fx} {R R' : Reg} {H H' : Hp} {n n' : Bool} {v : V} {d : D} (h : RpD F H R n v d) (s : d.sca = true) : RpD F' H' R' n' v d := by
  cases h with
  | non => exact .non
  | bl b => exact .bl b
  | int i => exact .int i
  | str x => exact .str x
  | _ => cases s
end DL

set_option Elab.async false
set_option linter.all false
set_option maxRecDepth 100000
set_option maxHeartbeats 4000000
/-! DL, part b: the judgements; names, constants, operators, displays. -/
namespace DL
open PySem PySem.Spec PyProof.Rows L2

abbrev XQT := Value → Str → V → Prop
inductive Sl where
  | un | va (x : Dv) | ow (d : D) (n : Bool)
abbrev Ro := List Sl
abbrev TD := Ro → XQT → (Dv → Prop) → Prop
abbrev TDs := Ro → XQT → (List Dv → Prop) → Prop
abbrev TDt := Ro → XQT → (Bool → Prop) → Prop

theorem RpK.ext {F : Fx} {B : Nat} {R R' : Reg} {H H' : Hp} {n : Bool} {v : List (Key × V)} {d : List (D × D)} (h : RpK F H R n v d) (I : HpOk F B R H) (e : Ext F R H R' H') : RpK F H' R' n v d := h.mv (e.mv I fun z => z)
theorem RpT.ext {F : Fx} {B : Nat} {R R' : Reg} {H H' : Hp} {n : Bool} {v : List (List Key × V)} {d : List (D × D)} (h : RpT F H R n v d) (I : HpOk F B R H) (e : Ext F R H R' H') : RpT F H' R' n v d := h.mv (e.mv I fun z => z)

/-- an own list or dict: nobody else knows it -/
def OwAt (F : Fx) (H : Hp) (R : Reg) (a : Addr) (n : Bool) : D → Prop
  | .lst ds => ∃ vs, H a = some (.lst vs) ∧ RpL F H R n vs ds
  | .dct ds => (∃ kvs, H a = some (.dK kvs) ∧ RpK F H R n kvs ds) ∨ ∃ kvs, H a = some (.dT kvs) ∧ RpT F H R n kvs ds
  | _ => False
structure Own (F : Fx) (H : Hp) (R : Reg) (a : Addr) (d : D) (n : Bool) : Prop where
  nr : ¬ R a
  nm : ¬ F.mx a
  n0 : Nn F.H0 a
  at_ : OwAt F H R a n d
theorem Own.some {F : Fx} {H : Hp} {R : Reg} {a : Addr} {d : D} {n : Bool} (h : Own F H R a d n) : ∃ o, H a = some o ∧ NoTbl o := by
  have z := h.at_
  cases d with
  | lst ds => obtain ⟨vs, e, _⟩ := z; exact ⟨_, e, .lst⟩
  | dct ds =>
    rcases z with ⟨_, e, _⟩ | ⟨_, e, _⟩
    · exact ⟨_, e, .dK⟩
    · exact ⟨_, e, .dT⟩
  | _ => exact z.elim
theorem Own.ext {F : Fx} {B : Nat} {R R' : Reg} {H H' : Hp} {a : Addr} {d : D} {n : Bool} (h : Own F H R a d n) (I : HpOk F B R H) (e : Ext F R H R' H') : Own F H' R' a d n := by
  obtain ⟨o, ho, nt⟩ := h.some
  refine ⟨fun z => ?_, h.nm, h.n0, ?_⟩
  · rcases e.new a z with z | z
    · exact h.nr z
    · exact z o ho nt
  · have z := h.at_
    cases d with
    | lst ds => obtain ⟨vs, q, r⟩ := z; exact ⟨vs, e.keep _ _ h.nm q .lst, r.ext I e⟩
    | dct ds =>
      rcases z with ⟨kvs, q, r⟩ | ⟨kvs, q, r⟩
      · exact .inl ⟨kvs, e.keep _ _ h.nm q .dK, r.ext I e⟩
      · exact .inr ⟨kvs, e.keep _ _ h.nm q .dT, r.ext I e⟩
    | _ => exact z.elim

structure StOk (F : Fx) (B : Nat) (R : Reg) (H : Hp) (σ : L2.St) (ρ : Ro) (α : Nat → Addr) : Prop where
  hp : HpOk F B R H
  len : σ.length = ρ.length
  va : ∀ (i : Nat) x, ρ[i]? = some (.va x) → ∃ v, σ[i]? = some (some v) ∧ Rp F H R x v
  ow : ∀ (i : Nat) d n, ρ[i]? = some (.ow d n) → σ[i]? = some (some (.ref (α i))) ∧ Own F H R (α i) d n
  dis : ∀ (i j : Nat) d n d' n', ρ[i]? = some (.ow d n) → ρ[j]? = some (.ow d' n') → α i = α j → i = j
theorem StOk.ext {F : Fx} {B B' : Nat} {R R' : Reg} {H H' : Hp} {σ : L2.St} {ρ : Ro} {α : Nat → Addr} (S : StOk F B R H σ ρ α) (e : Ext F R H R' H') (o : HpOk F B' R' H') : StOk F B' R' H' σ ρ α :=
  ⟨o, S.len, fun i x h => let ⟨v, a, b⟩ := S.va i x h; ⟨v, a, b.ext S.hp e⟩, fun i d n h => let ⟨a, b⟩ := S.ow i d n h; ⟨a, b.ext S.hp e⟩, S.dis⟩
theorem HpOk.mono {F : Fx} {B B' : Nat} {R : Reg} {H : Hp} (h : HpOk F B R H) (l : B ≤ B') : HpOk F B' R H := ⟨h.inv.mono l, h.good, h.ent, h.ent2, h.reg0, h.tab, h.lim⟩
theorem StOk.mono {F : Fx} {B B' : Nat} {R : Reg} {H : Hp} {σ : L2.St} {ρ : Ro} {α : Nat → Addr} (S : StOk F B R H σ ρ α) (l : B ≤ B') : StOk F B' R H σ ρ α := ⟨S.hp.mono l, S.len, S.va, S.ow, S.dis⟩

/-! ### a new object -/
def Reg.add (R : Reg) (p : Addr) : Reg := fun a => R a ∨ a = p
theorem mx_none {F : Fx} {B : Nat} {H : Hp} (I : F.inv B H) {p : Addr} (h : H p = none) : ¬ F.mx p := fun m => by
  obtain ⟨xs, z⟩ := mx_lst I m
  rw [h] at z; cases z
theorem inv_upd {F : Fx} {B : Nat} {H : Hp} {p : Addr} {o : HO} (I : F.inv B H) (h : ¬ F.mx p) : F.inv B (upd H p o) := fun q e => by
  obtain ⟨a, xs, c, n, s, h1, h2, r⟩ := I q e
  have n1 : q.1 ≠ p := fun z => h ⟨q, e, .inl z.symm⟩
  have n2 : q.2 ≠ p := fun z => h ⟨q, e, .inr z.symm⟩
  exact ⟨a, xs, c, n, s, by rw [upd_ne n1]; exact h1, by rw [upd_ne n2]; exact h2, r⟩
theorem nn_upd {H : Hp} {p a : Addr} {o : HO} (h : Nn H p) (e : Nn (upd H p o) a) : Nn H a := by
  by_cases z : a = p
  · rw [z]; exact h
  · exact fun u q => e u (by rw [upd_ne z]; exact q)
theorem ne_of_nn {H : Hp} {a b : Addr} {o : HO} (e : H b = some o) (t : NoTbl o) (n : Nn H a) : b ≠ a := fun z => n o (z ▸ e) t
theorem tab_new {T : List (Addr × Str)} {H : Hp} {p : Addr} {o : HO} (t : LamX.Tabs T H) (h : H p = none) : LamX.Tabs T (upd H p o) := t.ext fun b u e => by rw [upd_ne (ne_of_none e h)]; exact e
/-- neither a table nor a code object -/
def Plain (u : HO) : Prop := (∀ ps, u ≠ .tbl ps) ∧ ∀ f, u ≠ .ext f
theorem Plain.lst {xs : List V} : Plain (.lst xs) := ⟨fun _ z => (nomatch z), fun _ z => (nomatch z)⟩
theorem Plain.dK {xs : List (Key × V)} : Plain (.dK xs) := ⟨fun _ z => (nomatch z), fun _ z => (nomatch z)⟩
theorem Plain.dT {xs : List (List Key × V)} : Plain (.dT xs) := ⟨fun _ z => (nomatch z), fun _ z => (nomatch z)⟩
theorem tab_keep {T : List (Addr × Str)} {H H' : Hp} (t : LamX.Tabs T H) (k : ∀ b o, ¬ Plain o → H b = some o → H' b = some o) : LamX.Tabs T H' := fun p hp => by
  obtain ⟨ps, h1, h2, h3⟩ := t p hp
  refine ⟨ps, k _ _ (fun z => z.1 ps rfl) h1, h2, fun pos cv hc => ?_⟩
  obtain ⟨c, e1, e2⟩ := h3 pos cv hc
  exact ⟨c, e1, k _ _ (fun z => z.2 _ rfl) e2⟩
theorem tab_put {T : List (Addr × Str)} {H : Hp} {a : Addr} {o u : HO} (t : LamX.Tabs T H) (h : H a = some u) (p : Plain u) : LamX.Tabs T (upd H a o) := tab_keep t fun b w n e => by
  rw [upd_ne (fun z => by subst z; rw [h] at e; cases e; exact n p)]
  exact e
section
variable {F : Fx} {B : Nat} {R : Reg} {H : Hp} {p : Addr} {o : HO}
theorem Rp.of {n : Bool} {v : V} {d : D} (h : RpD F H R n v d) : Rp F H R ⟨d, n, none⟩ v := ⟨h, fun _ z => by cases z⟩
theorem HpOk.new0 (I : HpOk F B R H) (h : H p = none) (nt : NoTbl o) : HpOk F B R (upd H p o) :=
  ⟨inv_upd I.inv (mx_none I.inv h), fun a r => let ⟨m, u, e, t⟩ := I.good a r; ⟨m, u, by rw [upd_ne (ne_of_none e h)]; exact e, t⟩, fun a u m e t => by
    have q := I.ent a u m e t
    rw [upd_ne (ne_of_none q h)]; exact q, fun a e => I.ent2 a (nn_upd (.of h) e), I.reg0, tab_new I.tab h, I.lim⟩
theorem HpOk.new (I : HpOk F B R H) (h : H p = none) (nt : NoTbl o) : HpOk F B (R.add p) (upd H p o) := by
  have J := I.new0 h nt
  refine ⟨J.inv, fun a r => ?_, J.ent, J.ent2, fun a r => r.elim (I.reg0 a) fun z => .inr (by rw [z]; exact I.ent2 p (.of h)), J.tab, J.lim⟩
  rcases r with r | r
  · exact J.good a r
  · subst r; exact ⟨mx_none I.inv h, o, upd_same, nt⟩
theorem Ext.new0 (h : H p = none) : Ext F R H R (upd H p o) :=
  ⟨fun _ r => r, fun a u _ e _ => by rw [upd_ne (ne_of_none e h)]; exact e, fun _ r => .inl r, fun a e => nn_upd (.of h) e⟩
theorem Ext.new1 (h : H p = none) : Ext F R H (R.add p) (upd H p o) :=
  ⟨fun _ r => .inl r, (Ext.new0 (F := F) (R := R) h).keep, fun a r => r.elim .inl fun z => .inr (by rw [z]; exact .of h), (Ext.new0 (F := F) (R := R) h).there⟩
theorem Ext.frz {F : Fx} {R : Reg} {H : Hp} {p : Addr} (h : H p = none) {H' : Hp} (e : Ext F R H R H') : Ext F R H (R.add p) H' :=
  ⟨fun _ r => .inl r, e.keep, fun a r => r.elim .inl fun z => .inr (by rw [z]; exact .of h), e.there⟩
end

/-! ### exceptions -/
/-- a list that the written part holds, or that is never changed -/
def SqF (K : PySem.W.Frag) (H : Hp) (a : Addr) (xs : List V) : Prop := (∃ o, H a = some (.frz o (.lst xs))) ∨
  ∃ (o : Obj) (its : Array Value) (n : Nat), K.lookup a = some o ∧ o.cls = .type "list" ∧ o.dict = none ∧ o.data = .seq its n ∧ its.size ≤ sizeLine ∧ Vals xs its.toList
theorem SqF.sql {K : PySem.W.Frag} {H : Hp} {a : Addr} {xs : List V} (h : SqF K H a xs) : SqL K H a xs := h.elim (fun h => .inl (.inr h)) .inr
theorem SqF.keep {K : PySem.W.Frag} {H H' : Hp} {a : Addr} {xs : List V} (h : SqF K H a xs) (k : ∀ o u, H a = some (.frz o u) → H' a = some (.frz o u)) : SqF K H' a xs := h.elim (fun ⟨o, z⟩ => .inl ⟨o, k _ _ z⟩) .inr
/-- what may be asked of no class: no stream is drawn from; the script -/
def XLk (F : Fx) (x : Str) (v : V) : Prop := (x = "" → F.st = none) ∧ (x = "script" → F.st = none ∧ ∃ (a : Addr) (ns : List Int), v = .ref a ∧ SqF F.K F.H0 a (ns.map V.int) ∧ ns.length ≤ 63)
/-- what is raised: its class, its one field, the field's value; all is kept till then -/
def XLink (F : Fx) (E : XK) (XQ : XQT) : Prop := (∀ x v, XQ .none x v → XLk F x v) ∧ ∀ C f v dx H', XQ (.ref C) f v → (∀ a o, ¬ F.mx a → F.H0 a = some o → NoTbl o → H' a = some o) → (∀ a, Nn H' a → Nn F.H0 a) → F.inv F.L H' → LamX.Tabs F.T H' → H' dx = some (.xd [(f, v)]) → E (.ref C) (some dx) H'

/-! ### the judgements -/
def DE (X : Cx) (E : XK) (c : Nat) (e : Expr) (f : TD) : Prop := ∃ t : TE, PE X e t ∧ ∀ F B R H σ ρ α XQ Q (K : VK), F.K = X.K → XLink F E XQ → B + c ≤ F.L → StOk F B R H σ ρ α → f ρ XQ Q →
  (∀ v x R' H', Ext F R H R' H' → HpOk F (B + c) R' H' → Rp F H' R' x v → Q x → K v H') → t σ H K
def DA (X : Cx) (E : XK) (c : Nat) (es : List Expr) (f : TDs) : Prop := ∃ t : TA, PA X es t ∧ ∀ F B R H σ ρ α XQ Q (K : List V → Hp → Prop), F.K = X.K → XLink F E XQ → B + c ≤ F.L → StOk F B R H σ ρ α → f ρ XQ Q →
  (∀ vs xs R' H', Ext F R H R' H' → HpOk F (B + c) R' H' → Paired (fun x v => Rp F H' R' x v) xs vs → Q xs → K vs H') → t σ H K
def DT (X : Cx) (E : XK) (c : Nat) (e : Expr) (f : TDt) : Prop := ∃ t : TT, PT X e t ∧ ∀ F B R H σ ρ α XQ Q (K : Bool → Hp → Prop), F.K = X.K → XLink F E XQ → B + c ≤ F.L → StOk F B R H σ ρ α → f ρ XQ Q →
  (∀ b R' H', Ext F R H R' H' → HpOk F (B + c) R' H' → Q b → K b H') → t σ H K
def DW (X : Cx) (E : XK) (c : Nat) (e : Expr) (f : TDt) : Prop := ∃ t : TT, PW X e t ∧ ∀ F B R H σ ρ α XQ Q (K : Bool → Hp → Prop), F.K = X.K → XLink F E XQ → B + c ≤ F.L → StOk F B R H σ ρ α → f ρ XQ Q →
  (∀ b R' H', Ext F R H R' H' → HpOk F (B + c) R' H' → Q b → K b H') → t σ H K
/-- an expression that makes a list or a dict that nobody else knows -/
def DN (X : Cx) (E : XK) (c : Nat) (e : Expr) (f : TD) : Prop := ∃ t : TE, PE X e t ∧ ∀ F B R H σ ρ α XQ Q (K : VK), F.K = X.K → XLink F E XQ → B + c ≤ F.L → StOk F B R H σ ρ α → f ρ XQ Q →
  (∀ a d n R' H', Ext F R H R' H' → HpOk F (B + c) R' H' → Own F H' R' a d n → Nn H a → Q ⟨d, n, none⟩ → K (.ref a) H') → t σ H K

theorem Ow.rp {F : Fx} {R : Reg} {H : Hp} {a : Addr} {d : D} {n : Bool} (h : Own F H R a d n) : RpD F H (R.add a) n (.ref a) d := by
  have z := h.at_
  have m : Mv F R H F (R.add a) H n n := ⟨rfl, fun _ z => z, fun _ _ r h _ => ⟨.inl r, h⟩, fun _ _ h => h, fun z => ⟨z, fun _ _ _ _ q => q⟩⟩
  cases d with
  | lst ds => obtain ⟨vs, q, r⟩ := z; exact .lst q (.inr rfl) (fun _ => h.n0) (r.mv m)
  | dct ds =>
    rcases z with ⟨kvs, q, r⟩ | ⟨kvs, q, r⟩
    · exact .dK q (.inr rfl) (fun _ => h.n0) (r.mv m)
    · exact .dT q (.inr rfl) (fun _ => h.n0) (r.mv m)
  | _ => exact z.elim
theorem HpOk.frz {F : Fx} {B : Nat} {R : Reg} {H : Hp} {a : Addr} {d : D} {n : Bool} (I : HpOk F B R H) (h : Own F H R a d n) : HpOk F B (R.add a) H :=
  ⟨I.inv, fun b r => r.elim (I.good b) fun z => by subst z; exact ⟨h.nm, h.some⟩, I.ent, I.ent2, fun b r => r.elim (I.reg0 b) fun z => .inr (by rw [z]; exact h.n0), I.tab, I.lim⟩
/-- a new one is a value like others -/
theorem DN.de {X : Cx} {E : XK} {c : Nat} {e : Expr} {f : TD} (h : DN X E c e f) : DE X E c e f := by
  obtain ⟨t, p, s⟩ := h
  refine ⟨t, p, fun F B R H σ ρ α XQ Q K hK hX hB S hf k => s F B R H σ ρ α XQ Q K hK hX hB S hf fun a d n R' H' e' o' w hn q => ?_⟩
  refine k _ _ (R'.add a) H' ⟨fun x r => .inl (e'.reg x r), e'.keep, fun x r => r.elim (e'.new x) fun z => .inr (by rw [z]; exact hn), e'.there⟩ (o'.frz w) (.of (Ow.rp w)) q

section
variable {X : Cx} {E : XK} {c ca cb cc : Nat} {a b : Expr} {fa fb : TD} {pos : Pos}

/-- a slot's value -/
def getV : Option Sl → (Dv → Prop) → Prop
  | some (.va x), Q => Q x
  | _, _ => False
theorem getV_some {o : Option Sl} {Q : Dv → Prop} (h : getV o Q) : ∃ x, o = some (.va x) ∧ Q x := by
  match o, h with
  | some (.va x), h => exact ⟨x, rfl, h⟩
theorem de_var {i : Nat} {x : Str} (h : PE X (.Name x pos) (tVar i)) : DE X E 0 (.Name x pos) (fun ρ _ Q => getV ρ[i]? Q) :=
  ⟨_, h, fun F B R H σ ρ α XQ Q K _ _ _ S q k => by
    obtain ⟨x, e, q⟩ := getV_some q
    obtain ⟨v, e2, r⟩ := S.va i x e
    exact ⟨v, e2, k v x R H .refl S.hp r q⟩⟩
theorem de_c {e : Expr} {v : V} {d : D} (h : PE X e (tC v)) (r : ∀ F H R n, RpD F H R n v d) : DE X E 0 e (fun _ _ Q => Q ⟨d, true, some v⟩) :=
  ⟨_, h, fun F B R H σ ρ α XQ Q K _ _ _ S q k => k v _ R H .refl S.hp ⟨r F H R true, fun u z => (Option.some.inj z).symm⟩ q⟩
theorem de_int {i : Int} {j : Nat} : DE X E 0 (.Constant (.int i) j pos) (fun _ _ Q => Q ⟨.int i, true, some (.int i)⟩) := de_c pe_int fun _ _ _ _ => .int i
theorem de_str {x : Str} {j : Nat} : DE X E 0 (.Constant (.str x) j pos) (fun _ _ Q => Q ⟨.str x, true, some (.str x)⟩) := de_c pe_str fun _ _ _ _ => .str x
theorem de_bl {x : Bool} {j : Nat} : DE X E 0 (.Constant (.bool x) j pos) (fun _ _ Q => Q ⟨.bl x, true, some (.bl x)⟩) := de_c pe_bl fun _ _ _ _ => .bl x
theorem de_non {j : Nat} : DE X E 0 (.Constant .none j pos) (fun _ _ Q => Q ⟨.non, true, some .non⟩) := de_c pe_non fun _ _ _ _ => .non

/-! ### two values -/
abbrev GD2 := Dv → Dv → (Dv → Prop) → Prop
def DOp (X : Cx) (f : Value → Value → Sem Value) (g : GD2) : Prop := ∃ r : R2, OpR X f r ∧ ∀ F B R H v u x y Q (K : VK), F.K = X.K → HpOk F B R H → Rp F H R x v → Rp F H R y u → g x y Q →
  (∀ w z R' H', Ext F R H R' H' → HpOk F B R' H' → Rp F H' R' z w → Q z → K w H') → r v u H K
theorem de_two {r : R2} {t : TE → TE → TE} {e : Expr} {g : GD2} (ht : ∀ ta tb, t ta tb = tOp r ta tb) (pe : ∀ ta tb, PE X a ta → PE X b tb → PE X e (t ta tb))
    (sr : ∀ F B R H v u x y Q (K : VK), F.K = X.K → HpOk F B R H → Rp F H R x v → Rp F H R y u → g x y Q → (∀ w z R' H', Ext F R H R' H' → HpOk F B R' H' → Rp F H' R' z w → Q z → K w H') → r v u H K)
    (ha : DE X E ca a fa) (hb : DE X E cb b fb) : DE X E (ca + cb) e (fun ρ XQ Q => fa ρ XQ fun x => fb ρ XQ fun y => g x y Q) := by
  obtain ⟨ta, pa, sa⟩ := ha
  obtain ⟨tb, pb, sb⟩ := hb
  refine ⟨_, pe ta tb pa pb, fun F B R H σ ρ α XQ Q K hK hX hB S h k => ?_⟩
  rw [ht]
  refine sa F B R H σ ρ α XQ _ _ hK hX (by omega) S h fun v x R1 H1 e1 o1 r1 q1 => ?_
  refine sb F (B + ca) R1 H1 σ ρ α XQ _ _ hK hX (by omega) (S.ext e1 o1) q1 fun u y R2 H2 e2 o2 r2 q2 => ?_
  refine sr F (B + ca + cb) R2 H2 v u x y Q K hK o2 (r1.ext o1 e2) r2 q2 fun w z R3 H3 e3 o3 r3 q3 => ?_
  exact k w z R3 H3 ((e1.trans e2).trans e3) (by rw [← Nat.add_assoc]; exact o3) r3 q3
theorem de_op {op : Operator} {g : GD2} (ho : DOp X (binaryOp op) g) (ha : DE X E ca a fa) (hb : DE X E cb b fb) : DE X E (ca + cb) (.BinOp a op b pos) (fun ρ XQ Q => fa ρ XQ fun x => fb ρ XQ fun y => g x y Q) := by
  obtain ⟨r, hr, sr⟩ := ho
  exact de_two (t := fun ta tb => tOp r ta tb) (fun _ _ => rfl) (fun _ _ pa pb => pe_op hr pa pb) sr ha hb
theorem de_cmp {op : CmpOp} {g : GD2} (ho : DOp X (compareOp op) g) (ha : DE X E ca a fa) (hb : DE X E cb b fb) (hm : behindInMarks op b = false) : DE X E (ca + cb) (.Compare a [op] [b] pos) (fun ρ XQ Q => fa ρ XQ fun x => fb ρ XQ fun y => g x y Q) := by
  obtain ⟨r, hr, sr⟩ := ho
  exact de_two (t := fun ta tb => tOp r ta tb) (fun _ _ => rfl) (fun _ _ pa pb => pe_cmpR hr pa pb hm) sr ha hb
/-- as a test -/
theorem dt_cmp {op : CmpOp} {g : GD2} (ho : DOp X (compareOp op) g) (ha : DE X E ca a fa) (hb : DE X E cb b fb) (hm : behindInMarks op b = false) : DT X E (ca + cb) (.Compare a [op] [b] pos) (fun ρ XQ Q => fa ρ XQ fun x => fb ρ XQ fun y => g x y fun z => ∃ c, z.d = .bl c ∧ Q c) := by
  obtain ⟨r, hr, sr⟩ := ho
  obtain ⟨ta, pa, sa⟩ := ha
  obtain ⟨tb, pb, sb⟩ := hb
  refine ⟨_, pt_cmpR hr pa pb hm, fun F B R H σ ρ α XQ Q K hK hX hB S h k => ?_⟩
  refine sa F B R H σ ρ α XQ _ _ hK hX (by omega) S h fun v x R1 H1 e1 o1 r1 q1 => ?_
  refine sb F (B + ca) R1 H1 σ ρ α XQ _ _ hK hX (by omega) (S.ext e1 o1) q1 fun u y R2 H2 e2 o2 r2 q2 => ?_
  refine sr F (B + ca + cb) R2 H2 v u x y _ _ hK o2 (r1.ext o1 e2) r2 q2 fun w z R3 H3 e3 o3 r3 q3 => ?_
  obtain ⟨c, ec, q3⟩ := q3
  have r4 := r3.1
  rw [ec] at r4
  cases r4
  exact ⟨c, rfl, k c R3 H3 ((e1.trans e2).trans e3) (by rw [← Nat.add_assoc]; exact o3) q3⟩
/-- a value that is a truth value, as a test -/
theorem dt_val (ha : DE X E ca a fa) (he : ∀ whole, isTrue a X.env whole = (do let v ← whole; standAt a.pos; holding [v] (truthy v)) := by intro _; rfl) : DT X E ca a (fun ρ XQ Q => fa ρ XQ fun x => ∃ c, x.d = .bl c ∧ Q c) := by
  obtain ⟨ta, pa, sa⟩ := ha
  refine ⟨_, pt_val pa he, fun F B R H σ ρ α XQ Q K hK hX hB S h k => ?_⟩
  refine sa F B R H σ ρ α XQ _ _ hK hX hB S h fun v x R1 H1 e1 o1 r1 q1 => ?_
  obtain ⟨c, ec, q1⟩ := q1
  have r4 := r1.1
  rw [ec] at r4
  cases r4
  exact ⟨c, rfl, k c R1 H1 e1 o1 q1⟩

/-! ### and, or, not, if else -/
theorem dw_and1 {ta : TDt} (ha : DT X E ca a ta) : DW X E ca (.BoolOp .And [a] pos) ta := by
  obtain ⟨t, p, s⟩ := ha
  exact ⟨t, pw_and1 p, s⟩
theorem dw_or1 {ta : TDt} (ha : DT X E ca a ta) : DW X E ca (.BoolOp .Or [a] pos) ta := by
  obtain ⟨t, p, s⟩ := ha
  exact ⟨t, pw_or1 p, s⟩
theorem dw_and {ta tb : TDt} {rest : List Expr} (ha : DT X E ca a ta) (hb : DW X E cb (.BoolOp .And (b :: rest) pos) tb) : DW X E (ca + cb) (.BoolOp .And (a :: b :: rest) pos) (fun ρ XQ Q => ta ρ XQ fun k => if k = true then tb ρ XQ Q else Q false) := by
  obtain ⟨t, p, s⟩ := ha
  obtain ⟨u, p2, s2⟩ := hb
  refine ⟨_, pw_and p p2, fun F B R H σ ρ α XQ Q K hK hX hB S h k => ?_⟩
  refine s F B R H σ ρ α XQ _ _ hK hX (by omega) S h fun z R1 H1 e1 o1 q1 => ?_
  cases z with
  | true => exact s2 F (B + ca) R1 H1 σ ρ α XQ _ _ hK hX (by omega) (S.ext e1 o1) q1 fun z R2 H2 e2 o2 q2 => k z R2 H2 (e1.trans e2) (by rw [← Nat.add_assoc]; exact o2) q2
  | false => exact k false R1 H1 e1 (o1.mono (by omega)) q1
theorem dw_or {ta tb : TDt} {rest : List Expr} (ha : DT X E ca a ta) (hb : DW X E cb (.BoolOp .Or (b :: rest) pos) tb) : DW X E (ca + cb) (.BoolOp .Or (a :: b :: rest) pos) (fun ρ XQ Q => ta ρ XQ fun k => if k = true then Q true else tb ρ XQ Q) := by
  obtain ⟨t, p, s⟩ := ha
  obtain ⟨u, p2, s2⟩ := hb
  refine ⟨_, pw_or p p2, fun F B R H σ ρ α XQ Q K hK hX hB S h k => ?_⟩
  refine s F B R H σ ρ α XQ _ _ hK hX (by omega) S h fun z R1 H1 e1 o1 q1 => ?_
  cases z with
  | false => exact s2 F (B + ca) R1 H1 σ ρ α XQ _ _ hK hX (by omega) (S.ext e1 o1) q1 fun z R2 H2 e2 o2 q2 => k z R2 H2 (e1.trans e2) (by rw [← Nat.add_assoc]; exact o2) q2
  | true => exact k true R1 H1 e1 (o1.mono (by omega)) q1
theorem DW.dt {ta : TDt} (h : DW X E ca a ta) : DT X E ca a ta := by
  obtain ⟨t, p, s⟩ := h
  exact ⟨t, p.pt, s⟩
theorem dt_not {ta : TDt} (ha : DT X E ca a ta) : DT X E ca (.UnaryOp .Not a pos) (fun ρ XQ Q => ta ρ XQ fun k => Q (!k)) := by
  obtain ⟨t, p, s⟩ := ha
  exact ⟨_, pt_not p, fun F B R H σ ρ α XQ Q K hK hX hB S h k => s F B R H σ ρ α XQ _ _ hK hX hB S h fun z R1 H1 e1 o1 q1 => k (!z) R1 H1 e1 o1 q1⟩
/-- as values -/
theorem de_one {op : BoolOp} (ha : DE X E ca a fa) : DE X E ca (.BoolOp op [a] pos) fa := by
  obtain ⟨t, p, s⟩ := ha
  exact ⟨t, pe_one p, s⟩
theorem de_and {rest : List Expr} (ha : DE X E ca a fa) (hb : DE X E cb (.BoolOp .And (b :: rest) pos) fb) : DE X E (ca + cb) (.BoolOp .And (a :: b :: rest) pos) (fun ρ XQ Q => fa ρ XQ fun x => ∃ k, x.d = .bl k ∧ if k = true then fb ρ XQ Q else Q ⟨.bl false, true, none⟩) := by
  obtain ⟨t, p, s⟩ := ha
  obtain ⟨u, p2, s2⟩ := hb
  refine ⟨_, pe_and p p2, fun F B R H σ ρ α XQ Q K hK hX hB S h k => ?_⟩
  refine s F B R H σ ρ α XQ _ _ hK hX (by omega) S h fun v x R1 H1 e1 o1 r1 q1 => ?_
  obtain ⟨z, ez, q1⟩ := q1
  have r4 := r1.1
  rw [ez] at r4
  cases r4
  refine ⟨z, rfl, ?_⟩
  cases z with
  | true => exact s2 F (B + ca) R1 H1 σ ρ α XQ _ _ hK hX (by omega) (S.ext e1 o1) q1 fun v z R2 H2 e2 o2 r2 q2 => k v z R2 H2 (e1.trans e2) (by rw [← Nat.add_assoc]; exact o2) r2 q2
  | false => exact k _ _ R1 H1 e1 (o1.mono (by omega)) (.of (.bl false)) q1
theorem de_or {rest : List Expr} (ha : DE X E ca a fa) (hb : DE X E cb (.BoolOp .Or (b :: rest) pos) fb) : DE X E (ca + cb) (.BoolOp .Or (a :: b :: rest) pos) (fun ρ XQ Q => fa ρ XQ fun x => ∃ k, x.d = .bl k ∧ if k = true then Q ⟨.bl true, true, none⟩ else fb ρ XQ Q) := by
  obtain ⟨t, p, s⟩ := ha
  obtain ⟨u, p2, s2⟩ := hb
  refine ⟨_, pe_or p p2, fun F B R H σ ρ α XQ Q K hK hX hB S h k => ?_⟩
  refine s F B R H σ ρ α XQ _ _ hK hX (by omega) S h fun v x R1 H1 e1 o1 r1 q1 => ?_
  obtain ⟨z, ez, q1⟩ := q1
  have r4 := r1.1
  rw [ez] at r4
  cases r4
  refine ⟨z, rfl, ?_⟩
  cases z with
  | false => exact s2 F (B + ca) R1 H1 σ ρ α XQ _ _ hK hX (by omega) (S.ext e1 o1) q1 fun v z R2 H2 e2 o2 r2 q2 => k v z R2 H2 (e1.trans e2) (by rw [← Nat.add_assoc]; exact o2) r2 q2
  | true => exact k _ _ R1 H1 e1 (o1.mono (by omega)) (.of (.bl true)) q1
theorem de_not (ha : DE X E ca a fa) : DE X E ca (.UnaryOp .Not a pos) (fun ρ XQ Q => fa ρ XQ fun x => ∃ k, x.d = .bl k ∧ Q ⟨.bl (!k), true, none⟩) := by
  obtain ⟨t, p, s⟩ := ha
  refine ⟨_, pe_not p, fun F B R H σ ρ α XQ Q K hK hX hB S h k => ?_⟩
  refine s F B R H σ ρ α XQ _ _ hK hX hB S h fun v x R1 H1 e1 o1 r1 q1 => ?_
  obtain ⟨z, ez, q1⟩ := q1
  have r4 := r1.1
  rw [ez] at r4
  cases r4
  exact ⟨z, rfl, k _ _ R1 H1 e1 o1 (.of (.bl (!z))) q1⟩
theorem de_if {t : TDt} {e : Expr} (hc : DT X E cc e t) (ha : DE X E ca a fa) (hb : DE X E cb b fb) : DE X E (cc + (ca + cb)) (.IfExp e a b pos) (fun ρ XQ Q => t ρ XQ fun k => if k = true then fa ρ XQ Q else fb ρ XQ Q) := by
  obtain ⟨tc, pc, sc⟩ := hc
  obtain ⟨ta, pa, sa⟩ := ha
  obtain ⟨tb, pb, sb⟩ := hb
  refine ⟨_, pe_ifExp pc pa pb, fun F B R H σ ρ α XQ Q K hK hX hB S h k => ?_⟩
  refine sc F B R H σ ρ α XQ _ _ hK hX (by omega) S h fun z R1 H1 e1 o1 q1 => ?_
  cases z with
  | true => exact sa F (B + cc) R1 H1 σ ρ α XQ _ _ hK hX (by omega) (S.ext e1 o1) q1 fun v z R2 H2 e2 o2 r2 q2 => k v z R2 H2 (e1.trans e2) (o2.mono (by omega)) r2 q2
  | false => exact sb F (B + cc) R1 H1 σ ρ α XQ _ _ hK hX (by omega) (S.ext e1 o1) q1 fun v z R2 H2 e2 o2 r2 q2 => k v z R2 H2 (e1.trans e2) (o2.mono (by omega)) r2 q2

/-! ### argument lists, displays -/
theorem da_nil : DA X E 0 [] (fun _ _ Q => Q []) := ⟨_, pa_nil, fun F B R H σ ρ α XQ Q K _ _ _ S h k => k [] [] R H .refl S.hp .nil h⟩
theorem Paired.imp {α β : Type} {P P' : α → β → Prop} (h : ∀ a b, P a b → P' a b) : ∀ {xs : List α} {ys : List β}, Paired P xs ys → Paired P' xs ys
  | _, _, .nil => .nil
  | _, _, .cons a t => .cons (h _ _ a) (Paired.imp h t)
theorem da_cons {es : List Expr} {fs : TDs} (ha : DE X E ca a fa) (hr : DA X E cb es fs) (hs : starEach (a :: es) X.env = (false, eval a X.env) :: starEach es X.env := by rfl) : DA X E (ca + cb) (a :: es) (fun ρ XQ Q => fa ρ XQ fun x => fs ρ XQ fun xs => Q (x :: xs)) := by
  obtain ⟨t, p, s⟩ := ha
  obtain ⟨u, p2, s2⟩ := hr
  refine ⟨_, pa_cons p p2 hs, fun F B R H σ ρ α XQ Q K hK hX hB S h k => ?_⟩
  refine s F B R H σ ρ α XQ _ _ hK hX (by omega) S h fun v x R1 H1 e1 o1 r1 q1 => ?_
  exact s2 F (B + ca) R1 H1 σ ρ α XQ _ _ hK hX (by omega) (S.ext e1 o1) q1 fun vs xs R2 H2 e2 o2 r2 q2 => k (v :: vs) (x :: xs) R2 H2 (e1.trans e2) (by rw [← Nat.add_assoc]; exact o2) (.cons (r1.ext o1 e2) r2) q2
/-- all are new -/
def allFr : List Dv → Bool
  | [] => true
  | x :: xs => x.fr && allFr xs
theorem rpl_of {F : Fx} {H : Hp} {R : Reg} : ∀ {xs : List Dv} {vs : List V}, Paired (fun x v => Rp F H R x v) xs vs → RpL F H R (allFr xs) vs (xs.map (·.d))
  | _, _, .nil => .nil
  | _, _, .cons a t => .cons (a.fr.weak fun z => (Bool.and_eq_true_iff.mp z).1) ((rpl_of t).weak fun z => (Bool.and_eq_true_iff.mp z).2)
theorem de_tup {es : List Expr} {fs : TDs} {x1 : Nat} (h : DA X E c es fs) : DE X E c (.Tuple es x1 pos) (fun ρ XQ Q => fs ρ XQ fun xs => xs.length ≤ 1000 ∧ Q ⟨.tup (xs.map (·.d)), allFr xs, none⟩) := by
  obtain ⟨t, p, s⟩ := h
  refine ⟨_, pe_tup p, fun F B R H σ ρ α XQ Q K hK hX hB S h k => ?_⟩
  refine s F B R H σ ρ α XQ _ _ hK hX hB S h fun vs xs R1 H1 e1 o1 r1 ⟨hl, q1⟩ => ?_
  have l := rpl_of r1
  refine ⟨by rw [l.len, List.length_map, sizeLine_eq]; omega, fun q hq => ?_⟩
  have e2 : Ext F R1 H1 R1 (upd H1 q (.tup vs)) := .new0 hq
  exact k _ _ R1 _ (e1.trans e2) (o1.new0 hq .tup) (.of (.tup (SqT.of upd_same) (l.ext o1 e2))) q1
theorem dn_lst {es : List Expr} {fs : TDs} (h : DA X E c es fs) : DN X E c (.List es pos) (fun ρ XQ Q => fs ρ XQ fun xs => xs.length ≤ 1000 ∧ Q ⟨.lst (xs.map (·.d)), allFr xs, none⟩) := by
  obtain ⟨t, p, s⟩ := h
  refine ⟨_, pe_lst p, fun F B R H σ ρ α XQ Q K hK hX hB S h k => ?_⟩
  refine s F B R H σ ρ α XQ _ _ hK hX hB S h fun vs xs R1 H1 e1 o1 r1 ⟨hl, q1⟩ => ?_
  have l := rpl_of r1
  refine ⟨by rw [l.len, List.length_map, sizeLine_eq]; omega, fun q hq => ?_⟩
  have e2 : Ext F R1 H1 R1 (upd H1 q (.lst vs)) := .new0 hq
  refine k q (.lst (xs.map (·.d))) (allFr xs) R1 _ (e1.trans e2) (o1.new0 hq .lst) ⟨fun r => ?_, mx_none o1.inv hq, o1.ent2 q (.of hq), ⟨vs, upd_same, l.ext o1 e2⟩⟩ (e1.there q (.of hq)) q1
  obtain ⟨_, o, z, _⟩ := o1.good q r
  rw [hq] at z; cases z
theorem de_lst {es : List Expr} {fs : TDs} (h : DA X E c es fs) : DE X E c (.List es pos) (fun ρ XQ Q => fs ρ XQ fun xs => xs.length ≤ 1000 ∧ Q ⟨.lst (xs.map (·.d)), allFr xs, none⟩) := (dn_lst h).de
end
end DL

set_option Elab.async false
set_option linter.all false
set_option maxRecDepth 100000
set_option maxHeartbeats 4000000
/-! DL, part v: a tuple times a number, where the tuple itself is told. -/
namespace DL
open PySem PySem.Spec PyProof.Rows L2
theorem tuple_mulS (l : Addr) (items : Array Value) (n : Nat) (dd : Option Addr) (sl : Array (Option Value)) (x : Int) (u : Tok) (h0 : 0 ≤ x) (h1 : x ≤ 1000) (c1 : (items.isEmpty || x == 1) = true) :
    Meets (Builtin.«tuple.__mul__» ⟨[.ref l, .int x u], []⟩) (fun _ R s => s.heap.get? l = some { cls := .type "tuple", dict := dd, data := .seq items n, slots := sl } ∧ R (.ok (.ret (.ref l))) { s with heap := s.heap, toks := s.toks }) :=
  .of_wp fun prog w A R s h => by
    obtain ⟨hp, g, d, tk, os⟩ := s
    obtain ⟨hl, h⟩ := h
    have f1 := AutoSeq1.idx_int
    have c0 : (decide (x < -(2 ^ 63)) || decide (x ≥ 2 ^ 63)) = false := by
      rw [decide_eq_false (by omega), decide_eq_false (by omega)] <;> rfl
    wp_walk using wpAny_loadPart' hl
    repeat (first
      | (refine wpAny_ite_false (decide_eq_false (by rw [c0]; exact Bool.false_ne_true)) ?_; wp_walk using wpAny_loadPart' hl)
      | (refine wpAny_ite_true (decide_eq_true c1) ?_; wp_walk using wpAny_loadPart' hl))
    exact ⟨_, rfl, h⟩
def rRepS (K : PySem.W.Frag) : R2 := fun x y H Q => ∃ l k xs, x = .ref l ∧ y = .int k ∧ SqT K H l xs ∧ (xs = [] ∨ k = 1) ∧ 0 ≤ k ∧ k ≤ 1000 ∧ Q (.ref l) H
theorem op_repS {X : Cx} : OpR X (binaryOp .Mult) (rRepS X.K) := by
  intro pins s σ H x y v u Q I rx ry h
  obtain ⟨l, k, xs, rfl, rfl, hT, hne, h1, h2, q⟩ := h
  cases rx
  obtain ⟨t, rfl⟩ := ry
  obtain ⟨its, r, ⟨⟨cls, dd, data, sl⟩, ho, hc, n, hd⟩, hs⟩ := I.tuple hT
  simp only at hc hd
  subst hc hd
  have c1 : (its.toArray.isEmpty || k == 1) = true := by
    rcases hne with e | e
    · subst e
      have : its = [] := by cases r; rfl
      rw [this]; rfl
    · rw [e]; simp
  refine wpAny_binaryOp_repeat_ref (T := "tuple") (U := "int") (by decide) ⟨_, ho, rfl⟩ (fun s' => typeIs_int s' k t) noFill_tuple_mul F.fills_int_mul F.slot_int_rmul repeat_tuple F.slot_int_index.lookup
    (call_meets F.slot_int_rmul (typeIs_int s k t) F.entry_int_rmul (F.args_int_rmul_2 _ _) (int_rmul_tuple k t l its.toArray n dd sl)
      ⟨ho, rfl, ⟨_, ho, rfl⟩, call_meets F.slot_tuple_mul ⟨_, ho, rfl⟩ F.entry_tuple_mul (F.args_tuple_mul_2 _ _) (tuple_mulS l its.toArray n dd sl k t h1 h2 c1) ⟨ho, ?_⟩⟩)
  exact ⟨.ref l, H, I, rfl, q⟩
end DL

set_option Elab.async false
set_option linter.all false
set_option maxRecDepth 100000
set_option maxHeartbeats 4000000
/-! DL, part c: operators on data. -/
namespace DL
open PySem PySem.Spec PyProof.Rows L2

/-- the greatest length -/
abbrev BIG : Nat := 16777216
theorem le_line {n : Nat} (h : n ≤ BIG) : n ≤ sizeLine := by rw [sizeLine_eq]; exact h
theorem lt_line {n : Nat} (h : n < BIG) : n < sizeLine := by rw [sizeLine_eq]; exact h

/-! ### equality of data -/
mutual
def D.eqv : D → D → Bool
  | .non, .non => true
  | .bl a, .bl b => a == b
  | .bl a, .int j => (if a then 1 else 0) == j
  | .int i, .bl b => i == (if b then 1 else 0)
  | .int i, .int j => i == j
  | .str x, .str y => x == y
  | .lst xs, .lst ys => D.eqvL xs ys
  | .tup xs, .tup ys => D.eqvL xs ys
  | _, _ => false
def D.eqvL : List D → List D → Bool
  | [], [] => true
  | x :: xs, y :: ys => D.eqv x y && D.eqvL xs ys
  | _, _ => false
end
mutual
def D.py : D → PyData
  | .non => .none
  | .bl b => .bool b
  | .int i => .int i
  | .str x => .str x
  | .lst xs => .list (D.pyL xs)
  | .tup xs => .tuple (D.pyL xs)
  | _ => .none
def D.pyL : List D → List PyData
  | [] => []
  | x :: xs => D.py x :: D.pyL xs
end
mutual
/-- data of None, truth values, ints, texts, lists and tuples -/
def D.pln : D → Bool
  | .lst xs => D.plnL xs
  | .tup xs => D.plnL xs
  | .dct _ => false
  | .strm => false
  | .vee _ => false
  | .str x => PyData.strOk x
  | _ => true
def D.plnL : List D → Bool
  | [] => true
  | x :: xs => D.pln x && D.plnL xs
end
mutual
def D.dep : D → Nat
  | .lst xs => D.depL xs + 1
  | .tup xs => D.depL xs + 1
  | _ => 0
def D.depL : List D → Nat
  | [] => 0
  | x :: xs => max (D.dep x) (D.depL xs)
end
mutual
theorem pln_lay : ∀ d : D, d.pln = true → d.py.canLay0 = true
  | .non, _ => rfl
  | .bl _, _ => rfl
  | .int _, _ => rfl
  | .str x, h => by simpa [D.pln, D.py, PyData.canLay0] using h
  | .lst xs, h => by simpa [D.py, PyData.canLay0] using plnL_lay xs (by simpa [D.pln] using h)
  | .tup xs, h => by simpa [D.py, PyData.canLay0] using plnL_lay xs (by simpa [D.pln] using h)
theorem plnL_lay : ∀ d : List D, D.plnL d = true → PyData.canLayAll0 (D.pyL d) = true
  | [], _ => rfl
  | x :: xs, h => by
    simp only [D.plnL, Bool.and_eq_true] at h
    simp only [D.pyL, PyData.canLayAll0, pln_lay x h.1, plnL_lay xs h.2, Bool.and_self]
end
mutual
theorem dep_py : ∀ d : D, d.py.depth = d.dep
  | .non => rfl
  | .bl _ => rfl
  | .int _ => rfl
  | .str _ => rfl
  | .dct _ => rfl
  | .strm => rfl
  | .vee _ => rfl
  | .lst xs => by simp only [D.py, PyData.depth, D.dep, depL_py xs]
  | .tup xs => by simp only [D.py, PyData.depth, D.dep, depL_py xs]
theorem depL_py : ∀ d : List D, PyData.depthAll (D.pyL d) = D.depL d
  | [] => rfl
  | x :: xs => by simp only [D.pyL, PyData.depthAll, D.depL, dep_py x, depL_py xs]
end
/-- data that == looks through -/
def D.shp (d : D) : Bool := d.pln && decide (d.dep ≤ 64)
theorem shp_shaped {d : D} (h : d.shp = true) : SeqAt.shaped d.py = true := by
  unfold D.shp at h
  unfold SeqAt.shaped
  simp only [Bool.and_eq_true, decide_eq_true_eq] at h ⊢
  exact ⟨pln_lay d h.1, by rw [dep_py]; exact h.2⟩
mutual
theorem eqv_py : ∀ d e : D, d.pln = true → e.pln = true → PyData.eqv d.py e.py = D.eqv d e
  | .lst xs, .lst ys, h, k => by simpa [D.py, PyData.eqv, D.eqv] using eqvL_py xs ys (by simpa [D.pln] using h) (by simpa [D.pln] using k)
  | .tup xs, .tup ys, h, k => by simpa [D.py, PyData.eqv, D.eqv] using eqvL_py xs ys (by simpa [D.pln] using h) (by simpa [D.pln] using k)
  | .non, e, _, k => by cases e <;> simp_all [D.py, PyData.eqv, D.eqv, D.pln]
  | .bl _, e, _, k => by cases e <;> simp_all [D.py, PyData.eqv, D.eqv, D.pln]
  | .int _, e, _, k => by cases e <;> simp_all [D.py, PyData.eqv, D.eqv, D.pln]
  | .str _, e, _, k => by cases e <;> simp_all [D.py, PyData.eqv, D.eqv, D.pln]
  | .lst _, .non, _, _ => rfl
  | .lst _, .bl _, _, _ => rfl
  | .lst _, .int _, _, _ => rfl
  | .lst _, .str _, _, _ => rfl
  | .lst _, .tup _, _, _ => rfl
  | .tup _, .non, _, _ => rfl
  | .tup _, .bl _, _, _ => rfl
  | .tup _, .int _, _, _ => rfl
  | .tup _, .str _, _, _ => rfl
  | .tup _, .lst _, _, _ => rfl
theorem eqvL_py : ∀ d e : List D, D.plnL d = true → D.plnL e = true → PyData.eqvAll (D.pyL d) (D.pyL e) = D.eqvL d e
  | [], [], _, _ => rfl
  | [], _ :: _, _, _ => rfl
  | _ :: _, [], _, _ => rfl
  | x :: xs, y :: ys, h, k => by
    simp only [D.plnL, Bool.and_eq_true] at h k
    simp only [D.pyL, PyData.eqvAll, D.eqvL, eqv_py x y h.1 k.1, eqvL_py xs ys h.2 k.2]
end
mutual
theorem RpD.dp {F : Fx} {H : Hp} {R : Reg} : ∀ {n : Bool} {v : V} {d : D}, RpD F H R n v d → d.pln = true → Dp F.K H v d.py
  | _, _, _, .non, _ => .non
  | _, _, _, .bl b, _ => .bl b
  | _, _, _, .int i, _ => .int i
  | _, _, _, .str x, _ => .str x
  | _, _, _, .lst h _ _ t, e => .lst (.of h) (t.dp (by simpa [D.pln] using e))
  | _, _, _, .tup h t, e => .tup h (t.dp (by simpa [D.pln] using e))
theorem RpL.dp {F : Fx} {H : Hp} {R : Reg} : ∀ {n : Bool} {v : List V} {d : List D}, RpL F H R n v d → D.plnL d = true → DpAll F.K H v (D.pyL d)
  | _, _, _, .nil, _ => .nil
  | _, _, _, .cons a t, e => by
    simp only [D.plnL, Bool.and_eq_true] at e
    exact .cons (a.dp e.1) (t.dp e.2)
end
section
variable {X : Cx}
def gEq (neg : Bool) : GD2 := fun x y Q => x.d.shp = true ∧ y.d.shp = true ∧ Q ⟨.bl (if neg then !D.eqv x.d y.d else D.eqv x.d y.d), true, none⟩
theorem shp_pln {d : D} (h : d.shp = true) : d.pln = true := (Bool.and_eq_true_iff.mp h).1
theorem dop_eq (hu : X.A.units + 64 < cLine) : DOp X (compareOp .Eq) (gEq false) :=
  ⟨_, op_eqD hu, fun F B R H v u x y Q K hK I rx ry ⟨hx, hy, q⟩ k => ⟨x.d.py, y.d.py, by rw [← hK]; exact rx.1.dp (shp_pln hx), by rw [← hK]; exact ry.1.dp (shp_pln hy), shp_shaped hx, shp_shaped hy, by
    rw [eqv_py _ _ (shp_pln hx) (shp_pln hy)]
    exact k _ _ R H .refl I (.of (.bl _)) q⟩⟩
theorem dop_ne (hu : X.A.units + 64 < cLine) : DOp X (compareOp .NotEq) (gEq true) :=
  ⟨_, op_neD hu, fun F B R H v u x y Q K hK I rx ry ⟨hx, hy, q⟩ k => ⟨x.d.py, y.d.py, by rw [← hK]; exact rx.1.dp (shp_pln hx), by rw [← hK]; exact ry.1.dp (shp_pln hy), shp_shaped hx, shp_shaped hy, by
    rw [eqv_py _ _ (shp_pln hx) (shp_pln hy)]
    exact k _ _ R H .refl I (.of (.bl _)) q⟩⟩

/-! ### ints -/
/-- two ints in, a scalar out -/
def gI (C : Int → Int → Prop) (g : Int → Int → D) : GD2 := fun x y Q => match x.d, y.d with
  | .int i, .int j => C i j ∧ Q ⟨g i j, true, none⟩
  | _, _ => False
theorem dop_I {f : Value → Value → Sem Value} {C : Int → Int → Prop} {gv : Int → Int → V} {g : Int → Int → D} (h : OpR X f (rI C gv)) (hg : ∀ F H R i j, RpD F H R true (gv i j) (g i j)) : DOp X f (gI C g) :=
  ⟨_, h, fun F B R H v u x y Q K hK I rx ry q k => by
    obtain ⟨dx, nx, vx⟩ := x
    obtain ⟨dy, ny, vy⟩ := y
    cases dx <;> cases dy <;> try exact q.elim
    have r1 := rx.1
    have r2 := ry.1
    cases r1
    cases r2
    exact ⟨_, _, rfl, rfl, q.1, k _ _ R H .refl I (.of (hg F H R _ _)) q.2⟩⟩
theorem rI0_I {gv : Int → Int → V} {f : Value → Value → Sem Value} (h : OpR X f (rI0 gv)) : OpR X f (rI (fun _ _ => True) gv) := fun pins s σ H x y v u Q I rx ry ⟨i, j, e1, e2, _, q⟩ => h pins s σ H x y v u Q I rx ry ⟨i, j, e1, e2, q⟩
theorem dop_lt : DOp X (compareOp .Lt) (gI (fun _ _ => True) fun i j => .bl (decide (i < j))) := dop_I (rI0_I op_lt) fun _ _ _ _ _ => .bl _
theorem dop_le : DOp X (compareOp .LtE) (gI (fun _ _ => True) fun i j => .bl (decide (i ≤ j))) := dop_I (rI0_I op_le) fun _ _ _ _ _ => .bl _
theorem dop_gt : DOp X (compareOp .Gt) (gI (fun _ _ => True) fun i j => .bl (decide (j < i))) := dop_I (rI0_I op_gt) fun _ _ _ _ _ => .bl _
theorem dop_ge : DOp X (compareOp .GtE) (gI (fun _ _ => True) fun i j => .bl (decide (j ≤ i))) := dop_I (rI0_I op_ge) fun _ _ _ _ _ => .bl _
theorem dop_sub : DOp X (binaryOp .Sub) (gI (fun _ _ => True) fun i j => .int (i - j)) := dop_I (rI0_I op_sub) fun _ _ _ _ _ => .int _
theorem dop_mod : DOp X (binaryOp .Mod) (gI (fun _ j => 0 < j) fun i j => .int (i % j)) := dop_I op_mod fun _ _ _ _ _ => .int _
theorem dop_fdiv : DOp X (binaryOp .FloorDiv) (gI CDiv fun i j => .int (i / j)) := dop_I op_fdiv fun _ _ _ _ _ => .int _
theorem dop_pow : DOp X (binaryOp .Pow) (gI CPow fun i j => .int (i ^ j.toNat)) := dop_I op_pow fun _ _ _ _ _ => .int _

/-! ### +, * -/
def gAdd : GD2 := fun x y Q => match x.d, y.d with
  | .int i, .int j => Q ⟨.int (i + j), true, none⟩
  | .int i, .bl j => Q ⟨.int (i + b2i j), true, none⟩
  | .str i, .str j => i.length + j.length ≤ BIG ∧ Q ⟨.str (i ++ j), true, none⟩
  | .lst xs, .lst ys => xs.length + ys.length ≤ BIG ∧ Q ⟨.lst (xs ++ ys), x.fr && y.fr, none⟩
  | .tup xs, .tup ys => xs.length + ys.length ≤ BIG ∧ Q ⟨.tup (xs ++ ys), x.fr && y.fr, none⟩
  | _, _ => False
theorem not_frozen {F : Fx} {B : Nat} {R : Reg} {H : Hp} (o : HpOk F B R H) {q : Addr} (hq : H q = none) : ¬ R q := fun r => by
  obtain ⟨_, u, z, _⟩ := o.good q r
  rw [hq] at z; cases z
/-- a new list is told -/
theorem new_lst {F : Fx} {B : Nat} {R : Reg} {H : Hp} {n : Bool} {vs : List V} {ds : List D} {q : Addr} (I : HpOk F B R H) (hq : H q = none) (l : RpL F H R n vs ds) : Ext F R H (R.add q) (upd H q (.lst vs)) ∧ HpOk F B (R.add q) (upd H q (.lst vs)) ∧ RpD F (upd H q (.lst vs)) (R.add q) n (.ref q) (.lst ds) :=
  ⟨.new1 hq, I.new hq .lst, .lst upd_same (.inr rfl) (fun _ => I.ent2 q (.of hq)) (l.ext I (.new1 hq))⟩
theorem new_tup {F : Fx} {B : Nat} {R : Reg} {H : Hp} {n : Bool} {vs : List V} {ds : List D} {q : Addr} (I : HpOk F B R H) (hq : H q = none) (l : RpL F H R n vs ds) : Ext F R H R (upd H q (.tup vs)) ∧ HpOk F B R (upd H q (.tup vs)) ∧ RpD F (upd H q (.tup vs)) R n (.ref q) (.tup ds) :=
  ⟨.new0 hq, I.new0 hq .tup, .tup (.of upd_same) (l.ext I (.new0 hq))⟩
theorem and_l {a b : Bool} : (a && b) = true → a = true := fun h => (Bool.and_eq_true_iff.mp h).1
theorem and_r {a b : Bool} : (a && b) = true → b = true := fun h => (Bool.and_eq_true_iff.mp h).2
/-- the items of a list as they are known to be new -/
theorem Rp.lstL {F : Fx} {R : Reg} {H : Hp} {x : Dv} {v : V} {ds : List D} (h : Rp F H R x v) (e : x.d = .lst ds) : ∃ a vs, v = .ref a ∧ H a = some (.lst vs) ∧ RpL F H R x.fr vs ds := by
  have r := h.fr
  rw [e] at r
  cases r with
  | lst h1 _ _ t => exact ⟨_, _, rfl, h1, t⟩
theorem Rp.tupL {F : Fx} {R : Reg} {H : Hp} {x : Dv} {v : V} {ds : List D} (h : Rp F H R x v) (e : x.d = .tup ds) : ∃ a vs, v = .ref a ∧ SqT F.K H a vs ∧ RpL F H R x.fr vs ds := by
  have r := h.fr
  rw [e] at r
  cases r with
  | tup h1 t => exact ⟨_, _, rfl, h1, t⟩
theorem dop_add : DOp X (binaryOp .Add) gAdd :=
  ⟨_, ((op_add.or op_add_ib).or op_add_str).or (op_cat.or op_catA), fun F B R H v u x y Q K hK I rx ry q k => by
    obtain ⟨dx, nx, vx⟩ := x
    obtain ⟨dy, ny, vy⟩ := y
    cases dx <;> cases dy <;> try exact q.elim
    case int.int =>
      have r1 := rx.1; have r2 := ry.1
      cases r1; cases r2
      exact .inl (.inl (.inl ⟨_, _, rfl, rfl, k _ _ R H .refl I (.of (.int _)) q⟩))
    case int.bl =>
      have r1 := rx.1; have r2 := ry.1
      cases r1; cases r2
      exact .inl (.inl (.inr ⟨_, _, rfl, rfl, k _ _ R H .refl I (.of (.int _)) q⟩))
    case str.str =>
      have r1 := rx.1; have r2 := ry.1
      cases r1; cases r2
      exact .inl (.inr ⟨_, _, rfl, rfl, le_line q.1, k _ _ R H .refl I (.of (.str _)) q.2⟩)
    case lst.lst xs ys =>
      obtain ⟨a, vs, rfl, ha, la⟩ := rx.lstL rfl
      obtain ⟨b, us, rfl, hb, lb⟩ := ry.lstL rfl
      refine .inr (.inl ⟨a, b, vs, us, rfl, rfl, ha, hb, le_line (by rw [la.len, lb.len]; exact q.1), fun p hp => ?_⟩)
      obtain ⟨e, o, r⟩ := new_lst I hp ((la.weak and_l).app (lb.weak and_r))
      exact k _ _ _ _ e o (.of r) q.2
    case tup.tup xs ys =>
      obtain ⟨a, vs, rfl, ha, la⟩ := rx.tupL rfl
      obtain ⟨b, us, rfl, hb, lb⟩ := ry.tupL rfl
      refine .inr (.inr ⟨a, b, vs, us, rfl, rfl, hK ▸ ha, hK ▸ hb, le_line (by rw [la.len, lb.len]; exact q.1), fun z => ?_, fun z1 z2 => ?_, fun _ _ p hp => ?_⟩)
      · subst z
        cases la
        refine k _ ⟨.tup ys, _, none⟩ R H .refl I (.of (.tup hb (lb.weak and_r))) q.2
      · subst z2
        cases lb
        refine k _ ⟨.tup xs, _, none⟩ R H .refl I (.of (.tup ha (la.weak and_l))) (by have := q.2; rw [List.append_nil] at this; exact this)
      · obtain ⟨e, o, r⟩ := new_tup I hp ((la.weak and_l).app (lb.weak and_r))
        exact k _ _ _ _ e o (.of r) q.2⟩
theorem rep_rpl {F : Fx} {H : Hp} {R : Reg} {n : Bool} {vs : List V} {ds : List D} (h : RpL F H R n vs ds) : ∀ k : Nat, RpL F H R n (List.replicate k vs).flatten (List.replicate k ds).flatten
  | 0 => .nil
  | k + 1 => by rw [List.replicate_succ, List.flatten_cons, List.replicate_succ, List.flatten_cons]; exact h.app (rep_rpl h k)
def gMul : GD2 := fun x y Q => match x.d, y.d with
  | .int i, .int j => CMul i j ∧ Q ⟨.int (i * j), true, none⟩
  | .lst xs, .int k => -(2 ^ 63) ≤ k ∧ k < 2 ^ 63 ∧ xs.length * k.toNat ≤ BIG ∧ Q ⟨.lst (List.replicate k.toNat xs).flatten, x.fr, none⟩
  | .tup xs, .int k => 1 ≤ k ∧ k ≤ 1000 ∧ xs.length ≤ 1000 ∧ Q ⟨.tup (List.replicate k.toNat xs).flatten, x.fr, none⟩
  | _, _ => False
theorem dop_mul : DOp X (binaryOp .Mult) gMul :=
  ⟨_, op_mul.or (op_rep.or (op_repS.or op_repT)), fun F B R H v u x y Q K hK I rx ry q k => by
    obtain ⟨dx, nx, vx⟩ := x
    obtain ⟨dy, ny, vy⟩ := y
    cases dx <;> cases dy <;> try exact q.elim
    case int.int =>
      have r1 := rx.1; have r2 := ry.1
      cases r1; cases r2
      exact .inl ⟨_, _, rfl, rfl, q.1, k _ _ R H .refl I (.of (.int _)) q.2⟩
    case lst.int xs j =>
      obtain ⟨a, vs, rfl, ha, la⟩ := rx.lstL rfl
      have r2 := ry.1
      cases r2
      obtain ⟨q1, q2, q3, q4⟩ := q
      refine .inr (.inl ⟨a, j, vs, rfl, rfl, ha, q1, q2, le_line (by rw [la.len]; exact q3), fun p hp => ?_⟩)
      obtain ⟨e, o, r⟩ := new_lst I hp (rep_rpl la j.toNat)
      exact k _ _ _ _ e o (.of r) q4
    case tup.int xs j =>
      obtain ⟨a, vs, rfl, ha, la⟩ := rx.tupL rfl
      have r2 := ry.1
      cases r2
      obtain ⟨q1, q2, q3, q4⟩ := q
      by_cases z : vs = [] ∨ j = 1
      · refine .inr (.inr (.inl ⟨a, j, vs, rfl, rfl, hK ▸ ha, z, by omega, q2, ?_⟩))
        have ef : (List.replicate j.toNat xs).flatten = xs := by
          rcases z with z | z
          · subst z
            cases la
            simp
          · subst z
            simp
        rw [ef] at q4
        exact k _ ⟨.tup xs, _, none⟩ R H .refl I (.of (.tup ha la)) q4
      · have z1 : vs ≠ [] := fun e => z (.inl e)
        have z2 : j ≠ 1 := fun e => z (.inr e)
        refine .inr (.inr (.inr ⟨a, j, vs, rfl, rfl, hK ▸ ha, z1, by omega, q2, by rw [la.len]; exact q3, fun p hp => ?_⟩))
        obtain ⟨e, o, r⟩ := new_tup I hp (rep_rpl la j.toNat)
        exact k _ _ _ _ e o (.of r) q4⟩

/-! ### is None, in -/
theorem dop_isN : DOp X (compareOp .Is) (fun x y Q => y.d = .non ∧ Q ⟨.bl (match x.d with | .non => true | _ => false), true, none⟩ ∧ ∀ v, x.d ≠ .vee v) :=
  ⟨_, op_isN, fun F B R H v u x y Q K hK I rx ry ⟨e, q, nv⟩ k => by
    have r2 := ry.1
    rw [e] at r2
    cases r2
    refine ⟨rfl, ?_⟩
    have w : decide (v = .non) = (match x.d with | .non => true | _ => false) := by
      have r1 := rx.1
      obtain ⟨dx, nx, vx⟩ := x
      cases r1 <;> first | rfl | exact absurd rfl (nv _)
    rw [w]
    exact k _ _ R H .refl I (.of (.bl _)) q⟩
theorem dop_notN : DOp X (compareOp .IsNot) (fun x y Q => y.d = .non ∧ Q ⟨.bl (match x.d with | .non => false | _ => true), true, none⟩ ∧ ∀ v, x.d ≠ .vee v) :=
  ⟨_, op_notN, fun F B R H v u x y Q K hK I rx ry ⟨e, q, nv⟩ k => by
    have r2 := ry.1
    rw [e] at r2
    cases r2
    refine ⟨rfl, ?_⟩
    have w : (!decide (v = .non)) = (match x.d with | .non => false | _ => true) := by
      have r1 := rx.1
      obtain ⟨dx, nx, vx⟩ := x
      cases r1 <;> first | rfl | exact absurd rfl (nv _)
    rw [w]
    exact k _ _ R H .refl I (.of (.bl _)) q⟩
/-- x in a list or a tuple of scalars -/
def D.scaL : List D → Bool
  | [] => true
  | x :: xs => x.sca && D.scaL xs
def D.isIn (x : D) : List D → Bool
  | [] => false
  | y :: ys => D.eqv y x || D.isIn x ys
theorem sca_flat {F : Fx} {H : Hp} {R : Reg} {n : Bool} {v : V} {d : D} (h : RpD F H R n v d) (s : d.sca = true) : flatV v = true := by
  cases h <;> first | rfl | cases s
theorem sca_eq {F : Fx} {H : Hp} {R : Reg} {n m : Bool} {v u : V} {d e : D} (h : RpD F H R n v d) (k : RpD F H R m u e) (s : d.sca = true) (s2 : e.sca = true) : eqV v u = D.eqv d e := by
  cases h <;> cases k <;> first | rfl | (simp [D.sca] at s; done) | (simp [D.sca] at s2; done) | simp [eqV, D.eqv]
theorem scaL_flat {F : Fx} {H : Hp} {R : Reg} : ∀ {n : Bool} {vs : List V} {ds : List D}, RpL F H R n vs ds → D.scaL ds = true → vs.all flatV = true
  | _, _, _, .nil, _ => rfl
  | _, _, _, .cons a t, e => by
    simp only [D.scaL, Bool.and_eq_true] at e
    rw [List.all_cons, sca_flat a e.1, scaL_flat t e.2, Bool.and_self]
theorem isIn_eq {F : Fx} {H : Hp} {R : Reg} {m : Bool} {u : V} {e : D} (k : RpD F H R m u e) (s2 : e.sca = true) : ∀ {n : Bool} {vs : List V} {ds : List D}, RpL F H R n vs ds → D.scaL ds = true → inV u vs = D.isIn e ds
  | _, _, _, .nil, _ => rfl
  | _, _, _, .cons a t, z => by
    simp only [D.scaL, Bool.and_eq_true] at z
    show (eqV _ u || inV u _) = _
    rw [sca_eq a k z.1 s2, isIn_eq k s2 t z.2]
    rfl
def gIn (neg : Bool) : GD2 := fun x y Q => x.d.sca = true ∧ match y.d with
  | .lst ds => D.scaL ds = true ∧ Q ⟨.bl (if neg then !D.isIn x.d ds else D.isIn x.d ds), true, none⟩
  | .tup ds => D.scaL ds = true ∧ Q ⟨.bl (if neg then !D.isIn x.d ds else D.isIn x.d ds), true, none⟩
  | _ => False
theorem gIn_of {neg : Bool} (F B R H v u x y) (Q : Dv → Prop) (K : VK) (hK : F.K = X.K) (I : HpOk F B R H) (rx : Rp F H R x v) (ry : Rp F H R y u) (q : gIn neg x y Q)
    (k : ∀ w z R' H', Ext F R H R' H' → HpOk F B R' H' → Rp F H' R' z w → Q z → K w H') : rIn X.K neg v u H K := by
  obtain ⟨dy, ny, vy⟩ := y
  obtain ⟨sx, q⟩ := q
  cases dy <;> try exact q.elim
  case lst ds =>
    obtain ⟨a, vs, rfl, ha, la⟩ := ry.lstL rfl
    refine ⟨a, vs, rfl, .inl (.of ha), sca_flat rx.1 sx, scaL_flat la q.1, ?_⟩
    rw [isIn_eq rx.1 sx la q.1]
    exact k _ _ R H .refl I (.of (.bl _)) q.2
  case tup ds =>
    obtain ⟨a, vs, rfl, ha, la⟩ := ry.tupL rfl
    refine ⟨a, vs, rfl, .inr (hK ▸ ha), sca_flat rx.1 sx, scaL_flat la q.1, ?_⟩
    rw [isIn_eq rx.1 sx la q.1]
    exact k _ _ R H .refl I (.of (.bl _)) q.2
theorem dop_in : DOp X (compareOp .In) (gIn false) := ⟨_, op_in_seq, gIn_of⟩
theorem dop_notIn : DOp X (compareOp .NotIn) (gIn true) := ⟨_, op_notIn_seq, gIn_of⟩
end
end DL

set_option Elab.async false
set_option linter.all false
set_option maxRecDepth 100000
set_option maxHeartbeats 4000000
/-! DL, part d: calls of built-ins, subscripts, slices, isinstance, calls of defs. -/
namespace DL
open PySem PySem.Spec PyProof.Rows L2

/-! ### built-ins on data -/
abbrev GDs := List Dv → (Dv → Prop) → Prop
def DCl (X : Cx) (f : Value) (g : GDs) : Prop := ∃ r : List V → Hp → VK → Prop, CallR X f r ∧ ∀ F B R H vs xs Q (K : VK), F.K = X.K → HpOk F B R H → Paired (fun x v => Rp F H R x v) xs vs → g xs Q →
  (∀ w z R' H', Ext F R H R' H' → HpOk F B R' H' → Rp F H' R' z w → Q z → K w H') → r vs H K
section
variable {X : Cx} {E : XK} {c ca cb cc : Nat} {a b e : Expr} {es : List Expr} {fa fb fe : TD} {fs : TDs} {pos p : Pos} {x : Str}
theorem dcl_use {r : List V → Hp → VK → Prop} {g : GDs} (sr : ∀ F B R H vs xs Q (K : VK), F.K = X.K → HpOk F B R H → Paired (fun x v => Rp F H R x v) xs vs → g xs Q →
    (∀ w z R' H', Ext F R H R' H' → HpOk F B R' H' → Rp F H' R' z w → Q z → K w H') → r vs H K) (pe : ∀ t, PA X es t → PE X e (tCB r t)) (ha : DA X E c es fs) : DE X E c e (fun ρ XQ Q => fs ρ XQ fun xs => g xs Q) := by
  obtain ⟨t, p, s⟩ := ha
  refine ⟨_, pe t p, fun F B R H σ ρ α XQ Q K hK hX hB S h k => ?_⟩
  refine s F B R H σ ρ α XQ _ _ hK hX hB S h fun vs xs R1 H1 e1 o1 r1 q1 => ?_
  exact sr F _ R1 H1 vs xs Q K hK o1 r1 q1 fun w z R2 H2 e2 o2 r2 q2 => k w z R2 H2 (e1.trans e2) o2 r2 q2
theorem de_callB {id : String} {g : GDs} (hc : DCl X (.builtin id) g) (hg : Gl X x) (hm : X.mg x = none) (hv : bootBuiltins x = some (.builtin id)) (ha : DA X E c (e :: es) fs) (hn : x ≠ "__name__" := by decide) (hdb : (x == ("__debug__" : Str)) = false := by decide)
    (he : starEach (e :: es) X.env = (false, eval e X.env) :: starEach es X.env := by rfl) (hpl : (backTo pos (starEach es X.env)).any (·.1) = false := by rfl) : DE X E c (.Call (.Name x p) (e :: es) [] pos) (fun ρ XQ Q => fs ρ XQ fun xs => g xs Q) := by
  obtain ⟨r, hr, sr⟩ := hc
  exact dcl_use sr (fun t pa => pe_callB hr hg hm hv pa hn hdb he hpl) ha
theorem de_callTy {T : String} {g : GDs} (hc : DCl X (.type T) g) (hg : Gl X x) (hm : X.mg x = none) (hv : bootBuiltins x = some (.type T)) (ha : DA X E c (e :: es) fs) (hn : x ≠ "__name__" := by decide) (hdb : (x == ("__debug__" : Str)) = false := by decide)
    (he : starEach (e :: es) X.env = (false, eval e X.env) :: starEach es X.env := by rfl) (hpl : (backTo pos (starEach es X.env)).any (·.1) = false := by rfl) : DE X E c (.Call (.Name x p) (e :: es) [] pos) (fun ρ XQ Q => fs ρ XQ fun xs => g xs Q) := by
  obtain ⟨r, hr, sr⟩ := hc
  exact dcl_use sr (fun t pa => pe_callTy hr hg hm hv pa hn hdb he hpl) ha
/-- one argument -/
def g1 (g : Dv → (Dv → Prop) → Prop) : GDs := fun xs Q => match xs with
  | [x] => g x Q
  | _ => False
theorem dcl1 {f : Value} {g : Dv → (Dv → Prop) → Prop} {r : List V → Hp → VK → Prop} (hr : CallR X f r)
    (h : ∀ F B R H v x Q (K : VK), F.K = X.K → HpOk F B R H → Rp F H R x v → g x Q → (∀ w z R' H', Ext F R H R' H' → HpOk F B R' H' → Rp F H' R' z w → Q z → K w H') → r [v] H K) : DCl X f (g1 g) :=
  ⟨r, hr, fun F B R H vs xs Q K hK I rs q k => by
    match xs, vs, rs, q with
    | [x], [v], .cons r1 .nil, q => exact h F B R H v x Q K hK I r1 q k⟩
def gLen : Dv → (Dv → Prop) → Prop := fun x Q => match x.d with
  | .lst ds => Q ⟨.int ds.length, true, none⟩
  | .tup ds => Q ⟨.int ds.length, true, none⟩
  | .str s => s.length ≤ BIG ∧ Q ⟨.int s.length, true, none⟩
  | _ => False
theorem dcl_len : DCl X (.builtin "len") (g1 gLen) := dcl1 call_len fun F B R H v x Q K hK I r q k => by
  obtain ⟨d, n, vo⟩ := x
  cases d <;> try exact q.elim
  case lst ds =>
    obtain ⟨a, vs, rfl, ha, la⟩ := r.lstL rfl
    refine ⟨_, vs.length, rfl, .inl ⟨vs, .of ha, rfl⟩, k _ _ R H .refl I (.of ?_) q⟩
    rw [la.len]; exact .int _
  case tup ds =>
    obtain ⟨a, vs, rfl, ha, la⟩ := r.tupL rfl
    refine ⟨_, vs.length, rfl, .inr ⟨vs, hK ▸ ha, rfl⟩, k _ _ R H .refl I (.of ?_) q⟩
    rw [la.len]; exact .int _
  case str s =>
    have r1 := r.1
    cases r1
    exact ⟨_, s.length, rfl, ⟨le_line q.1, rfl⟩, k _ _ R H .refl I (.of (.int _)) q.2⟩
theorem rpl_bls {F : Fx} {H : Hp} {R : Reg} : ∀ {n : Bool} {bs : List Bool} {vs : List V}, RpL F H R n vs (bs.map D.bl) → vs = bs.map V.bl
  | _, [], _, .nil => rfl
  | _, b :: bs, _, .cons a t => by
    cases a
    rw [rpl_bls t]
    rfl
theorem rpl_ints {F : Fx} {H : Hp} {R : Reg} : ∀ {n : Bool} {bs : List Int} {vs : List V}, RpL F H R n vs (bs.map D.int) → vs = bs.map V.int
  | _, [], _, .nil => rfl
  | _, b :: bs, _, .cons a t => by
    cases a
    rw [rpl_ints t]
    rfl
theorem rpl_of_ints {F : Fx} {H : Hp} {R : Reg} {n : Bool} : ∀ bs : List Int, RpL F H R n (bs.map V.int) (bs.map D.int)
  | [] => .nil
  | b :: bs => .cons (.int b) (rpl_of_ints bs)
theorem dcl_all (hc : X.calm = true) : DCl X (.builtin "all") (g1 fun x Q => ∃ bs : List Bool, x.d = .lst (bs.map D.bl) ∧ Q ⟨.bl (bs.all id), true, none⟩) := dcl1 (cr_all hc) fun F B R H v x Q K hK I r ⟨bs, e, q⟩ k => by
  obtain ⟨a, vs, rfl, ha, la⟩ := r.lstL e
  rw [rpl_bls la] at ha
  exact ⟨a, bs, rfl, .of ha, k _ _ R H .refl I (.of (.bl _)) q⟩
theorem dcl_any (hc : X.calm = true) : DCl X (.builtin "any") (g1 fun x Q => ∃ bs : List Bool, x.d = .lst (bs.map D.bl) ∧ Q ⟨.bl (bs.any id), true, none⟩) := dcl1 (cr_any hc) fun F B R H v x Q K hK I r ⟨bs, e, q⟩ k => by
  obtain ⟨a, vs, rfl, ha, la⟩ := r.lstL e
  rw [rpl_bls la] at ha
  exact ⟨a, bs, rfl, .of ha, k _ _ R H .refl I (.of (.bl _)) q⟩
theorem dcl_int : DCl X (.type "int") (g1 fun x Q => match x.d with | .int i => Q ⟨.int i, true, none⟩ | .bl b => Q ⟨.int (if b then 1 else 0), true, none⟩ | _ => False) := dcl1 call_int1 fun F B R H v x Q K hK I r q k => by
  obtain ⟨d, n, vo⟩ := x
  have r1 := r.1
  cases d <;> try exact q.elim
  case int i => cases r1; exact .inl ⟨i, rfl, k _ _ R H .refl I (.of (.int _)) q⟩
  case bl i => cases r1; exact .inr ⟨i, rfl, k _ _ R H .refl I (.of (.int _)) q⟩
theorem dcl_abs : DCl X (.builtin "abs") (g1 fun x Q => match x.d with | .int i => Q ⟨.int (if i < 0 then -i else i), true, none⟩ | _ => False) := dcl1 call_abs fun F B R H v x Q K hK I r q k => by
  obtain ⟨d, n, vo⟩ := x
  have r1 := r.1
  cases d <;> try exact q.elim
  case int i => cases r1; exact ⟨i, rfl, k _ _ R H .refl I (.of (.int _)) q⟩
/-- list(x), tuple(x) of a list or a tuple -/
theorem dcl_list : DCl X (.type "list") (g1 fun x Q => match x.d with | .lst ds => Q ⟨.lst ds, x.fr, none⟩ | .tup ds => Q ⟨.lst ds, x.fr, none⟩ | _ => False) := dcl1 call_list_of fun F B R H v x Q K hK I r q k => by
  obtain ⟨d, n, vo⟩ := x
  cases d <;> try exact q.elim
  case lst ds =>
    obtain ⟨a, vs, rfl, ha, la⟩ := r.lstL rfl
    refine ⟨a, vs, rfl, .inl (.of ha), fun l hl => ?_⟩
    obtain ⟨e, o, r⟩ := new_lst I hl la
    exact k _ _ _ _ e o (.of r) q
  case tup ds =>
    obtain ⟨a, vs, rfl, ha, la⟩ := r.tupL rfl
    refine ⟨a, vs, rfl, .inr (hK ▸ ha), fun l hl => ?_⟩
    obtain ⟨e, o, r⟩ := new_lst I hl la
    exact k _ _ _ _ e o (.of r) q
theorem dcl_tuple : DCl X (.type "tuple") (g1 fun x Q => match x.d with | .lst ds => Q ⟨.tup ds, x.fr, none⟩ | .tup ds => Q ⟨.tup ds, x.fr, none⟩ | _ => False) := dcl1 call_tuple_of fun F B R H v x Q K hK I r q k => by
  obtain ⟨d, n, vo⟩ := x
  cases d <;> try exact q.elim
  case lst ds =>
    obtain ⟨a, vs, rfl, ha, la⟩ := r.lstL rfl
    refine ⟨a, vs, rfl, .inl ⟨.of ha, fun l hl => ?_⟩⟩
    obtain ⟨e, o, r⟩ := new_tup I hl la
    exact k _ _ _ _ e o (.of r) q
  case tup ds =>
    obtain ⟨a, vs, rfl, ha, la⟩ := r.tupL rfl
    exact ⟨a, vs, rfl, .inr ⟨hK ▸ ha, k _ _ R H .refl I (.of (.tup ha la)) q⟩⟩
/-- max, min of two ints -/
def g2I (g : Int → Int → Int) : GDs := fun xs Q => match xs with
  | [x, y] => match x.d, y.d with
    | .int i, .int j => Q ⟨.int (g i j), true, none⟩
    | _, _ => False
  | _ => False
theorem dcl_2I {f : Value} {g : Int → Int → Int} (hr : CallR X f (fun xs H Q => ∃ i j, xs = [.int i, .int j] ∧ Q (.int (g i j)) H)) : DCl X f (g2I g) :=
  ⟨_, hr, fun F B R H vs xs Q K hK I rs q k => by
    match xs, vs, rs, q with
    | [x, y], [v, u], .cons r1 (.cons r2 .nil), q =>
      obtain ⟨dx, nx, vx⟩ := x
      obtain ⟨dy, ny, vy⟩ := y
      cases dx <;> cases dy <;> try exact q.elim
      have z1 := r1.1; have z2 := r2.1
      cases z1; cases z2
      exact ⟨_, _, rfl, k _ _ R H .refl I (.of (.int _)) q⟩⟩
theorem dcl_max2 (hc : X.calm = true) : DCl X (.builtin "max") (g2I fun i j => if j > i then j else i) := dcl_2I (call_max2 hc)
theorem dcl_min2 (hc : X.calm = true) : DCl X (.builtin "min") (g2I fun i j => if j < i then j else i) := dcl_2I (call_min2 hc)

/-! ### subscripts, slices -/
theorem atI_map {α β : Type} {xs : List α} {ys : List β} (hl : xs.length = ys.length) {i : Int} {d : β} (h : atI ys i = some d) : ∃ j : Nat, ys[j]? = some d ∧ ∀ v, xs[j]? = some v → atI xs i = some v := by
  unfold atI at h
  rw [← hl] at h
  cases e : ixN xs.length i with
  | none => rw [e] at h; cases h
  | some j =>
    rw [e] at h
    exact ⟨j, h, fun v hv => by unfold atI; rw [e]; exact hv⟩
theorem atI_rp {F : Fx} {H : Hp} {R : Reg} {n : Bool} {vs : List V} {ds : List D} (l : RpL F H R n vs ds) {i : Int} {d : D} (h : atI ds i = some d) : ∃ v, atI vs i = some v ∧ RpD F H R n v d := by
  obtain ⟨j, h1, h2⟩ := atI_map l.len h
  obtain ⟨v, h3, r⟩ := l.get h1
  exact ⟨v, h2 v h3, r⟩
def gIx : GD2 := fun x y Q => match x.d, y.d with
  | .lst ds, .int i => ∃ d, atI ds i = some d ∧ Q ⟨d, x.fr, none⟩
  | .tup ds, .int i => ∃ d, atI ds i = some d ∧ Q ⟨d, x.fr, none⟩
  | .str s, .int i => s.length ≤ BIG ∧ ∃ c, atI s.cps.toList i = some c ∧ Q ⟨.str ⟨#[c]⟩, true, none⟩
  | _, _ => False
theorem de_ix (ha : DE X E ca a fa) (hb : DE X E cb b fb) (hs : PlainIx b) : DE X E (ca + cb) (.Subscript a b pos) (fun ρ XQ Q => fa ρ XQ fun x => fb ρ XQ fun y => gIx x y Q) :=
  de_two (t := fun ta tb => tOp (rIx X.K) ta tb) (fun _ _ => rfl) (fun _ _ pa pb => pe_ix ix_seq pa pb hs) (fun F B R H v u x y Q K hK I rx ry q k => by
    obtain ⟨dx, nx, vx⟩ := x
    obtain ⟨dy, ny, vy⟩ := y
    have r2 := ry.1
    cases dx <;> cases dy <;> try exact q.elim
    case lst.int ds i =>
      obtain ⟨a, vs, rfl, ha, la⟩ := rx.lstL rfl
      obtain ⟨d, hd, q⟩ := q
      obtain ⟨w, hw, r⟩ := atI_rp la hd
      cases r2
      exact .inl ⟨a, vs, i, w, rfl, rfl, .of ha, hw, k _ _ R H .refl I (.of r) q⟩
    case tup.int ds i =>
      obtain ⟨a, vs, rfl, ha, la⟩ := rx.tupL rfl
      obtain ⟨d, hd, q⟩ := q
      obtain ⟨w, hw, r⟩ := atI_rp la hd
      cases r2
      exact .inr (.inl ⟨a, vs, i, w, rfl, rfl, hK ▸ ha, hw, k _ _ R H .refl I (.of r) q⟩)
    case str.int s i =>
      have r1 := rx.1
      cases r1; cases r2
      obtain ⟨h1, c, h2, q⟩ := q
      exact .inr (.inr ⟨s, i, c, rfl, rfl, le_line h1, h2, k _ _ R H .refl I (.of (.str _)) q⟩)) ha hb
def cutL {α : Type} (xs : List α) (lo hi : Option Int) : List α := (xs.drop (HT.sIx xs.length 0 lo)).take (HT.sIx xs.length xs.length hi - HT.sIx xs.length 0 lo)
abbrev TDo := Ro → XQT → (Option Int → Prop) → Prop
def DO (X : Cx) (E : XK) (c : Nat) (e : Option Expr) (f : TDo) : Prop := ∃ t : TO, PO X e t ∧ ∀ F B R H σ ρ α XQ Q (K : Option Int → Hp → Prop), F.K = X.K → XLink F E XQ → B + c ≤ F.L → StOk F B R H σ ρ α → f ρ XQ Q →
  (∀ o R' H', Ext F R H R' H' → HpOk F (B + c) R' H' → Q o → K o H') → t σ H K
theorem do_none : DO X E 0 none (fun _ _ Q => Q none) := ⟨_, po_none, fun F B R H σ ρ α XQ Q K _ _ _ S h k => k none R H .refl S.hp h⟩
theorem do_some (ha : DE X E ca a fa) : DO X E ca (some a) (fun ρ XQ Q => fa ρ XQ fun x => ∃ i, x.d = .int i ∧ Q (some i)) := by
  obtain ⟨t, p, s⟩ := ha
  refine ⟨_, po_some p, fun F B R H σ ρ α XQ Q K hK hX hB S h k => ?_⟩
  refine s F B R H σ ρ α XQ _ _ hK hX hB S h fun v x R1 H1 e1 o1 r1 ⟨i, ei, q1⟩ => ?_
  have r2 := r1.1
  rw [ei] at r2
  cases r2
  exact ⟨i, rfl, k (some i) R1 H1 e1 o1 q1⟩
def gSl : Dv → Option Int → Option Int → (Dv → Prop) → Prop := fun x lo hi Q => match x.d with
  | .lst ds => Q ⟨.lst (cutL ds lo hi), x.fr, none⟩
  | .tup ds => Q ⟨.tup (cutL ds lo hi), x.fr, none⟩
  | _ => False
theorem cut_rp {F : Fx} {H : Hp} {R : Reg} {n : Bool} {vs : List V} {ds : List D} (l : RpL F H R n vs ds) (lo hi : Option Int) : RpL F H R n (cutV vs lo hi) (cutL ds lo hi) := by
  unfold cutV cutL
  rw [l.len]
  exact (l.drop _).take _
theorem cutL_all {α : Type} {xs : List α} {lo hi : Option Int} (h : HT.sIx xs.length 0 lo = 0 ∧ HT.sIx xs.length xs.length hi = xs.length) : cutL xs lo hi = xs := by
  unfold cutL
  rw [h.1, h.2, List.drop_zero, Nat.sub_zero, List.take_length]
theorem de_slice {lo hi : Option Expr} {fl fh : TDo} {p2 : Pos} (ha : DE X E ca a fa) (hl : DO X E cb lo fl) (hh : DO X E cc hi fh) : DE X E (ca + cb + cc) (.Subscript a (.Slice lo hi none p2) pos) (fun ρ XQ Q => fa ρ XQ fun x => fl ρ XQ fun l => fh ρ XQ fun h => gSl x l h Q) := by
  obtain ⟨ta, pa, sa⟩ := ha
  obtain ⟨tl, pl, sl⟩ := hl
  obtain ⟨th, ph, sh⟩ := hh
  refine ⟨_, pe_slice (sl_list.or sl_tupA) pa pl ph, fun F B R H σ ρ α XQ Q K hK hX hB S h k => ?_⟩
  refine sa F B R H σ ρ α XQ _ _ hK hX (by omega) S h fun v x R1 H1 e1 o1 r1 q1 => ?_
  refine sl F (B + ca) R1 H1 σ ρ α XQ _ _ hK hX (by omega) (S.ext e1 o1) q1 fun lo R2 H2 e2 o2 q2 => ?_
  refine sh F (B + ca + cb) R2 H2 σ ρ α XQ _ _ hK hX (by omega) ((S.ext e1 o1).ext e2 o2) q2 fun hi R3 H3 e3 o3 q3 => ?_
  have r3 := (r1.ext o1 e2).ext o2 e3
  have o3' : HpOk F (B + (ca + cb + cc)) R3 H3 := by have : B + (ca + cb + cc) = B + ca + cb + cc := by omega
                                                     rw [this]; exact o3
  have e13 := (e1.trans e2).trans e3
  obtain ⟨d, n, vo⟩ := x
  cases d <;> try exact q3.elim
  case lst ds =>
    obtain ⟨a, vs, rfl, ha, la⟩ := r3.lstL rfl
    refine .inl ⟨a, vs, rfl, .of ha, fun p hp => ?_⟩
    obtain ⟨e, o, r⟩ := new_lst o3' hp (cut_rp la lo hi)
    exact k _ _ _ _ (e13.trans e) o (.of r) q3
  case tup ds =>
    obtain ⟨a, vs, rfl, ha, la⟩ := r3.tupL rfl
    refine .inr ⟨a, vs, rfl, hK ▸ ha, fun w => ?_, fun w p hp => ?_⟩
    · rw [la.len] at w
      refine k (.ref a) ⟨.tup (cutL ds lo hi), Dv.fr ⟨.tup ds, n, vo⟩, none⟩ R3 H3 e13 o3' (.of ?_) q3
      show RpD F H3 R3 _ _ (.tup (cutL ds lo hi))
      rw [cutL_all w]
      exact .tup ha la
    · obtain ⟨e, o, r⟩ := new_tup o3' hp (cut_rp la lo hi)
      exact k _ _ _ _ (e13.trans e) o (.of r) q3

/-! ### isinstance -/
def D.ty : D → Option String
  | .non => some "NoneType"
  | .bl _ => some "bool"
  | .int _ => some "int"
  | .str _ => some "str"
  | .lst _ => some "list"
  | .tup _ => some "tuple"
  | .dct _ => some "dict"
  | .strm => some "list"
  | .vee _ => none
def D.isa (T : String) (d : D) : Bool := match d with
  | .non => T == "NoneType"
  | .bl _ => T == "bool" || T == "int"
  | .int _ => T == "int"
  | .str _ => T == "str"
  | .lst _ => T == "list"
  | .tup _ => T == "tuple"
  | .dct _ => T == "dict"
  | .strm => T == "list"
  | .vee _ => false
def TyOk (T : String) : Prop := ∀ (d : D) s, d.ty = some s → kitB s T = some (d.isa T)
theorem tyOk_of {T : String} (h1 : kitB "NoneType" T = some (T == "NoneType")) (h2 : kitB "bool" T = some (T == "bool" || T == "int")) (h3 : kitB "int" T = some (T == "int")) (h4 : kitB "str" T = some (T == "str")) (h5 : kitB "list" T = some (T == "list")) (h6 : kitB "tuple" T = some (T == "tuple")) (h7 : kitB "dict" T = some (T == "dict")) : TyOk T := fun d s e => by
  cases d <;> first | (cases e; assumption) | (simp [D.ty] at e; done)
theorem ty_int : TyOk "int" := tyOk_of (by decide +kernel) (by decide +kernel) (by decide +kernel) (by decide +kernel) (by decide +kernel) (by decide +kernel) (by decide +kernel)
theorem ty_bool : TyOk "bool" := tyOk_of (by decide +kernel) (by decide +kernel) (by decide +kernel) (by decide +kernel) (by decide +kernel) (by decide +kernel) (by decide +kernel)
theorem ty_str : TyOk "str" := tyOk_of (by decide +kernel) (by decide +kernel) (by decide +kernel) (by decide +kernel) (by decide +kernel) (by decide +kernel) (by decide +kernel)
theorem ty_list : TyOk "list" := tyOk_of (by decide +kernel) (by decide +kernel) (by decide +kernel) (by decide +kernel) (by decide +kernel) (by decide +kernel) (by decide +kernel)
theorem ty_tuple : TyOk "tuple" := tyOk_of (by decide +kernel) (by decide +kernel) (by decide +kernel) (by decide +kernel) (by decide +kernel) (by decide +kernel) (by decide +kernel)
theorem ty_dict : TyOk "dict" := tyOk_of (by decide +kernel) (by decide +kernel) (by decide +kernel) (by decide +kernel) (by decide +kernel) (by decide +kernel) (by decide +kernel)
theorem rp_ty {F : Fx} {B : Nat} {H : Hp} {R : Reg} (I : HpOk F B R H) {n : Bool} {v : V} {d : D} (h : RpD F H R n v d) {s : String} (e : d.ty = some s) : TyX F.K H v (.type s) := by
  cases h with
  | non => cases e; exact .base .non
  | bl b => cases e; exact .base (.bl b)
  | int i => cases e; exact .base (.int i)
  | str x => cases e; exact .base (.str x)
  | lst h _ _ _ => cases e; exact .base (.lst h)
  | tup h _ =>
    cases e
    rcases h with (h | ⟨o, h⟩) | ⟨o, its, m, hk, hc, _⟩
    · exact .base (.tup h)
    · exact .fTuple h
    · exact .kTuple hk hc
  | dK h _ _ _ => cases e; exact .base (.dK h)
  | dT h _ _ _ => cases e; exact .base (.dT h)
  | strm h =>
    cases e
    obtain ⟨_, xs, c, m, t, h1, _⟩ := I.inv _ h
    exact .base (.lst h1)
  | vee v => cases e
def D.known (d : D) : Prop := ∃ s, d.ty = some s
theorem dcl_isi {T : String} (hT : TyOk T) : DCl X (.builtin "isinstance") (fun xs Q => match xs with
    | [x, y] => y.d = .vee (.ty T) ∧ (∃ s, x.d.ty = some s) ∧ Q ⟨.bl (x.d.isa T), true, none⟩
    | _ => False) :=
  ⟨_, call_isi, fun F B R H vs xs Q K hK I rs q k => by
    match xs, vs, rs, q with
    | [x, y], [v, u], .cons r1 (.cons r2 .nil), ⟨ey, ⟨s, es⟩, q⟩ =>
      have z2 := r2.1
      rw [ey] at z2
      cases z2
      exact ⟨v, .ty T, .type s, .type T, x.d.isa T, rfl, .ty T, hK ▸ rp_ty I r1.1 es, kit_ty (hT _ s es), k _ _ R H .refl I (.of (.bl _)) q⟩⟩
theorem de_ty {T : String} (hg : Gl X x) (hm : X.mg x = none) (hv : bootBuiltins x = some (.type T)) (hn : x ≠ "__name__" := by decide) (hd : (x == ("__debug__" : Str)) = false := by decide) : DE X E 0 (.Name x pos) (fun _ _ Q => Q ⟨.vee (.ty T), true, none⟩) :=
  ⟨_, pe_bltn (v := .ty T) hg hm hv rfl hn hd, fun F B R H σ ρ α XQ Q K _ _ _ S q k => k _ _ R H .refl S.hp (.of (.vee _)) q⟩
/-- isinstance(e, T) -/
theorem de_isi {T : String} {xi xT : Str} {p1 p2 : Pos} (hT : TyOk T) (ha : DE X E c a fa) (hg : Gl X xi) (hm : X.mg xi = none) (hv : bootBuiltins xi = some (.builtin "isinstance")) (hgT : Gl X xT) (hmT : X.mg xT = none) (hvT : bootBuiltins xT = some (.type T))
    (hn : xi ≠ "__name__" := by decide) (hdb : (xi == ("__debug__" : Str)) = false := by decide) (hn2 : xT ≠ "__name__" := by decide) (hd2 : (xT == ("__debug__" : Str)) = false := by decide)
    (he : starEach [a, .Name xT p2] X.env = (false, eval a X.env) :: starEach [.Name xT p2] X.env := by rfl) (he2 : starEach [.Name xT p2] X.env = (false, eval (.Name xT p2) X.env) :: starEach [] X.env := by rfl) (hpl : (backTo pos (starEach [.Name xT p2] X.env)).any (·.1) = false := by rfl) :
    DE X E c (.Call (.Name xi p1) [a, .Name xT p2] [] pos) (fun ρ XQ Q => fa ρ XQ fun x => (D.vee (.ty T) = D.vee (.ty T)) ∧ (∃ s, x.d.ty = some s) ∧ Q ⟨.bl (x.d.isa T), true, none⟩) :=
  de_callB (E := E) (dcl_isi hT) hg hm hv (da_cons ha (da_cons (de_ty hgT hmT hvT hn2 hd2) da_nil he2) he) hn hdb he hpl
/-- several written classes -/
def tTyL (Ts : List String) : TA := fun _ H Q => Q (Ts.map V.ty) H
theorem pa_tyNil : PA X [] (tTyL []) := pa_nil
theorem pa_tyCons {T : String} {Ts : List String} {tys : List Expr} (hg : Gl X x) (hm : X.mg x = none) (hv : bootBuiltins x = some (.type T)) (hr : PA X tys (tTyL Ts)) (hn : x ≠ "__name__" := by decide) (hd : (x == ("__debug__" : Str)) = false := by decide)
    (hs : starEach (.Name x pos :: tys) X.env = (false, eval (.Name x pos) X.env) :: starEach tys X.env := by rfl) : PA X (.Name x pos :: tys) (tTyL (T :: Ts)) := pa_cons (pe_bltn (v := .ty T) hg hm hv rfl hn hd) hr hs
theorem cls_tys : ∀ Ts : List String, Paired ClsV (Ts.map V.ty) (Ts.map Value.type)
  | [] => .nil
  | T :: Ts => .cons (.ty T) (cls_tys Ts)
theorem kit_tys {K : PySem.W.Frag} {d : D} {s : String} (es : d.ty = some s) : ∀ {Ts : List String}, (∀ T ∈ Ts, TyOk T) → PySem.W.kitAny K (.type s) (Ts.map Value.type) = some (Ts.any fun T => d.isa T)
  | [], _ => rfl
  | T :: Ts, h => by
    refine kitAny_cons (kit_ty (h T List.mem_cons_self d s es)) (fun e => ?_) (fun e => ?_)
    · rw [List.any_cons, e, Bool.false_or]
      exact kit_tys es fun T' hT' => h T' (List.mem_cons_of_mem _ hT')
    · rw [List.any_cons, e, Bool.true_or]
theorem de_isiT {Ts : List String} {xi : Str} {tys : List Expr} {p1 p2 : Pos} {k : Nat} (hT : ∀ T ∈ Ts, TyOk T) (ha : DE X E c a fa) (hp : PA X tys (tTyL Ts)) (hg : Gl X xi) (hm : X.mg xi = none) (hv : bootBuiltins xi = some (.builtin "isinstance")) (hl : Ts.length ≤ 1000 := by decide)
    (hn : xi ≠ "__name__" := by decide) (hdb : (xi == ("__debug__" : Str)) = false := by decide)
    (he : starEach [a, .Tuple tys k p2] X.env = (false, eval a X.env) :: starEach [.Tuple tys k p2] X.env := by rfl) (he2 : starEach [.Tuple tys k p2] X.env = (false, eval (.Tuple tys k p2) X.env) :: starEach [] X.env := by rfl) (hpl : (backTo pos (starEach [.Tuple tys k p2] X.env)).any (·.1) = false := by rfl) :
    DE X E c (.Call (.Name xi p1) [a, .Tuple tys k p2] [] pos) (fun ρ XQ Q => fa ρ XQ fun x => (∃ s, x.d.ty = some s) ∧ Q ⟨.bl (Ts.any fun T => x.d.isa T), true, none⟩) := by
  obtain ⟨ta, pa, sa⟩ := ha
  refine ⟨_, pe_callB call_isiT hg hm hv (pa_cons pa (pa_cons (pe_tup hp) pa_nil he2) he) hn hdb he hpl, fun F B R H σ ρ α XQ Q K hK hX hB S h k => ?_⟩
  refine sa F B R H σ ρ α XQ _ _ hK hX hB S h fun v x R1 H1 e1 o1 r1 ⟨⟨s, es⟩, q1⟩ => ?_
  refine ⟨le_line (by rw [List.length_map]; exact Nat.le_trans hl (by decide)), fun tp htp => ?_⟩
  have e2 : Ext F R1 H1 R1 (upd H1 tp (.tup (Ts.map V.ty))) := .new0 htp
  have o2 := o1.new0 htp (.tup (xs := Ts.map V.ty))
  exact ⟨v, tp, Ts.map V.ty, .type s, Ts.map Value.type, _, rfl, upd_same, cls_tys Ts, hK ▸ rp_ty o2 (r1.1.ext o1 e2) es, kit_tys es hT, k _ _ R1 _ (e1.trans e2) o2 (.of (.bl _)) q1⟩
end
end DL

set_option Elab.async false
set_option linter.all false
set_option maxRecDepth 100000
set_option maxHeartbeats 4000000
/-! DL, part e: statements, defs. -/
namespace DL
open PySem PySem.Spec PyProof.Rows L2

/-! ### frozen places stay -/
structure Fz (F : Fx) (R : Reg) (H : Hp) (R' : Reg) (H' : Hp) : Prop where
  reg : ∀ a, R a → R' a
  keep : ∀ a o, R a → H a = some o → NoTbl o → H' a = some o
  tup : ∀ a vs, SqT F.K H a vs → SqT F.K H' a vs
theorem Fz.refl {F : Fx} {R : Reg} {H : Hp} : Fz F R H R H := ⟨fun _ h => h, fun _ _ _ h _ => h, fun _ _ h => h⟩
theorem Fz.trans {F : Fx} {R R1 R2 : Reg} {H H1 H2 : Hp} (a : Fz F R H R1 H1) (b : Fz F R1 H1 R2 H2) : Fz F R H R2 H2 :=
  ⟨fun x h => b.reg x (a.reg x h), fun x o r h n => b.keep x o (a.reg x r) (a.keep x o r h n) n, fun x vs h => b.tup x vs (a.tup x vs h)⟩
theorem Ext.fz {F : Fx} {B : Nat} {R R' : Reg} {H H' : Hp} (I : HpOk F B R H) (e : Ext F R H R' H') : Fz F R H R' H' :=
  ⟨e.reg, fun a o r h n => e.keep a o (I.good a r).1 h n, fun _ _ h => sqT_keep I.inv e.keep h⟩
theorem Fz.mv {F : Fx} {R R' : Reg} {H H' : Hp} (e : Fz F R H R' H') {n n' : Bool} (h : n' = true → n = true) : Mv F R H F R' H' n n' :=
  ⟨rfl, fun _ z => z, fun a o r ha nt => ⟨e.reg a r, e.keep a o r ha nt⟩, e.tup, fun z => ⟨h z, fun _ _ _ _ q => q⟩⟩
theorem Rp.fz {F : Fx} {R R' : Reg} {H H' : Hp} {x : Dv} {v : V} (h : Rp F H R x v) (e : Fz F R H R' H') : Rp F H' R' x v := ⟨h.1.mv (e.mv fun z => z), h.2⟩
theorem RpL.fz {F : Fx} {R R' : Reg} {H H' : Hp} {n : Bool} {v : List V} {d : List D} (h : RpL F H R n v d) (e : Fz F R H R' H') : RpL F H' R' n v d := h.mv (e.mv fun z => z)

/-! ### own things read as values -/
/-- the slots in l are read as values from now on -/
def frz : List Nat → Ro → Ro
  | [], ρ => ρ
  | i :: l, ρ => frz l (match ρ[i]? with | some (.ow d n) => ρ.set i (.va ⟨d, n, none⟩) | _ => ρ)
theorem set_get {α : Type} {l : List α} {i : Nat} {x : α} {j : Nat} {y : α} (h : (l.set i x)[j]? = some y) : (j = i ∧ y = x) ∨ (j ≠ i ∧ l[j]? = some y) := by
  by_cases e : j = i
  · subst e
    rw [List.getElem?_set] at h
    split at h
    · split at h
      · exact .inl ⟨rfl, (Option.some.inj h).symm⟩
      · cases h
    · exact absurd rfl ‹_›
  · rw [List.getElem?_set_ne (Ne.symm e)] at h
    exact .inr ⟨e, h⟩
/-- one slot frozen -/
theorem StOk.frz1 {F : Fx} {B : Nat} {R : Reg} {H : Hp} {σ : L2.St} {ρ : Ro} {α : Nat → Addr} (S : StOk F B R H σ ρ α) {i : Nat} {d : D} {n : Bool} (h : ρ[i]? = some (.ow d n)) : StOk F B (R.add (α i)) H σ (ρ.set i (.va ⟨d, n, none⟩)) α := by
  obtain ⟨e, w⟩ := S.ow i d n h
  have m : ∀ m, Mv F R H F (R.add (α i)) H m m := fun m => ⟨rfl, fun _ z => z, fun _ _ r h _ => ⟨.inl r, h⟩, fun _ _ h => h, fun z => ⟨z, fun _ _ _ _ q => q⟩⟩
  refine ⟨S.hp.frz w, by rw [List.length_set]; exact S.len, fun j x hj => ?_, fun j d' n' hj => ?_, fun j k d1 n1 d2 n2 hj hk => ?_⟩
  · rcases set_get hj with ⟨rfl, rfl' ⟩ | ⟨ne, hj⟩
    · cases rfl'
      exact ⟨_, e, .of (Ow.rp w)⟩
    · obtain ⟨v, e1, r⟩ := S.va j x hj
      exact ⟨v, e1, r.1.mv (m _), r.2⟩
  · rcases set_get hj with ⟨rfl, z⟩ | ⟨ne, hj⟩
    · cases z
    · obtain ⟨e1, w1⟩ := S.ow j d' n' hj
      refine ⟨e1, fun z => z.elim w1.nr fun z => ne (S.dis j i _ _ _ _ hj h z), w1.nm, w1.n0, ?_⟩
      have q := w1.at_
      cases d' with
      | lst ds => obtain ⟨vs, a, b⟩ := q; exact ⟨vs, a, b.mv (m _)⟩
      | dct ds =>
        rcases q with ⟨vs, a, b⟩ | ⟨vs, a, b⟩
        · exact .inl ⟨vs, a, b.mv (m _)⟩
        · exact .inr ⟨vs, a, b.mv (m _)⟩
      | _ => exact q.elim
  · rcases set_get hj with ⟨rfl, z⟩ | ⟨ne, hj⟩
    · cases z
    · rcases set_get hk with ⟨rfl, z⟩ | ⟨ne2, hk⟩
      · cases z
      · exact S.dis j k _ _ _ _ hj hk
/-- fewer places are frozen again: those that were to begin with, and what is new -/
theorem StOk.back {F : Fx} {B B' : Nat} {R R1 R' : Reg} {H H' : Hp} {σ : L2.St} {ρ : Ro} {α : Nat → Addr} (S : StOk F B R H σ ρ α) (hR : ∀ a, R a → R1 a) (e : Ext F R1 H R' H') (o : HpOk F B' R' H') :
    StOk F B' (fun a => R' a ∧ (R a ∨ Nn H a)) H' σ ρ α ∧ Fz F R H (fun a => R' a ∧ (R a ∨ Nn H a)) H' := by
  have hz : Fz F R H (fun a => R' a ∧ (R a ∨ Nn H a)) H' := ⟨fun a r => ⟨e.reg a (hR a r), .inl r⟩, fun a u r h n => e.keep a u (S.hp.good a r).1 h n, fun _ _ h => sqT_keep S.hp.inv e.keep h⟩
  refine ⟨⟨⟨o.inv, fun a r => o.good a r.1, o.ent, o.ent2, fun a r => o.reg0 a r.1, o.tab, o.lim⟩, S.len, fun i x h => ?_, fun i d n h => ?_, S.dis⟩, hz⟩
  · obtain ⟨v, a, r⟩ := S.va i x h
    exact ⟨v, a, r.fz hz⟩
  · obtain ⟨a, w⟩ := S.ow i d n h
    obtain ⟨u, hu, nt⟩ := w.some
    refine ⟨a, ⟨fun z => z.2.elim w.nr fun z => z u hu nt, w.nm, w.n0, ?_⟩⟩
    have q := w.at_
    cases d with
    | lst ds => obtain ⟨vs, a, b⟩ := q; exact ⟨vs, e.keep _ _ w.nm a .lst, b.mv (hz.mv fun z => z)⟩
    | dct ds =>
      rcases q with ⟨vs, a, b⟩ | ⟨vs, a, b⟩
      · exact .inl ⟨vs, e.keep _ _ w.nm a .dK, b.mv (hz.mv fun z => z)⟩
      · exact .inr ⟨vs, e.keep _ _ w.nm a .dT, b.mv (hz.mv fun z => z)⟩
    | _ => exact q.elim
/-- several slots frozen -/
theorem StOk.frzs {F : Fx} {B : Nat} {H : Hp} {σ : L2.St} {α : Nat → Addr} : ∀ (l : List Nat) {R : Reg} {ρ : Ro}, StOk F B R H σ ρ α → ∃ R1, StOk F B R1 H σ (frz l ρ) α ∧ ∀ a, R a → R1 a
  | [], R, _, S => ⟨R, S, fun _ h => h⟩
  | i :: l, R, ρ, S => by
    unfold frz
    split
    · rename_i d n h
      obtain ⟨R1, S1, h1⟩ := StOk.frzs l (S.frz1 h)
      exact ⟨R1, S1, fun a r => h1 a (.inl r)⟩
    · exact StOk.frzs l S

section
variable {X : Cx} {E : XK} {c ca cb cc : Nat} {a b e : Expr} {es : List Expr} {fa fb fe : TD} {fs : TDs} {pos p : Pos} {x : Str}
/-- an expression evaluated while the slots in l are read: a scalar lets them be own again -/
theorem run_frz {l : List Nat} {t : TE} {F : Fx} {B : Nat} {R : Reg} {H : Hp} {σ : L2.St} {ρ : Ro} {α : Nat → Addr} {XQ : XQT} {Q : Dv → Ro → Prop} {K : VK}
    (s : ∀ F B R H σ ρ α XQ Q (K : VK), F.K = X.K → XLink F E XQ → B + c ≤ F.L → StOk F B R H σ ρ α → fa ρ XQ Q → (∀ v x R' H', Ext F R H R' H' → HpOk F (B + c) R' H' → Rp F H' R' x v → Q x → K v H') → t σ H K)
    (hK : F.K = X.K) (hX : XLink F E XQ) (hB : B + c ≤ F.L) (S : StOk F B R H σ ρ α) (h : fa (frz l ρ) XQ fun x => Q x (if x.d.sca = true then ρ else frz l ρ))
    (k : ∀ v x ρ' R' H', Fz F R H R' H' → StOk F (B + c) R' H' σ ρ' α → Rp F H' R' x v → Q x ρ' → K v H') : t σ H K := by
  obtain ⟨R1, S1, h1⟩ := S.frzs l
  refine s F B R1 H σ (frz l ρ) α XQ _ K hK hX hB S1 h fun v x R' H' e' o' r' q' => ?_
  by_cases hs : x.d.sca = true
  · rw [if_pos hs] at q'
    obtain ⟨S2, z⟩ := S.back h1 e' o'
    exact k v x ρ _ H' z S2 ⟨r'.1.sca hs, r'.2⟩ q'
  · rw [if_neg hs] at q'
    have z : Fz F R H R1 H := ⟨h1, fun _ _ _ h _ => h, fun _ _ h => h⟩
    exact k v x _ R' H' (z.trans (e'.fz S1.hp)) (S1.ext e' o') r' q'
theorem run_frzT {l : List Nat} {ft : TDt} {t : TT} {F : Fx} {B : Nat} {R : Reg} {H : Hp} {σ : L2.St} {ρ : Ro} {α : Nat → Addr} {XQ : XQT} {Q : Bool → Prop} {K : Bool → Hp → Prop}
    (s : ∀ F B R H σ ρ α XQ Q (K : Bool → Hp → Prop), F.K = X.K → XLink F E XQ → B + c ≤ F.L → StOk F B R H σ ρ α → ft ρ XQ Q → (∀ b R' H', Ext F R H R' H' → HpOk F (B + c) R' H' → Q b → K b H') → t σ H K)
    (hK : F.K = X.K) (hX : XLink F E XQ) (hB : B + c ≤ F.L) (S : StOk F B R H σ ρ α) (h : ft (frz l ρ) XQ Q)
    (k : ∀ b R' H', Fz F R H R' H' → StOk F (B + c) R' H' σ ρ α → Q b → K b H') : t σ H K := by
  obtain ⟨R1, S1, h1⟩ := S.frzs l
  refine s F B R1 H σ (frz l ρ) α XQ _ K hK hX hB S1 h fun b R' H' e' o' q' => ?_
  obtain ⟨S2, z⟩ := S.back h1 e' o'
  exact k b _ H' z S2 q'

/-! ### statements -/
structure DEnds where
  nx : Ro → Prop
  rt : Dv → Prop
  bk : Ro → Prop := fun _ => False
  ct : Ro → Prop := fun _ => False
abbrev TDS := DEnds → Ro → XQT → Prop
structure EndsOk (F : Fx) (B : Nat) (R : Reg) (H : Hp) (N : DEnds) (K : Ends) : Prop where
  nx : ∀ σ' H' ρ' R' α', Fz F R H R' H' → StOk F B R' H' σ' ρ' α' → N.nx ρ' → K.nx σ' H'
  rt : ∀ v x R' H', Fz F R H R' H' → HpOk F B R' H' → Rp F H' R' x v → N.rt x → K.rt v H'
  bk : ∀ σ' H' ρ' R' α', Fz F R H R' H' → StOk F B R' H' σ' ρ' α' → N.bk ρ' → K.bk σ' H'
  ct : ∀ σ' H' ρ' R' α', Fz F R H R' H' → StOk F B R' H' σ' ρ' α' → N.ct ρ' → K.ct σ' H'
theorem EndsOk.fz {F : Fx} {B : Nat} {R R1 : Reg} {H H1 : Hp} {N : DEnds} {K : Ends} (h : EndsOk F B R H N K) (z : Fz F R H R1 H1) : EndsOk F B R1 H1 N K :=
  ⟨fun σ' H' ρ' R' α' q => h.nx σ' H' ρ' R' α' (z.trans q), fun v x R' H' q => h.rt v x R' H' (z.trans q), fun σ' H' ρ' R' α' q => h.bk σ' H' ρ' R' α' (z.trans q), fun σ' H' ρ' R' α' q => h.ct σ' H' ρ' R' α' (z.trans q)⟩
theorem EndsOk.mono {F : Fx} {B B' : Nat} {R : Reg} {H : Hp} {N : DEnds} {K : Ends} (h : EndsOk F B' R H N K) (l : B ≤ B') : EndsOk F B R H N K :=
  ⟨fun σ' H' ρ' R' α' q S => h.nx σ' H' ρ' R' α' q (S.mono l), fun v x R' H' q o => h.rt v x R' H' q (o.mono l), fun σ' H' ρ' R' α' q S => h.bk σ' H' ρ' R' α' q (S.mono l), fun σ' H' ρ' R' α' q S => h.ct σ' H' ρ' R' α' q (S.mono l)⟩
def DS (X : Cx) (E : XK) (c : Nat) (st : Stmt) (g : TDS) : Prop := ∃ t : TS, PS X st t ∧ ∀ F B R H σ ρ α XQ N (K : Ends), F.K = X.K → XLink F E XQ → B + c ≤ F.L → StOk F B R H σ ρ α → g N ρ XQ → EndsOk F (B + c) R H N K → t K σ H
def DSs (X : Cx) (E : XK) (c : Nat) (st : List Stmt) (g : TDS) : Prop := ∃ t : TS, PSs X st t ∧ ∀ F B R H σ ρ α XQ N (K : Ends), F.K = X.K → XLink F E XQ → B + c ≤ F.L → StOk F B R H σ ρ α → g N ρ XQ → EndsOk F (B + c) R H N K → t K σ H

theorem dss_nil : DSs X E 0 [] (fun N ρ _ => N.nx ρ) := ⟨_, pss_nil, fun F B R H σ ρ α XQ N K _ _ _ S h k => k.nx σ H ρ R α .refl S h⟩
theorem dss_cons {st : Stmt} {rest : List Stmt} {g1 g2 : TDS} (h1 : DS X E ca st g1) (h2 : DSs X E cb rest g2) : DSs X E (ca + cb) (st :: rest) (fun N ρ XQ => g1 { N with nx := fun ρ' => g2 N ρ' XQ } ρ XQ) := by
  obtain ⟨t1, p1, s1⟩ := h1
  obtain ⟨t2, p2, s2⟩ := h2
  refine ⟨_, pss_cons p1 p2, fun F B R H σ ρ α XQ N K hK hX hB S h k => ?_⟩
  have k0 : EndsOk F (B + ca) R H N K := k.mono (by omega)
  refine s1 F B R H σ ρ α XQ _ _ hK hX (by omega) S h ⟨fun σ' H' ρ' R' α' z S' q => ?_, k0.rt, k0.bk, k0.ct⟩
  exact s2 F (B + ca) R' H' σ' ρ' α' XQ _ _ hK hX (by omega) S' q ((k.fz z).mono (by omega))
theorem dss_one {st : Stmt} {g : TDS} (h : DS X E c st g) : DSs X E c [st] g := by
  obtain ⟨t, p, s⟩ := h
  exact ⟨t, pss_one p, s⟩
theorem ds_pass : DS X E 0 (.Pass pos) (fun N ρ _ => N.nx ρ) := ⟨_, ps_pass, fun F B R H σ ρ α XQ N K _ _ _ S h k => k.nx σ H ρ R α .refl S h⟩
theorem ds_break : DS X E 0 (.Break pos) (fun N ρ _ => N.bk ρ) := ⟨_, ps_break, fun F B R H σ ρ α XQ N K _ _ _ S h k => k.bk σ H ρ R α .refl S h⟩
theorem ds_continue : DS X E 0 (.Continue pos) (fun N ρ _ => N.ct ρ) := ⟨_, ps_continue, fun F B R H σ ρ α XQ N K _ _ _ S h k => k.ct σ H ρ R α .refl S h⟩
theorem ds_ret (l : List Nat) (h : DE X E c e fe) : DS X E c (.Return (some e) pos) (fun N ρ XQ => fe (frz l ρ) XQ N.rt) := by
  obtain ⟨t, p, s⟩ := h
  refine ⟨_, ps_ret p, fun F B R H σ ρ α XQ N K hK hX hB S h k => ?_⟩
  obtain ⟨R1, S1, h1⟩ := S.frzs l
  refine s F B R1 H σ (frz l ρ) α XQ _ _ hK hX hB S1 h fun v x R' H' e' o' r' q' => ?_
  have z : Fz F R H R1 H := ⟨h1, fun _ _ _ h _ => h, fun _ _ h => h⟩
  exact k.rt v x R' H' (z.trans (e'.fz S1.hp)) o' r' q'
theorem ds_retN : DS X E 0 (.Return none pos) (fun N _ _ => N.rt ⟨.non, true, none⟩) := ⟨_, ps_retN, fun F B R H σ ρ α XQ N K _ _ _ S h k => k.rt .non _ R H .refl S.hp (.of .non) h⟩
theorem ds_if (l : List Nat) {tc : TDt} {as bs : List Stmt} {ga gb : TDS} (hc : DT X E cc e tc) (ha : DSs X E ca as ga) (hb : DSs X E cb bs gb) : DS X E (cc + (ca + cb)) (.If e as bs pos) (fun N ρ XQ => tc (frz l ρ) XQ fun b => if b = true then ga N ρ XQ else gb N ρ XQ) := by
  obtain ⟨t, p, s⟩ := hc
  obtain ⟨ta, pa, sa⟩ := ha
  obtain ⟨tb, pb, sb⟩ := hb
  refine ⟨_, ps_if p pa pb, fun F B R H σ ρ α XQ N K hK hX hB S h k => ?_⟩
  refine run_frzT (X := X) (E := E) (c := cc) s hK hX (by omega) S h fun b R' H' z S' q => ?_
  cases b with
  | true => exact sa F (B + cc) R' H' σ ρ α XQ N K hK hX (by omega) S' q ((k.fz z).mono (by omega))
  | false => exact sb F (B + cc) R' H' σ ρ α XQ N K hK hX (by omega) S' q ((k.fz z).mono (by omega))
theorem ds_expr (l : List Nat) (h : DE X E c e fe) (hs : swapsWith e none pos.line X.env = pure false := by rfl) : DS X E c (.Expr e pos) (fun N ρ XQ => fe (frz l ρ) XQ fun x => N.nx (if x.d.sca = true then ρ else frz l ρ)) := by
  obtain ⟨t, p, s⟩ := h
  refine ⟨_, ps_expr p hs, fun F B R H σ ρ α XQ N K hK hX hB S h k => ?_⟩
  exact run_frz (X := X) (E := E) (c := c) (Q := fun _ ρ' => N.nx ρ') s hK hX hB S h fun v x ρ' R' H' z S' _ q => k.nx σ H' ρ' R' α z S' q

/-! ### targets -/
abbrev TDG := Dv → Ro → (Ro → Prop) → Prop
abbrev TDGs := List Dv → Ro → (Ro → Prop) → Prop
/-- the slots in l alone may differ -/
def SetOnly (l : List Nat) (σ σ' : L2.St) : Prop := σ'.length = σ.length ∧ ∀ j, j ∉ l → σ'[j]? = σ[j]?
theorem SetOnly.refl {l : List Nat} {σ : L2.St} : SetOnly l σ σ := ⟨rfl, fun _ _ => rfl⟩
theorem SetOnly.trans {l k : List Nat} {σ σ1 σ2 : L2.St} (a : SetOnly l σ σ1) (b : SetOnly k σ1 σ2) : SetOnly (l ++ k) σ σ2 :=
  ⟨b.1.trans a.1, fun j h => (b.2 j fun z => h (List.mem_append_right _ z)).trans (a.2 j fun z => h (List.mem_append_left _ z))⟩
def DG (X : Cx) (l : List Nat) (tg : Expr) (g : TDG) : Prop := ∃ t : TG, PG X tg t ∧ ∀ F B R H σ ρ α v x Q (K : L2.St → Hp → Prop), F.K = X.K → StOk F B R H σ ρ α → Rp F H R x v → g x ρ Q → (∀ σ' ρ', StOk F B R H σ' ρ' α → SetOnly l σ σ' → Q ρ' → K σ' H) → t v σ H K
def DGs (X : Cx) (l : List Nat) (tgs : List Expr) (g : TDGs) : Prop := ∃ t : TGs, PGs X tgs t ∧ ∀ F B R H σ ρ α vs xs Q (K : L2.St → Hp → Prop), F.K = X.K → StOk F B R H σ ρ α → Paired (fun x v => Rp F H R x v) xs vs → g xs ρ Q → (∀ σ' ρ', StOk F B R H σ' ρ' α → SetOnly l σ σ' → Q ρ' → K σ' H) → t vs σ H K
theorem StOk.setva {F : Fx} {B : Nat} {R : Reg} {H : Hp} {σ : L2.St} {ρ : Ro} {α : Nat → Addr} (S : StOk F B R H σ ρ α) (i : Nat) {x : Dv} {v : V} (r : Rp F H R x v) : StOk F B R H (σ.set i (some v)) (ρ.set i (.va x)) α := by
  have len' : (σ.set i (some v)).length = (ρ.set i (.va x)).length := by rw [List.length_set, List.length_set]; exact S.len
  refine ⟨S.hp, len', fun j y hj => ?_, fun j d n hj => ?_, fun j k d1 n1 d2 n2 hj hk => ?_⟩
  · have hl : j < (ρ.set i (.va x)).length := (List.getElem?_eq_some_iff.mp hj).1
    rcases set_get hj with ⟨rfl, z⟩ | ⟨ne, hj⟩
    · cases z
      rw [List.length_set, ← S.len] at hl
      exact ⟨v, by rw [List.getElem?_set_self hl], r⟩
    · obtain ⟨u, e1, q⟩ := S.va j y hj
      exact ⟨u, by rw [List.getElem?_set_ne (Ne.symm ne)]; exact e1, q⟩
  · rcases set_get hj with ⟨rfl, z⟩ | ⟨ne, hj⟩
    · cases z
    · obtain ⟨e1, w⟩ := S.ow j d n hj
      exact ⟨by rw [List.getElem?_set_ne (Ne.symm ne)]; exact e1, w⟩
  · rcases set_get hj with ⟨rfl, z⟩ | ⟨ne, hj⟩
    · cases z
    · rcases set_get hk with ⟨rfl, z⟩ | ⟨ne2, hk⟩
      · cases z
      · exact S.dis j k _ _ _ _ hj hk
theorem dg_name {i : Nat} (h : PG X (.Name x pos) (gName i)) : DG X [i] (.Name x pos) (fun x ρ Q => Q (ρ.set i (.va x))) :=
  ⟨_, h, fun F B R H σ ρ α v x Q K _ S r q k => k _ _ (S.setva i r) ⟨List.length_set .., fun j hj => List.getElem?_set_ne (fun z => hj (by simp [z]))⟩ q⟩
theorem dgs_nil : DGs X [] [] (fun xs ρ Q => xs = [] ∧ Q ρ) := ⟨_, pgs_nil, fun F B R H σ ρ α vs xs Q K _ S r q k => by
  obtain ⟨rfl, q⟩ := q
  cases r
  exact ⟨rfl, k σ ρ S .refl q⟩⟩
theorem dgs_cons {l1 l2 : List Nat} {e : Expr} {es : List Expr} {g : TDG} {gs : TDGs} (h1 : DG X l1 e g) (h2 : DGs X l2 es gs) (hs : (assignEach (e :: es) X.env).map (·.2) = assign e X.env :: (assignEach es X.env).map (·.2) := by rfl) : DGs X (l1 ++ l2) (e :: es) (fun xs ρ Q => match xs with | x :: r => g x ρ fun ρ' => gs r ρ' Q | [] => False) := by
  obtain ⟨t1, p1, s1⟩ := h1
  obtain ⟨t2, p2, s2⟩ := h2
  refine ⟨_, pgs_cons p1 p2 hs, fun F B R H σ ρ α vs xs Q K hK S r q k => ?_⟩
  match xs, vs, r, q with
  | x :: xs, v :: vs, .cons r1 r2, q =>
    refine ⟨v, vs, rfl, s1 F B R H σ ρ α v x _ _ hK S r1 q fun σ' ρ' S' w q' => ?_⟩
    exact s2 F B R H σ' ρ' α vs xs Q K hK S' r2 q' fun σ2 ρ2 S2 w2 q2 => k σ2 ρ2 S2 (w.trans w2) q2
theorem PG.or {tg : Expr} {t u : TG} (h : PG X tg t) (k : PG X tg u) : PG X tg (fun v σ H Q => t v σ H Q ∨ u v σ H Q) :=
  ⟨fun pins s σ H v w Q I r q => q.elim (fun q => h.run pins s σ H v w Q I r q) fun q => k.run pins s σ H v w Q I r q⟩
theorem paired_of {F : Fx} {H : Hp} {R : Reg} {n : Bool} : ∀ {vs : List V} {ds : List D}, RpL F H R n vs ds → Paired (fun x v => Rp F H R x v) (ds.map fun d => ⟨d, n, none⟩) vs
  | _, _, .nil => .nil
  | _, _, .cons a t => .cons (.of a) (paired_of t)
/-- the items of a list or a tuple, n of them, to gs -/
def unp (n : Nat) (gs : TDGs) : TDG := fun x ρ Q => match x.d with
  | .tup ds => ds.length = n ∧ gs (ds.map fun d => ⟨d, x.fr, none⟩) ρ Q
  | .lst ds => ds.length = n ∧ gs (ds.map fun d => ⟨d, x.fr, none⟩) ρ Q
  | _ => False
theorem dg_tup {l : List Nat} {es : List Expr} {k n : Nat} {gs : TDGs} (hc : X.calm = true) (h : DGs X l es gs) (hn : (assignEach es X.env).length = n := by rfl) (hst : (assignEach es X.env).findIdx? (·.1) = none := by rfl) :
    DG X l (.Tuple es k pos) (unp n gs) := by
  obtain ⟨t, p, s⟩ := h
  refine ⟨_, PG.or (pg_tup hc p hn hst) (pg_unl hc p hn hst), fun F B R H σ ρ α v x Q K hK S r q k => ?_⟩
  obtain ⟨d, m, vo⟩ := x
  cases d <;> try exact q.elim
  case tup ds =>
    obtain ⟨a, vs, rfl, ha, la⟩ := r.tupL rfl
    exact .inl ⟨a, vs, rfl, hK ▸ ha, by rw [la.len]; exact q.1, s F B R H σ ρ α vs _ Q K hK S (paired_of la) q.2 k⟩
  case lst ds =>
    obtain ⟨a, vs, rfl, ha, la⟩ := r.lstL rfl
    exact .inr ⟨a, vs, rfl, .of ha, by rw [la.len]; exact q.1, s F B R H σ ρ α vs _ Q K hK S (paired_of la) q.2 k⟩
/-- target = e -/
theorem ds_asg (l : List Nat) {l2 : List Nat} {tg : Expr} {g : TDG} (he : DE X E c e fe) (hg : DG X l2 tg g) (ps : ∀ te t, PE X e te → PG X tg t → PS X (.Assign [tg] e pos) (tAsg te t)) : DS X E c (.Assign [tg] e pos) (fun N ρ XQ => fe (frz l ρ) XQ fun x => g x (if x.d.sca = true then ρ else frz l ρ) N.nx) := by
  obtain ⟨t, p, s⟩ := he
  obtain ⟨t2, p2, s2⟩ := hg
  refine ⟨_, ps t t2 p p2, fun F B R H σ ρ α XQ N K hK hX hB S h k => ?_⟩
  refine run_frz (X := X) (E := E) (c := c) (Q := fun x ρ' => g x ρ' N.nx) s hK hX hB S h fun v x ρ' R' H' z S' r q => ?_
  exact s2 F (B + c) R' H' σ ρ' α v x _ _ hK S' r q fun σ2 ρ2 S2 _ q2 => k.nx σ2 H' ρ2 R' α z S2 q2
/-- x = e, e a list or dict that is made here: x's own from now on -/
theorem ds_own (l : List Nat) {i : Nat} {tg : Expr} (he : DN X E c e fe) (hg : PG X tg (gName i)) (ps : ∀ te t, PE X e te → PG X tg t → PS X (.Assign [tg] e pos) (tAsg te t)) : DS X E c (.Assign [tg] e pos) (fun N ρ XQ => fe (frz l ρ) XQ fun x => N.nx ((frz l ρ).set i (.ow x.d x.n))) := by
  obtain ⟨t, p, s⟩ := he
  refine ⟨_, ps t _ p hg, fun F B R H σ ρ α XQ N K hK hX hB S h k => ?_⟩
  obtain ⟨R1, S1, h1⟩ := S.frzs l
  refine s F B R1 H σ (frz l ρ) α XQ _ _ hK hX hB S1 h fun a d n R' H' e' o' w hn q => ?_
  have z : Fz F R H R1 H := ⟨h1, fun _ _ _ h _ => h, fun _ _ h => h⟩
  have S2 := S1.ext e' o'
  have z2 := z.trans (e'.fz S1.hp)
  have ne : ∀ j d n, (frz l ρ)[j]? = some (.ow d n) → α j ≠ a := fun j d n hj z => by
    obtain ⟨o, ho, nt⟩ := (S1.ow j d n hj).2.some
    exact hn o (z ▸ ho) nt
  refine k.nx (σ.set i (some (.ref a))) H' ((frz l ρ).set i (.ow d n)) R' (fun j => if j = i then a else α j) z2 ⟨o', by rw [List.length_set, List.length_set]; exact S2.len, fun j y hj => ?_, fun j d' n' hj => ?_, fun j m d1 n1 d2 n2 hj hm e => ?_⟩ q
  · rcases set_get hj with ⟨rfl, z⟩ | ⟨nj, hj⟩
    · cases z
    · obtain ⟨u, e1, q⟩ := S2.va j y hj
      exact ⟨u, by rw [List.getElem?_set_ne (Ne.symm nj)]; exact e1, q⟩
  · have hl : j < ((frz l ρ).set i (.ow d n)).length := (List.getElem?_eq_some_iff.mp hj).1
    rcases set_get hj with ⟨ej, z⟩ | ⟨nj, hj'⟩
    · cases z
      rw [List.length_set, ← S1.len] at hl
      rw [ej] at hl ⊢
      rw [if_pos rfl]
      exact ⟨by rw [List.getElem?_set_self hl], w⟩
    · rw [if_neg nj]
      obtain ⟨e1, w1⟩ := S2.ow j d' n' hj'
      exact ⟨by rw [List.getElem?_set_ne (Ne.symm nj)]; exact e1, w1⟩
  · rcases set_get hj with ⟨ej, z⟩ | ⟨nj, hj'⟩
    · rcases set_get hm with ⟨em, _⟩ | ⟨nm, hm'⟩
      · rw [ej, em]
      · rw [if_pos ej, if_neg nm] at e
        exact absurd e.symm (ne m _ _ hm')
    · rcases set_get hm with ⟨em, _⟩ | ⟨nm, hm'⟩
      · rw [if_neg nj, if_pos em] at e
        exact absurd e (ne j _ _ hj')
      · rw [if_neg nj, if_neg nm] at e
        exact S2.dis j m _ _ _ _ hj' hm' e
end
end DL

set_option Elab.async false
set_option linter.all false
set_option maxRecDepth 100000
set_option maxHeartbeats 4000000
/-! DL, part f: what is walked, for, while, comprehensions. -/
namespace DL
open PySem PySem.Spec PyProof.Rows L2

/-- an iterator that yields xs, whatever happens to what is not frozen -/
def Walks (F : Fx) (R : Reg) (H : Hp) (J : It) (xs : List Dv) : Prop := ∀ (i : Nat) B R' H', Fz F R H R' H' → HpOk F B R' H' → (i = xs.length → J.stop i H') ∧
  ∀ x, xs[i]? = some x → J.go i H' ∧ ∀ v H'', J.yld i H' v H'' → ∃ R'', Ext F R' H' R'' H'' ∧ HpOk F B R'' H'' ∧ Rp F H'' R'' x v
theorem Walks.fz {F : Fx} {R R1 : Reg} {H H1 : Hp} {J : It} {xs : List Dv} (w : Walks F R H J xs) (z : Fz F R H R1 H1) : Walks F R1 H1 J xs := fun i B R' H' q o => w i B R' H' (z.trans q) o
def DI (X : Cx) (E : XK) (c : Nat) (tg iter : Expr) (f : TDs) : Prop := ∃ wi : TI, PI X tg iter wi ∧ ∀ F B R H σ ρ α XQ Q (K : It → Hp → Prop), F.K = X.K → XLink F E XQ → B + c ≤ F.L → StOk F B R H σ ρ α → f ρ XQ Q →
  (∀ J xs R' H', Ext F R H R' H' → HpOk F (B + c) R' H' → Q xs → Walks F R' H' J xs → K J H') → wi σ H K

def forGo (gt : TDG) (gb : TDS) (N : DEnds) (XQ : XQT) : List Dv → Ro → Prop
  | [], ρ => N.nx ρ
  | x :: xs, ρ => gt x ρ fun ρ' => gb { N with nx := forGo gt gb N XQ xs, ct := forGo gt gb N XQ xs, bk := N.nx } ρ' XQ
section
variable {X : Cx} {E : XK} {c ca cb cc ci : Nat} {a b e tg iter : Expr} {es : List Expr} {fa fb fe : TD} {fi : TDs} {fs : TDs} {pos p : Pos} {x : Str}
theorem ds_for (l : List Nat) {l2 : List Nat} {body : List Stmt} {gt : TDG} {gb : TDS} (hp : PassesOwn (model X.prog X.w) X.A X.env X.xe) (hc : X.calm = true) (hi : DI X E ci tg iter fi) (hg : DG X l2 tg gt) (hb : DSs X E cb body gb)
    (hs : ∀ x, foldedSetIterable iter X.env x = pure x := by intro _; rfl) :
    DS X E (ci + BIG * cb) (.For tg iter body [] pos) (fun N ρ XQ => fi (frz l ρ) XQ fun xs => (cb = 0 ∨ xs.length ≤ BIG) ∧ forGo gt gb N XQ xs (frz l ρ)) := by
  obtain ⟨wi, pi, si⟩ := hi
  obtain ⟨tt, pt, st⟩ := hg
  obtain ⟨tb, pb, sb⟩ := hb
  refine ⟨_, ps_for hp hc pi pt pb hs, fun F B R H σ ρ α XQ N K hK hX hB S h k => ?_⟩
  obtain ⟨R1, S1, h1⟩ := S.frzs l
  have z1 : Fz F R H R1 H := ⟨h1, fun _ _ _ h _ => h, fun _ _ h => h⟩
  refine si F B R1 H σ (frz l ρ) α XQ _ _ hK hX (by omega) S1 h fun J xs R2 H2 e2 o2 ⟨hz, q⟩ w => ?_
  have z2 := z1.trans (e2.fz S1.hp)
  have le : ∀ i, i ≤ xs.length → i * cb ≤ BIG * cb := fun i hi => by
    rcases hz with hz | hz
    · rw [hz]; simp
    · exact Nat.mul_le_mul_right _ (Nat.le_trans hi hz)
  refine ⟨fun i m σ' H' => m = xs.length - i ∧ i ≤ xs.length ∧ ∃ R' ρ' α', Fz F R2 H2 R' H' ∧ StOk F (B + ci + i * cb) R' H' σ' ρ' α' ∧ forGo gt gb N XQ (xs.drop i) ρ', ⟨_, rfl, Nat.zero_le _, R2, frz l ρ, α, .refl, by simpa using S1.ext e2 o2, by simpa using q⟩, ?_⟩
  rintro i m σ' H' ⟨rfl, hi, R', ρ', α', z, S', q⟩
  by_cases hlt : i < xs.length
  · refine .inr ?_
    have hx : xs[i]? = some xs[i] := by simp [hlt]
    obtain ⟨go, yl⟩ := (w i _ R' H' z S'.hp).2 _ hx
    rw [List.drop_eq_getElem_cons hlt] at q
    refine ⟨go, fun σ2 H2' => ∃ R'' ρ'' α'', Fz F R2 H2 R'' H2' ∧ StOk F (B + ci + (i + 1) * cb) R'' H2' σ2 ρ'' α'' ∧ forGo gt gb N XQ (xs.drop (i + 1)) ρ'', fun σ2 H2' q2 => ⟨_, by omega, rfl, hlt, q2⟩, fun v H'' y => ?_⟩
    obtain ⟨R'', ex, ox, rx⟩ := yl v H'' y
    have z3 := z.trans (ex.fz S'.hp)
    refine st F _ R'' H'' σ' ρ' α' v _ _ _ hK (S'.ext ex ox) rx q fun σ3 ρ3 S3 _ q3 => ?_
    have e1 : B + ci + (i + 1) * cb = B + ci + i * cb + cb := by rw [Nat.add_mul, Nat.one_mul]; omega
    have e3 : B + ci + (i + 1) * cb ≤ B + (ci + BIG * cb) := by have := le (i + 1) hlt; omega
    have kk : EndsOk F (B + ci + i * cb + cb) R'' H'' N K := (k.fz (z2.trans z3)).mono (by omega)
    refine sb F _ R'' H'' σ3 ρ3 α' XQ _ _ hK hX (by omega) S3 q3 ⟨fun σ4 H4 ρ4 R4 α4 z4 S4 q4 => ⟨R4, ρ4, α4, z3.trans z4, by rw [e1]; exact S4, q4⟩, kk.rt, kk.nx, fun σ4 H4 ρ4 R4 α4 z4 S4 q4 => ⟨R4, ρ4, α4, z3.trans z4, by rw [e1]; exact S4, q4⟩⟩
  · have hl : i = xs.length := by omega
    refine .inl ⟨(w i _ R' H' z S'.hp).1 hl, ?_⟩
    rw [hl, List.drop_length] at q
    exact k.nx σ' H' ρ' R' α' (z2.trans z) (S'.mono (by have := le i hi; omega)) q

/-- while: at most n turns -/
def whN (tc : TDt) (gb : TDS) (l : List Nat) (N : DEnds) (XQ : XQT) : Nat → Ro → Prop
  | 0, _ => False
  | n + 1, ρ => tc (frz l ρ) XQ fun b => if b = true then gb { N with nx := whN tc gb l N XQ n, ct := whN tc gb l N XQ n, bk := N.nx } ρ XQ else N.nx ρ
theorem ds_while (l : List Nat) {body : List Stmt} {tc : TDt} {gb : TDS} (hp : PassesOwn (model X.prog X.w) X.A X.env X.xe) (hc : DT X E 0 e tc) (hb : DSs X E 0 body gb) : DS X E 0 (.While e body [] pos) (fun N ρ XQ => ∃ n, whN tc gb l N XQ n ρ) := by
  obtain ⟨t, pt, st⟩ := hc
  obtain ⟨tb, pb, sb⟩ := hb
  refine ⟨_, ps_while hp pt pb, fun F B R H σ ρ α XQ N K hK hX hB S ⟨n, h⟩ k => ?_⟩
  refine ⟨fun m σ' H' => ∃ R' ρ' α', Fz F R H R' H' ∧ StOk F B R' H' σ' ρ' α' ∧ whN tc gb l N XQ m ρ', ⟨n, R, ρ, α, .refl, S, h⟩, ?_⟩
  rintro m σ' H' ⟨R', ρ', α', z, S', q⟩
  cases m with
  | zero => exact q.elim
  | succ m =>
    refine run_frzT (X := X) (E := E) (c := 0) st hK hX hB S' q fun b R2 H2 z2 S2 q2 => ?_
    cases b with
    | true =>
      refine ⟨fun σ3 H3 => ∃ R3 ρ3 α3, Fz F R H R3 H3 ∧ StOk F B R3 H3 σ3 ρ3 α3 ∧ whN tc gb l N XQ m ρ3, fun σ3 H3 q3 => ⟨m, Nat.lt_succ_self m, q3⟩, ?_⟩
      have kk : EndsOk F B R2 H2 N K := k.fz (z.trans z2)
      exact sb F B R2 H2 σ' ρ' α' XQ _ _ hK hX hB S2 q2 ⟨fun σ4 H4 ρ4 R4 α4 z4 S4 q4 => ⟨R4, ρ4, α4, (z.trans z2).trans z4, S4, q4⟩, kk.rt, kk.nx, fun σ4 H4 ρ4 R4 α4 z4 S4 q4 => ⟨R4, ρ4, α4, (z.trans z2).trans z4, S4, q4⟩⟩
    | false => exact k.nx σ' H2 ρ' R2 α' (z.trans z2) S2 q2

/-! ### what is walked -/
theorem walks_list {F : Fx} {R : Reg} {H : Hp} {K : PySem.W.Frag} {a : Addr} {n : Bool} {vs : List V} {ds : List D} (ha : H a = some (.lst vs)) (hr : R a) (l : RpL F H R n vs ds) : Walks F R H (Itl K a) (ds.map fun d => ⟨d, n, none⟩) := fun i B R' H' z o => by
  have ha' := z.keep a _ hr ha .lst
  have l' := l.fz z
  refine ⟨fun hl => ⟨vs, .of ha', by rw [hl, List.length_map, l.len]; exact Nat.le_refl _⟩, fun x hx => ?_⟩
  rw [List.getElem?_map] at hx
  cases hd : ds[i]? with
  | none => rw [hd] at hx; cases hx
  | some d =>
    rw [hd] at hx
    cases hx
    obtain ⟨v, hv, r⟩ := l'.get hd
    refine ⟨⟨vs, v, .of ha', hv⟩, fun u H'' ⟨e, y⟩ => ?_⟩
    subst e
    rw [y vs (.of ha')] at hv
    cases hv
    exact ⟨R', .refl, o, .of r⟩
theorem walks_tup {F : Fx} {R : Reg} {H : Hp} {a : Addr} {n : Bool} {vs : List V} {ds : List D} (ha : SqT F.K H a vs) (l : RpL F H R n vs ds) : Walks F R H (Itt F.K a) (ds.map fun d => ⟨d, n, none⟩) := fun i B R' H' z o => by
  have ha' := z.tup a _ ha
  have l' := l.fz z
  refine ⟨fun hl => ⟨vs, ha', by rw [hl, List.length_map, l.len]; exact Nat.le_refl _⟩, fun x hx => ?_⟩
  rw [List.getElem?_map] at hx
  cases hd : ds[i]? with
  | none => rw [hd] at hx; cases hx
  | some d =>
    rw [hd] at hx
    cases hx
    obtain ⟨v, hv, r⟩ := l'.get hd
    refine ⟨⟨vs, v, ha', hv⟩, fun u H'' ⟨e, y⟩ => ?_⟩
    subst e
    rw [y vs ha'] at hv
    cases hv
    exact ⟨R', .refl, o, .of r⟩
/-- over a list or a tuple -/
def iSeq (K : PySem.W.Frag) (tl : TE) : TI := fun σ H R => tl σ H fun x H1 => ∃ a, x = .ref a ∧ ((∃ xs, SqL K H1 a xs ∧ R (Itl K a) H1) ∨ ∃ xs, SqT K H1 a xs ∧ R (Itt K a) H1)
theorem pi_seq {tl : TE} (hl : PE X e tl) : PI X tg e (iSeq X.K tl) := by
  refine ⟨fun pins st σ H Rr In hw => thn (hl.run pins st σ H _ In hw) fun u st1 ⟨y, Hn, Jn, ry, a, ey, q⟩ => ?_⟩
  subst ey
  cases ry
  have newRec : ∀ (n : String) (dt : Data), Inv X pins σ Hn { st1 with heap := st1.heap.push { cls := .type n, data := dt } } := fun n dt => Jn.kept (t' := st1.toks) fun _ _ z => Heap.get?_push_of_some _ z
  have newOk : ∀ b ∈ [st1.heap.objs.size], FpOk X pins Hn b := fun b hb => by
    rw [List.mem_singleton.mp hb]
    exact Jn.fpOk (Nat.le_refl _) (Jn.hok.fresh (Nat.le_refl _))
  rcases q with ⟨xs, hq, q⟩ | ⟨xs, hq, q⟩
  · obtain ⟨its, _, pl, _⟩ := Jn.list hq
    exact wpAny_pyIter_list pl.isList ⟨st1.heap.objs.size, [st1.heap.objs.size], _, _, Hn, rfl, newRec _ _, turn_list a _, ⟨_, Heap.get?_push_size _ rfl, rfl, rfl⟩, newOk, q⟩
  · obtain ⟨its, _, pt, _⟩ := Jn.tuple hq
    exact wpAny_pyIter_tuple (show st1.heap.IsTuple a its.toArray from pt) ⟨st1.heap.objs.size, [st1.heap.objs.size], _, _, Hn, rfl, newRec _ _, turn_tuple a _, ⟨_, Heap.get?_push_size _ rfl, rfl, rfl⟩, newOk, q⟩
/-- the items of a list or a tuple -/
def items (x : Dv) (Q : List Dv → Prop) : Prop := match x.d with
  | .lst ds => Q (ds.map fun d => ⟨d, x.fr, none⟩)
  | .tup ds => Q (ds.map fun d => ⟨d, x.fr, none⟩)
  | _ => False
theorem Rp.lstR {F : Fx} {R : Reg} {H : Hp} {x : Dv} {v : V} {ds : List D} (h : Rp F H R x v) (e : x.d = .lst ds) : ∃ a vs, v = .ref a ∧ H a = some (.lst vs) ∧ R a ∧ RpL F H R x.fr vs ds := by
  have r := h.fr
  rw [e] at r
  cases r with
  | lst h1 h2 _ t => exact ⟨_, _, rfl, h1, h2, t⟩
theorem di_seq (he : DE X E c e fe) : DI X E c tg e (fun ρ XQ Q => fe ρ XQ fun x => items x Q) := by
  obtain ⟨t, p, s⟩ := he
  refine ⟨_, pi_seq p, fun F B R H σ ρ α XQ Q K hK hX hB S h k => ?_⟩
  refine s F B R H σ ρ α XQ _ _ hK hX hB S h fun v x R' H' e' o' r' q' => ?_
  unfold items at q'
  obtain ⟨d, n, vo⟩ := x
  cases d <;> try exact q'.elim
  case lst ds =>
    obtain ⟨a, vs, rfl, ha, hr, la⟩ := r'.lstR rfl
    exact ⟨a, rfl, .inl ⟨vs, .of ha, k _ _ R' H' e' o' q' (walks_list ha hr la)⟩⟩
  case tup ds =>
    obtain ⟨a, vs, rfl, ha, la⟩ := r'.tupL rfl
    exact ⟨a, rfl, .inr ⟨vs, hK ▸ ha, hK ▸ k _ _ R' H' e' o' q' (walks_tup ha la)⟩⟩
/-- lo, lo + 1, .. : n ints -/
def rgD (lo : Int) (n : Nat) : List Dv := (List.range n).map fun i => ⟨.int (lo + (i : Nat)), true, none⟩
theorem walks_range {F : Fx} {R : Reg} {H : Hp} {lo : Int} {n : Nat} : Walks F R H (Itr lo n) (rgD lo n) := fun i B R' H' z o => by
  unfold rgD
  refine ⟨fun hl => by rw [hl, List.length_map, List.length_range]; exact Nat.le_refl _, fun x hx => ?_⟩
  rw [List.getElem?_map] at hx
  by_cases hi : i < n
  · rw [List.getElem?_range hi] at hx
    cases hx
    refine ⟨hi, fun u H'' ⟨e1, e2⟩ => ?_⟩
    subst e1 e2
    exact ⟨R', .refl, o, .of (.int _)⟩
  · rw [List.getElem?_eq_none (by rw [List.length_range]; omega)] at hx
    cases hx
theorem di_range1 {p2 : Pos} (hg : Gl X "range") (hm : X.mg "range" = none) (ha : DA X E c [a] fs) (hs : starEach [a] X.env = [(false, eval a X.env)] := by rfl) :
    DI X E c tg (.Call (.Name "range" p) [a] [] p2) (fun ρ XQ Q => fs ρ XQ fun xs => match xs with | [x] => (match x.d with | .int j => -(2 ^ 62) ≤ j ∧ j < 2 ^ 62 ∧ Q (rgD 0 j.toNat) | _ => False) | _ => False) := by
  obtain ⟨t, pt, s⟩ := ha
  refine ⟨_, pi_range1 hg hm pt hs, fun F B R H σ ρ α XQ Q K hK hX hB S h k => ?_⟩
  refine s F B R H σ ρ α XQ _ _ hK hX hB S h fun vs xs R' H' e' o' r' q' => ?_
  match xs, vs, r', q' with
  | [⟨d, n, vo⟩], [v], .cons r1 .nil, q' =>
    cases d <;> try exact q'.elim
    have r2 := r1.1
    cases r2
    exact ⟨_, rfl, q'.1, q'.2.1, k _ _ R' H' e' o' q'.2.2 walks_range⟩
theorem di_range2 {p2 : Pos} (hg : Gl X "range") (hm : X.mg "range" = none) (ha : DA X E c [a, b] fs) (hs : starEach [a, b] X.env = [(false, eval a X.env), (false, eval b X.env)] := by rfl) (hs2 : starEach [b] X.env = [(false, eval b X.env)] := by rfl) :
    DI X E c tg (.Call (.Name "range" p) [a, b] [] p2) (fun ρ XQ Q => fs ρ XQ fun xs => match xs with | [x, y] => (match x.d, y.d with | .int i, .int j => (-(2 ^ 62) ≤ i ∧ i < 2 ^ 62 ∧ -(2 ^ 62) ≤ j ∧ j < 2 ^ 62) ∧ Q (rgD i (j - i).toNat) | _, _ => False) | _ => False) := by
  obtain ⟨t, pt, s⟩ := ha
  refine ⟨_, pi_range2 hg hm pt hs hs2, fun F B R H σ ρ α XQ Q K hK hX hB S h k => ?_⟩
  refine s F B R H σ ρ α XQ _ _ hK hX hB S h fun vs xs R' H' e' o' r' q' => ?_
  match xs, vs, r', q' with
  | [⟨d, n, vo⟩, ⟨d2, n2, vo2⟩], [v, u], .cons r1 (.cons r2 .nil), q' =>
    cases d <;> cases d2 <;> try exact q'.elim
    have z1 := r1.1
    have z2 := r2.1
    cases z1; cases z2
    exact ⟨_, _, rfl, q'.1, k _ _ R' H' e' o' q'.2 walks_range⟩
end
end DL

set_option Elab.async false
set_option linter.all false
set_option maxRecDepth 100000
set_option maxHeartbeats 4000000
/-! DL, part g: list comprehensions. -/
namespace DL
open PySem PySem.Spec PyProof.Rows L2

/-- the tests of a comprehension -/
def DTs (X : Cx) (E : XK) (c : Nat) (es : List Expr) (f : TDt) : Prop := ∃ t : TT, PTs X es t ∧ ∀ F B R H σ ρ α XQ Q (K : Bool → Hp → Prop), F.K = X.K → XLink F E XQ → B + c ≤ F.L → StOk F B R H σ ρ α → f ρ XQ Q →
  (∀ b R' H', Ext F R H R' H' → HpOk F (B + c) R' H' → Q b → K b H') → t σ H K
/-- nothing is raised -/
abbrev XQ0 : XQT := fun _ _ _ => False
theorem xlink0 {F : Fx} {E : XK} : XLink F E XQ0 := ⟨fun _ _ h => h.elim, fun _ _ _ _ _ h => h.elim⟩
/-- slots forgotten -/
def wipeR (ρ : Ro) : List Nat → Ro
  | [] => ρ
  | v :: vs => (wipeR ρ vs).set v .un
theorem wipeR_len (ρ : Ro) : ∀ vs, (wipeR ρ vs).length = ρ.length
  | [] => rfl
  | v :: vs => by unfold wipeR; rw [List.length_set, wipeR_len ρ vs]
theorem wipeR_get {ρ : Ro} {i : Nat} {x : Sl} (hx : x ≠ .un) : ∀ {vs : List Nat}, (wipeR ρ vs)[i]? = some x → ρ[i]? = some x ∧ i ∉ vs
  | [], h => ⟨h, by simp⟩
  | v :: vs, h => by
    unfold wipeR at h
    rcases set_get h with ⟨_, z⟩ | ⟨ne, h⟩
    · exact absurd z hx
    · obtain ⟨a, b⟩ := wipeR_get hx h
      exact ⟨a, fun z => (List.mem_cons.mp z).elim ne b⟩
theorem wipe_get {σ : L2.St} {i : Nat} : ∀ {vs : List Nat}, i ∉ vs → (wipe σ vs)[i]? = σ[i]?
  | [], _ => rfl
  | v :: vs, h => by
    show ((wipe σ vs).set v none)[i]? = _
    rw [List.getElem?_set_ne (fun z => h (by simp [z])), wipe_get fun z => h (List.mem_cons_of_mem _ z)]
theorem wipe_in {σ : L2.St} {i : Nat} : ∀ {vs : List Nat}, i ∈ vs → (wipe σ vs)[i]? = if i < σ.length then some none else none
  | [], h => by cases h
  | v :: vs, h => by
    show ((wipe σ vs).set v none)[i]? = _
    by_cases e : i = v
    · rw [e, List.getElem?_set]
      rw [if_pos rfl]
      simp [L2.wipe_length]
    · rw [List.getElem?_set_ne (Ne.symm e)]
      exact wipe_in ((List.mem_cons.mp h).resolve_left e)
theorem wipe_eq {σ σ' : L2.St} {l vs : List Nat} (h : SetOnly l σ σ') (hl : ∀ i ∈ l, i ∈ vs) : wipe σ' vs = wipe σ vs := by
  apply List.ext_getElem?
  intro i
  by_cases hi : i ∈ vs
  · rw [wipe_in hi, wipe_in hi, h.1]
  · rw [wipe_get hi, wipe_get hi]
    exact h.2 i fun z => hi (hl i z)
theorem wipe_wipe (σ : L2.St) (vs : List Nat) : wipe (wipe σ vs) vs = wipe σ vs := by
  apply List.ext_getElem?
  intro i
  by_cases hi : i ∈ vs
  · rw [wipe_in hi, wipe_in hi, L2.wipe_length]
  · rw [wipe_get hi]
theorem StOk.wipe {F : Fx} {B : Nat} {R : Reg} {H : Hp} {σ : L2.St} {ρ : Ro} {α : Nat → Addr} (S : StOk F B R H σ ρ α) (vs : List Nat) : StOk F B R H (wipe σ vs) (wipeR ρ vs) α :=
  ⟨S.hp, by rw [L2.wipe_length, wipeR_len]; exact S.len, fun i x h => by
    obtain ⟨a, b⟩ := wipeR_get (fun z => by cases z) h
    obtain ⟨v, e, r⟩ := S.va i x a
    exact ⟨v, by rw [wipe_get b]; exact e, r⟩, fun i d n h => by
    obtain ⟨a, b⟩ := wipeR_get (fun z => by cases z) h
    obtain ⟨e, r⟩ := S.ow i d n a
    exact ⟨by rw [wipe_get b]; exact e, r⟩, fun i j d n d' n' h k => S.dis i j d n d' n' (wipeR_get (fun z => by cases z) h).1 (wipeR_get (fun z => by cases z) k).1⟩

/-- an object that is not frozen is put -/
theorem HpOk.put {F : Fx} {B : Nat} {R : Reg} {H : Hp} {a : Addr} {o : HO} (I : HpOk F B R H) (nr : ¬ R a) (nm : ¬ F.mx a) (n0 : Nn F.H0 a) {u0 : HO} (hu : H a = some u0) (pu : Plain u0) : HpOk F B R (upd H a o) :=
  ⟨inv_upd I.inv nm, fun b r => by
    have ne : b ≠ a := fun z => nr (z ▸ r)
    rw [upd_ne ne]
    exact I.good b r, fun b u m e t => by rw [upd_ne (ne_of_nn e t n0)]; exact I.ent b u m e t, fun b e => by
    by_cases z : b = a
    · rw [z]; exact n0
    · exact I.ent2 b fun u q => e u (by rw [upd_ne z]; exact q), I.reg0, tab_put I.tab hu pu, I.lim⟩
theorem Fz.put {F : Fx} {R : Reg} {H : Hp} {a : Addr} {o u : HO} (nr : ¬ R a) (h : H a = some u) (nt : ∀ xs, u ≠ .tup xs) (nf : ∀ ob w, u ≠ .frz ob w) : Fz F R H R (upd H a o) :=
  ⟨fun _ r => r, fun b w r e _ => by rw [upd_ne (fun z : b = a => nr (z ▸ r))]; exact e, fun b vs q => by
    have ne : ∀ w, H b = some w → ((∃ xs, w = .tup xs) ∨ ∃ ob x, w = .frz ob x) → b ≠ a := fun w e k z => by
      subst z
      rw [h] at e
      cases e
      rcases k with ⟨xs, k⟩ | ⟨ob, x, k⟩
      · exact nt xs k
      · exact nf ob x k
    rcases q with (q | ⟨ob, q⟩) | q
    · exact .inl (.inl (by rw [upd_ne (ne _ q (.inl ⟨_, rfl⟩))]; exact q))
    · exact .inl (.inr ⟨ob, by rw [upd_ne (ne _ q (.inr ⟨_, _, rfl⟩))]; exact q⟩)
    · exact .inr q⟩

/-- what a comprehension makes -/
def lcGo (gt : TDG) (ft : TDt) (fe : TD) (ρw : Ro) (Q : Dv → Prop) : List Dv → List D → Bool → Prop
  | [], acc, n => Q ⟨.lst acc, n, none⟩
  | x :: xs, acc, n => gt x ρw fun ρ2 => ft ρ2 XQ0 fun b => if b = true then fe ρ2 XQ0 fun y => lcGo gt ft fe ρw Q xs (acc ++ [y.d]) (n && y.fr) else lcGo gt ft fe ρw Q xs acc n
section
variable {X : Cx} {E : XK} {c ca cb cc ci ct ce : Nat} {a b e tg iter elt : Expr} {es : List Expr} {fa fb fe : TD} {fi : TDs} {fs : TDs} {ft : TDt} {pos p : Pos} {x : Str}
theorem dts_nil : DTs X E 0 [] (fun _ _ Q => Q true) := ⟨_, pts_nil, fun F B R H σ ρ α XQ Q K _ _ _ S h k => k true R H .refl S.hp h⟩
theorem dts_one (h : DT X E c e ft) : DTs X E c [e] ft := by
  obtain ⟨t, p, s⟩ := h
  exact ⟨t, pts_one p, s⟩
theorem dn_lc_of {own : List (Str × Nat)} {l : List Nat} {gt : TDG} {wi : TI} {g : TG} {tt : TT} {te : TE}
    (si : ∀ F B R H σ ρ α XQ Q (K : It → Hp → Prop), F.K = X.K → XLink F E XQ → B + ci ≤ F.L → StOk F B R H σ ρ α → fi ρ XQ Q → (∀ J xs R' H', Ext F R H R' H' → HpOk F (B + ci) R' H' → Q xs → Walks F R' H' J xs → K J H') → wi σ H K)
    (sg : ∀ F B R H σ ρ α v x Q (K : L2.St → Hp → Prop), F.K = X.K → StOk F B R H σ ρ α → Rp F H R x v → gt x ρ Q → (∀ σ' ρ', StOk F B R H σ' ρ' α → SetOnly l σ σ' → Q ρ' → K σ' H) → g v σ H K)
    (st : ∀ F B R H σ ρ α XQ Q (K : Bool → Hp → Prop), F.K = X.K → XLink F E0 XQ → B + ct ≤ F.L → StOk F B R H σ ρ α → ft ρ XQ Q → (∀ b R' H', Ext F R H R' H' → HpOk F (B + ct) R' H' → Q b → K b H') → tt σ H K)
    (se : ∀ F B R H σ ρ α XQ Q (K : VK), F.K = X.K → XLink F E0 XQ → B + ce ≤ F.L → StOk F B R H σ ρ α → fe ρ XQ Q → (∀ v x R' H', Ext F R H R' H' → HpOk F (B + ce) R' H' → Rp F H' R' x v → Q x → K v H') → te σ H K)
    (hl : ∀ i ∈ l, i ∈ own.map (·.2)) :
    ∀ F B R H σ ρ α XQ Q (K : VK), F.K = X.K → XLink F E XQ → B + (ci + BIG * (ct + ce)) ≤ F.L → StOk F B R H σ ρ α → (fi ρ XQ fun xs => xs.length ≤ BIG ∧ lcGo gt ft fe (wipeR ρ (own.map (·.2))) Q xs [] true) →
      (∀ a d n R' H', Ext F R H R' H' → HpOk F (B + (ci + BIG * (ct + ce))) R' H' → Own F H' R' a d n → Nn H a → Q ⟨d, n, none⟩ → K (.ref a) H') → tLc wi g tt te (own.map (·.2)) σ H K := fun F B R H σ ρ α XQ Q K hK hX hB S h k => by
  refine si F B R H σ ρ α XQ _ _ hK hX (by omega) S h fun J xs R1 H1 e1 o1 ⟨hz, q⟩ w => fun D hD => ?_
  have n0 := o1.ent2 D (.of hD)
  have nm := mx_none o1.inv hD
  have nr := not_frozen o1 hD
  have S1 := S.ext e1 o1
  have le : ∀ i, i ≤ xs.length → i * (ct + ce) ≤ BIG * (ct + ce) := fun i hi => Nat.mul_le_mul_right _ (Nat.le_trans hi hz)
  -- the turn's state
  refine ⟨fun i m H' => m = xs.length - i ∧ i ≤ xs.length ∧ ∃ R' acc accD n, acc.length ≤ i ∧ H' D = some (.lst acc) ∧ ¬ R' D ∧ Ext F R1 H1 R' H' ∧ HpOk F (B + ci + i * (ct + ce)) R' H' ∧ RpL F H' R' n acc accD ∧ lcGo gt ft fe (wipeR ρ (own.map (·.2))) Q (xs.drop i) accD n,
    ⟨_, rfl, Nat.zero_le _, R1, [], [], true, Nat.le_refl _, upd_same, nr, .new0 hD, by simpa using o1.new0 hD .lst, .nil, by simpa using q⟩, ?_⟩
  rintro i m H' ⟨rfl, hi, R', acc, accD, n, hacc, hH, nR, e2, o2, la, q⟩
  have zf : Fz F R1 H1 R' H' := e2.fz o1
  by_cases hlt : i < xs.length
  · refine .inr ?_
    have hx : xs[i]? = some xs[i] := by simp [hlt]
    obtain ⟨go, yl⟩ := (w i _ R' H' zf o2).2 _ hx
    rw [List.drop_eq_getElem_cons hlt] at q
    refine ⟨go, fun H2 => ∃ R2 acc2 accD2 n2, acc2.length ≤ i + 1 ∧ H2 D = some (.lst acc2) ∧ ¬ R2 D ∧ Ext F R1 H1 R2 H2 ∧ HpOk F (B + ci + (i + 1) * (ct + ce)) R2 H2 ∧ RpL F H2 R2 n2 acc2 accD2 ∧ lcGo gt ft fe (wipeR ρ (own.map (·.2))) Q (xs.drop (i + 1)) accD2 n2, fun H2 q2 => ⟨_, by omega, rfl, hlt, q2⟩, fun v H'' y => ?_⟩
    obtain ⟨R'', ex, ox, rx⟩ := yl v H'' y
    have S3 : StOk F (B + ci + i * (ct + ce)) R'' H'' (wipe σ (own.map (·.2))) (wipeR ρ (own.map (·.2))) α := ((S1.ext e2 o2).ext ex ox).wipe _
    have hD2 : H'' D = some (.lst acc) := ex.keep D _ nm hH .lst
    have nR2 : ¬ R'' D := fun z => (ex.new D z).elim nR fun z => z _ hH .lst
    have le2 := le (i + 1) hlt
    have e3 : B + ci + (i + 1) * (ct + ce) = B + ci + i * (ct + ce) + ct + ce := by rw [Nat.add_mul, Nat.one_mul]; omega
    refine sg F _ R'' H'' _ _ α v _ _ _ hK S3 rx q fun σ4 ρ4 S4 so q4 => ⟨?_, ?_⟩
    · rw [wipe_eq so hl, wipe_wipe]
    refine st F _ R'' H'' σ4 ρ4 α XQ0 _ _ hK xlink0 (by omega) S4 q4 fun bb R5 H5 e5 o5 q5 => ?_
    have hD5 : H5 D = some (.lst acc) := e5.keep D _ nm hD2 .lst
    have nR5 : ¬ R5 D := fun z => (e5.new D z).elim nR2 fun z => z _ hD2 .lst
    have e15 := (e2.trans ex).trans e5
    cases bb with
    | true =>
      refine se F _ R5 H5 σ4 ρ4 α XQ0 _ _ hK xlink0 (by omega) (S4.ext e5 o5) q5 fun u y R6 H6 e6 o6 r6 q6 => ?_
      have hD6 : H6 D = some (.lst acc) := e6.keep D _ nm hD5 .lst
      have nR6 : ¬ R6 D := fun z => (e6.new D z).elim nR5 fun z => z _ hD5 .lst
      have fz6 : Fz F R6 H6 R6 (upd H6 D (.lst (acc ++ [u]))) := Fz.put nR6 hD6 (fun _ z => nomatch z) fun _ _ z => nomatch z
      have la6 : RpL F H6 R6 n acc accD := la.fz (((ex.fz o2).trans (e5.fz ox)).trans (e6.fz o5))
      have e16 := e15.trans e6
      refine ⟨acc, hD6, lt_line (by omega), R6, acc ++ [u], accD ++ [y.d], n && y.fr, by rw [List.length_append, List.length_cons, List.length_nil]; omega, upd_same, nR6, ⟨e16.reg, fun b o m hb nt => by
        rw [upd_ne (ne_of_none hb hD)]
        exact e16.keep b o m hb nt, e16.new, fun b hb => ?_⟩, by rw [e3]; exact o6.put nR6 nm n0 hD6 .lst, ((la6.weak and_l).app (.cons (r6.fr.weak and_r) .nil)).fz fz6, q6⟩
      by_cases z : b = D
      · rw [z]; exact .of hD
      · exact e16.there b fun u q => hb u (by rw [upd_ne z]; exact q)
    | false =>
      exact ⟨R5, acc, accD, n, by omega, hD5, nR5, e15, o5.mono (by omega), la.fz ((ex.fz o2).trans (e5.fz ox)), q5⟩
  · have hle : i = xs.length := by omega
    refine .inl ⟨(w i _ R' H' zf o2).1 hle, ?_⟩
    rw [hle, List.drop_length] at q
    refine k D (.lst accD) n R' H' ⟨fun a r => e2.reg a (e1.reg a r), fun a o m ha nt => e2.keep a o m (e1.keep a o m ha nt) nt, fun a r => (e2.new a r).elim (e1.new a) fun z => .inr (e1.there a z), fun a z => e1.there a (e2.there a z)⟩ (o2.mono (by have := le i hi; omega)) ⟨nR, nm, n0, ⟨acc, hH, la⟩⟩ (e1.there D (.of hD)) q
theorem dn_lc {scope : Scope} {own : List (Str × Nat)} {l : List Nat} {gt : TDG} (hc : X.calm = true) (hN : X.N.Nodup) (hi : DI X E ci tg iter fi) {ifs : List Expr} (ok : BlkOk X.N X.env.scope scope own)
    (hg : ∀ s H C cl fp, DG (X.blk s H scope (compEnvC scope cl C X.env) fp) l tg gt) (ht : ∀ s H C cl fp, DTs (X.blk s H scope (compEnvC scope cl C X.env) fp) E0 ct ifs ft) (he : ∀ s H C cl fp, DE (X.blk s H scope (compEnvC scope cl C X.env) fp) E0 ce elt fe)
    (hl : ∀ i ∈ l, i ∈ own.map (·.2)) (hs : ∀ x, foldedSetIterable iter X.env x = pure x := by intro _; rfl) :
    DN X E (ci + BIG * (ct + ce)) (.ListComp elt [⟨tg, iter, ifs, 0⟩] scope pos) (fun ρ XQ Q => fi ρ XQ fun xs => xs.length ≤ BIG ∧ lcGo gt ft fe (wipeR ρ (own.map (·.2))) Q xs [] true) := by
  obtain ⟨wi, pi, si⟩ := hi
  have hG : ∃ g : TG, (∀ s H C cl fp, PG (X.blk s H scope (compEnvC scope cl C X.env) fp) tg g) ∧ ∀ F B R H σ ρ α v x Q (K : L2.St → Hp → Prop), F.K = X.K → StOk F B R H σ ρ α → Rp F H R x v → gt x ρ Q → (∀ σ' ρ', StOk F B R H σ' ρ' α → SetOnly l σ σ' → Q ρ' → K σ' H) → g v σ H K :=
    ⟨fun v σ H Q => ∀ s H0 C cl fp, (hg s H0 C cl fp).choose v σ H Q, fun s H C cl fp => ⟨fun pins s' σ H' v u Q I r q => (hg s H C cl fp).choose_spec.1.run pins s' σ H' v u Q I r (q s H C cl fp)⟩,
      fun F B R H σ ρ α v x Q K hK S r q k s H0 C cl fp => (hg s H0 C cl fp).choose_spec.2 F B R H σ ρ α v x Q K hK S r q k⟩
  have hT : ∃ tt : TT, (∀ s H C cl fp, PTs (X.blk s H scope (compEnvC scope cl C X.env) fp) ifs tt) ∧ ∀ F B R H σ ρ α XQ Q (K : Bool → Hp → Prop), F.K = X.K → XLink F E0 XQ → B + ct ≤ F.L → StOk F B R H σ ρ α → ft ρ XQ Q → (∀ b R' H', Ext F R H R' H' → HpOk F (B + ct) R' H' → Q b → K b H') → tt σ H K :=
    ⟨fun σ H Q => ∀ s H0 C cl fp, (ht s H0 C cl fp).choose σ H Q, fun s H C cl fp => ⟨fun pins s' σ H' Q I q => (ht s H C cl fp).choose_spec.1.run pins s' σ H' Q I (q s H C cl fp)⟩,
      fun F B R H σ ρ α XQ Q K hK hX hB S q k s H0 C cl fp => (ht s H0 C cl fp).choose_spec.2 F B R H σ ρ α XQ Q K hK hX hB S q k⟩
  have hE : ∃ te : TE, (∀ s H C cl fp, PE (X.blk s H scope (compEnvC scope cl C X.env) fp) elt te) ∧ ∀ F B R H σ ρ α XQ Q (K : VK), F.K = X.K → XLink F E0 XQ → B + ce ≤ F.L → StOk F B R H σ ρ α → fe ρ XQ Q → (∀ v x R' H', Ext F R H R' H' → HpOk F (B + ce) R' H' → Rp F H' R' x v → Q x → K v H') → te σ H K :=
    ⟨fun σ H Q => ∀ s H0 C cl fp, (he s H0 C cl fp).choose σ H Q, fun s H C cl fp => ⟨fun pins s' σ H' Q I q => (he s H C cl fp).choose_spec.1.run pins s' σ H' Q I (q s H C cl fp)⟩,
      fun F B R H σ ρ α XQ Q K hK hX hB S q k s H0 C cl fp => (he s H0 C cl fp).choose_spec.2 F B R H σ ρ α XQ Q K hK hX hB S q k⟩
  obtain ⟨g, pg, sg⟩ := hG
  obtain ⟨tt, pt, st⟩ := hT
  obtain ⟨te, pe, se⟩ := hE
  exact ⟨_, pe_lc hc hN pi ok pg pt pe hs, dn_lc_of si sg st se hl⟩
/-- y = [..] on one line -/
theorem ds_setLc (lf : List Nat) {i : Nat} {y : Str} {py spos : Pos} {scope : Scope} {own : List (Str × Nat)} {l : List Nat} {gt : TDG} (hc : X.calm = true) (hN : X.N.Nodup) (hy : X.N[i]? = some y) (hyl : X.env.scope.names.lookup y = some .local) {ifs : List Expr}
    (hsw : swapsWith (.ListComp elt [⟨tg, iter, ifs, 0⟩] scope pos) (some (.Name y py)) spos.line X.env = pure true) (hi : DI X E ci tg iter fi) (ok : BlkOk X.N X.env.scope scope own)
    (hg : ∀ s H C cl fp, DG (X.blk s H scope (compEnvC scope cl C X.env) fp) l tg gt) (ht : ∀ s H C cl fp, DTs (X.blk s H scope (compEnvC scope cl C X.env) fp) E0 ct ifs ft) (he : ∀ s H C cl fp, DE (X.blk s H scope (compEnvC scope cl C X.env) fp) E0 ce elt fe)
    (hl : ∀ i ∈ l, i ∈ own.map (·.2)) (hs : ∀ x, foldedSetIterable iter X.env x = pure x := by intro _; rfl) :
    DS X E (ci + BIG * (ct + ce)) (.Assign [.Name y py] (.ListComp elt [⟨tg, iter, ifs, 0⟩] scope pos) spos) (fun N ρ XQ => fi (frz lf ρ) XQ fun xs => xs.length ≤ BIG ∧ lcGo gt ft fe (wipeR (frz lf ρ) (own.map (·.2))) (fun x => N.nx ((frz lf ρ).set i (.va x))) xs [] true) := by
  obtain ⟨wi, pi, si⟩ := hi
  have hG : ∃ g : TG, (∀ s H C cl fp, PG (X.blk s H scope (compEnvC scope cl C X.env) fp) tg g) ∧ ∀ F B R H σ ρ α v x Q (K : L2.St → Hp → Prop), F.K = X.K → StOk F B R H σ ρ α → Rp F H R x v → gt x ρ Q → (∀ σ' ρ', StOk F B R H σ' ρ' α → SetOnly l σ σ' → Q ρ' → K σ' H) → g v σ H K :=
    ⟨fun v σ H Q => ∀ s H0 C cl fp, (hg s H0 C cl fp).choose v σ H Q, fun s H C cl fp => ⟨fun pins s' σ H' v u Q I r q => (hg s H C cl fp).choose_spec.1.run pins s' σ H' v u Q I r (q s H C cl fp)⟩,
      fun F B R H σ ρ α v x Q K hK S r q k s H0 C cl fp => (hg s H0 C cl fp).choose_spec.2 F B R H σ ρ α v x Q K hK S r q k⟩
  have hT : ∃ tt : TT, (∀ s H C cl fp, PTs (X.blk s H scope (compEnvC scope cl C X.env) fp) ifs tt) ∧ ∀ F B R H σ ρ α XQ Q (K : Bool → Hp → Prop), F.K = X.K → XLink F E0 XQ → B + ct ≤ F.L → StOk F B R H σ ρ α → ft ρ XQ Q → (∀ b R' H', Ext F R H R' H' → HpOk F (B + ct) R' H' → Q b → K b H') → tt σ H K :=
    ⟨fun σ H Q => ∀ s H0 C cl fp, (ht s H0 C cl fp).choose σ H Q, fun s H C cl fp => ⟨fun pins s' σ H' Q I q => (ht s H C cl fp).choose_spec.1.run pins s' σ H' Q I (q s H C cl fp)⟩,
      fun F B R H σ ρ α XQ Q K hK hX hB S q k s H0 C cl fp => (ht s H0 C cl fp).choose_spec.2 F B R H σ ρ α XQ Q K hK hX hB S q k⟩
  have hE : ∃ te : TE, (∀ s H C cl fp, PE (X.blk s H scope (compEnvC scope cl C X.env) fp) elt te) ∧ ∀ F B R H σ ρ α XQ Q (K : VK), F.K = X.K → XLink F E0 XQ → B + ce ≤ F.L → StOk F B R H σ ρ α → fe ρ XQ Q → (∀ v x R' H', Ext F R H R' H' → HpOk F (B + ce) R' H' → Rp F H' R' x v → Q x → K v H') → te σ H K :=
    ⟨fun σ H Q => ∀ s H0 C cl fp, (he s H0 C cl fp).choose σ H Q, fun s H C cl fp => ⟨fun pins s' σ H' Q I q => (he s H C cl fp).choose_spec.1.run pins s' σ H' Q I (q s H C cl fp)⟩,
      fun F B R H σ ρ α XQ Q K hK hX hB S q k s H0 C cl fp => (he s H0 C cl fp).choose_spec.2 F B R H σ ρ α XQ Q K hK hX hB S q k⟩
  obtain ⟨g, pg, sg⟩ := hG
  obtain ⟨tt, pt, st⟩ := hT
  obtain ⟨te, pe, se⟩ := hE
  refine ⟨_, ps_setLc hc hN hy hyl hsw pi ok pg pt pe hs, fun F B R H σ ρ α XQ N K hK hX hB S h k => ?_⟩
  obtain ⟨R1, S1, h1⟩ := S.frzs lf
  refine dn_lc_of si sg st se hl F B R1 H σ (frz lf ρ) α XQ _ _ hK hX hB S1 h fun a d n R' H' e' o' w hn q => ?_
  have z : Fz F R H R1 H := ⟨h1, fun _ _ _ h _ => h, fun _ _ h => h⟩
  have ee : Ext F R1 H (R'.add a) H' := ⟨fun x r => .inl (e'.reg x r), e'.keep, fun x r => r.elim (e'.new x) fun z => .inr (by rw [z]; exact hn), e'.there⟩
  exact k.nx _ H' _ (R'.add a) α (z.trans (ee.fz S1.hp)) ((S1.ext ee (o'.frz w)).setva i (.of (Ow.rp w))) q
end
end DL

set_option Elab.async false
set_option linter.all false
set_option maxRecDepth 100000
set_option maxHeartbeats 4000000
/-! DL, part h: zip, enumerate; own lists changed; calls of defs; defs. -/
namespace DL
open PySem PySem.Spec PyProof.Rows L2

section
variable {X : Cx} {E : XK} {c ca cb cc ci ct ce : Nat} {a b e tg iter elt : Expr} {es : List Expr} {fa fb fe : TD} {fi : TDs} {fs : TDs} {ft : TDt} {pos p : Pos} {x : Str}
/-! ### zip, enumerate -/
def zipD (n : Bool) : List D → List D → List Dv
  | x :: xs, y :: ys => ⟨.tup [x, y], n, none⟩ :: zipD n xs ys
  | _, _ => []
theorem zipD_get {n : Bool} : ∀ {xs ys : List D} {i : Nat} {z : Dv}, (zipD n xs ys)[i]? = some z → ∃ x y, xs[i]? = some x ∧ ys[i]? = some y ∧ z = ⟨.tup [x, y], n, none⟩
  | [], _, _, _, h => by simp [zipD] at h
  | _ :: _, [], _, _, h => by simp [zipD] at h
  | x :: xs, y :: ys, 0, z, h => by
    simp [zipD] at h
    exact ⟨x, y, rfl, rfl, h.symm⟩
  | x :: xs, y :: ys, i + 1, z, h => by
    obtain ⟨u, v, h1, h2, h3⟩ := zipD_get (i := i) (xs := xs) (ys := ys) (z := z) (by simpa [zipD] using h)
    exact ⟨u, v, by simpa using h1, by simpa using h2, h3⟩
theorem zipD_len {n : Bool} : ∀ xs ys : List D, (zipD n xs ys).length = min xs.length ys.length
  | [], _ => by simp [zipD]
  | _ :: _, [] => by simp [zipD]
  | x :: xs, y :: ys => by simp [zipD, zipD_len xs ys]
theorem walks_zip {F : Fx} {R : Reg} {H : Hp} {K : PySem.W.Frag} {a b : Addr} {n m : Bool} {vs us : List V} {ds es : List D} (ha : H a = some (.lst vs)) (ra : R a) (la : RpL F H R n vs ds) (hb : H b = some (.lst us)) (rb : R b) (lb : RpL F H R m us es) :
    Walks F R H (Itz K a b) (zipD (n && m) ds es) := fun i B R' H' z o => by
  have ha' := z.keep a _ ra ha .lst
  have hb' := z.keep b _ rb hb .lst
  have la' := la.fz z
  have lb' := lb.fz z
  refine ⟨fun hl => ⟨vs, us, .of ha', .of hb', ?_⟩, fun x hx => ?_⟩
  · rw [zipD_len] at hl
    rw [la.len, lb.len]
    omega
  · obtain ⟨d, e, h1, h2, rfl⟩ := zipD_get hx
    obtain ⟨v, hv, r⟩ := la'.get h1
    obtain ⟨u, hu, r2⟩ := lb'.get h2
    refine ⟨⟨vs, us, v, u, .of ha', .of hb', hv, hu⟩, fun w H'' ⟨T, x, y, e1, hT, e2, h3, h4⟩ => ?_⟩
    subst e1 e2
    rw [h3 vs (.of ha')] at hv
    rw [h4 us (.of hb')] at hu
    cases hv; cases hu
    obtain ⟨q1, q2, q3⟩ := new_tup (n := n && m) (vs := [v, u]) (ds := [d, e]) o hT (.cons (r.weak and_l) (.cons (r2.weak and_r) .nil))
    exact ⟨R', q1, q2, .of q3⟩
theorem walks_zipT {F : Fx} {R : Reg} {H : Hp} {a b : Addr} {n m : Bool} {vs us : List V} {ds es : List D} (ha : SqT F.K H a vs) (la : RpL F H R n vs ds) (hb : SqT F.K H b us) (lb : RpL F H R m us es) :
    Walks F R H (RZ.ItzT F.K a b) (zipD (n && m) ds es) := fun i B R' H' z o => by
  have ha' := z.tup a _ ha
  have hb' := z.tup b _ hb
  have la' := la.fz z
  have lb' := lb.fz z
  refine ⟨fun hl => ⟨vs, us, ha', hb', ?_⟩, fun x hx => ?_⟩
  · rw [zipD_len] at hl
    rw [la.len, lb.len]
    omega
  · obtain ⟨d, e, h1, h2, rfl⟩ := zipD_get hx
    obtain ⟨v, hv, r⟩ := la'.get h1
    obtain ⟨u, hu, r2⟩ := lb'.get h2
    refine ⟨⟨vs, us, v, u, ha', hb', hv, hu⟩, fun w H'' ⟨T, x, y, e1, hT, e2, h3, h4⟩ => ?_⟩
    subst e1 e2
    rw [h3 vs ha'] at hv
    rw [h4 us hb'] at hu
    cases hv; cases hu
    obtain ⟨q1, q2, q3⟩ := new_tup (n := n && m) (vs := [v, u]) (ds := [d, e]) o hT (.cons (r.weak and_l) (.cons (r2.weak and_r) .nil))
    exact ⟨R', q1, q2, .of q3⟩
def gZip (xs : List Dv) (Q : List Dv → Prop) : Prop := match xs with
  | [x, y] => (match x.d, y.d with
    | .lst ds, .lst es => Q (zipD (x.fr && y.fr) ds es)
    | .tup ds, .tup es => Q (zipD (x.fr && y.fr) ds es)
    | _, _ => False)
  | _ => False
theorem di_zip {elts : List Expr} {kk : Nat} {tpos : Pos} (hg : Gl X "zip") (hm : X.mg "zip" = none) (ha : DA X E c [a, b] fs) (hs : starEach [a, b] X.env = (false, eval a X.env) :: starEach [b] X.env := by rfl) (hpl : (backTo pos (starEach [b] X.env)).any (·.1) = false := by rfl) :
    DI X E c (.Tuple elts kk tpos) (.Call (.Name "zip" p) [a, b] [] pos) (fun ρ XQ Q => fs ρ XQ fun xs => gZip xs Q) := by
  obtain ⟨t, pt, s⟩ := ha
  refine ⟨_, RZ.pi_zipA hg hm pt hs hpl, fun F B R H σ ρ α XQ Q K hK hX hB S h k => ?_⟩
  refine s F B R H σ ρ α XQ _ _ hK hX hB S h fun vs xs R' H' e' o' r' q' => ?_
  match xs, vs, r', q' with
  | [⟨d, n, vo⟩, ⟨d2, n2, vo2⟩], [v, u], .cons r1 (.cons r2 .nil), q' =>
    cases d <;> cases d2 <;> try exact q'.elim
    case lst.lst ds es =>
      obtain ⟨a, vs, rfl, ha, ra, la⟩ := r1.lstR rfl
      obtain ⟨b, us, rfl, hb, rb, lb⟩ := r2.lstR rfl
      exact ⟨a, b, vs, us, rfl, .inl ⟨.of ha, .of hb, k _ _ R' H' e' o' q' (walks_zip ha ra la hb rb lb)⟩⟩
    case tup.tup ds es =>
      obtain ⟨a, vs, rfl, ha, la⟩ := r1.tupL rfl
      obtain ⟨b, us, rfl, hb, lb⟩ := r2.tupL rfl
      exact ⟨a, b, vs, us, rfl, .inr ⟨hK ▸ ha, hK ▸ hb, hK ▸ k _ _ R' H' e' o' q' (walks_zipT ha la hb lb)⟩⟩
def enumD (n : Bool) : Nat → List D → List Dv
  | _, [] => []
  | i, x :: xs => ⟨.tup [.int (i : Nat), x], n, none⟩ :: enumD n (i + 1) xs
theorem enumD_len {n : Bool} : ∀ (i : Nat) (xs : List D), (enumD n i xs).length = xs.length
  | _, [] => rfl
  | i, x :: xs => by simp [enumD, enumD_len (i + 1) xs]
theorem enumD_get {n : Bool} : ∀ {xs : List D} {j i : Nat} {z : Dv}, (enumD n j xs)[i]? = some z → ∃ x, xs[i]? = some x ∧ z = ⟨.tup [.int ((j + i : Nat) : Int), x], n, none⟩
  | [], _, _, _, h => by simp [enumD] at h
  | x :: xs, j, 0, z, h => by
    simp [enumD] at h
    exact ⟨x, rfl, by rw [← h]; rfl⟩
  | x :: xs, j, i + 1, z, h => by
    obtain ⟨u, h1, h3⟩ := enumD_get (xs := xs) (j := j + 1) (i := i) (z := z) (by simpa [enumD] using h)
    exact ⟨u, by simpa using h1, by rw [h3]; congr 3; simp; omega⟩
theorem walks_enum {F : Fx} {R : Reg} {H : Hp} {K : PySem.W.Frag} {a : Addr} {n : Bool} {vs : List V} {ds : List D} (ha : H a = some (.lst vs)) (ra : R a) (la : RpL F H R n vs ds) : Walks F R H (Ite K a) (enumD n 0 ds) := fun i B R' H' z o => by
  have ha' := z.keep a _ ra ha .lst
  have la' := la.fz z
  refine ⟨fun hl => ⟨vs, .of ha', ?_⟩, fun x hx => ?_⟩
  · rw [enumD_len] at hl
    rw [la.len]
    omega
  · obtain ⟨d, h1, rfl⟩ := enumD_get hx
    obtain ⟨v, hv, r⟩ := la'.get h1
    refine ⟨⟨vs, v, .of ha', hv⟩, fun w H'' ⟨T, x, e1, hT, e2, h3⟩ => ?_⟩
    subst e1 e2
    rw [h3 vs (.of ha')] at hv
    cases hv
    rw [Nat.zero_add]
    obtain ⟨q1, q2, q3⟩ := new_tup (n := n) (vs := [.int (i : Nat), v]) (ds := [.int (i : Nat), d]) o hT (.cons (.int _) (.cons r .nil))
    exact ⟨R', q1, q2, .of q3⟩
theorem di_enum {elts : List Expr} {kk : Nat} {tpos : Pos} (hg : Gl X "enumerate") (hm : X.mg "enumerate" = none) (ha : DA X E c [a] fs) (hs : starEach [a] X.env = [(false, eval a X.env)] := by rfl) :
    DI X E c (.Tuple elts kk tpos) (.Call (.Name "enumerate" p) [a] [] pos) (fun ρ XQ Q => fs ρ XQ fun xs => match xs with | [x] => (match x.d with | .lst ds => Q (enumD x.fr 0 ds) | _ => False) | _ => False) := by
  obtain ⟨t, pt, s⟩ := ha
  refine ⟨_, pi_enum hg hm pt hs, fun F B R H σ ρ α XQ Q K hK hX hB S h k => ?_⟩
  refine s F B R H σ ρ α XQ _ _ hK hX hB S h fun vs xs R' H' e' o' r' q' => ?_
  match xs, vs, r', q' with
  | [⟨d, n, vo⟩], [v], .cons r1 .nil, q' =>
    cases d <;> try exact q'.elim
    case lst ds =>
      obtain ⟨a, vs, rfl, ha, ra, la⟩ := r1.lstR rfl
      exact ⟨a, vs, rfl, .of ha, k _ _ R' H' e' o' q' (walks_enum ha ra la)⟩

/-! ### own lists changed -/
theorem StOk.setow {F : Fx} {B : Nat} {R : Reg} {H : Hp} {σ : L2.St} {ρ : Ro} {α : Nat → Addr} (S : StOk F B R H σ ρ α) {i : Nat} {ds : List D} {n : Bool} (h : ρ[i]? = some (.ow (.lst ds) n)) {vs : List V} {ds' : List D} {m : Bool} (l : RpL F H R m vs ds') :
    StOk F B R (upd H (α i) (.lst vs)) σ (ρ.set i (.ow (.lst ds') m)) α ∧ Fz F R H R (upd H (α i) (.lst vs)) := by
  obtain ⟨e, w⟩ := S.ow i _ _ h
  obtain ⟨us, hu, lu⟩ := w.at_
  have z : Fz F R H R (upd H (α i) (.lst vs)) := Fz.put w.nr hu (fun _ z => nomatch z) fun _ _ z => nomatch z
  refine ⟨⟨S.hp.put w.nr w.nm w.n0 hu .lst, by rw [List.length_set]; exact S.len, fun j x hj => ?_, fun j d k hj => ?_, fun j k d1 n1 d2 n2 hj hk ea => ?_⟩, z⟩
  · rcases set_get hj with ⟨_, q⟩ | ⟨ne, hj'⟩
    · cases q
    · obtain ⟨v, e1, r⟩ := S.va j x hj'
      exact ⟨v, e1, r.fz z⟩
  · rcases set_get hj with ⟨ej, q⟩ | ⟨ne, hj'⟩
    · cases q
      rw [ej]
      exact ⟨e, w.nr, w.nm, w.n0, ⟨vs, upd_same, l.fz z⟩⟩
    · obtain ⟨e1, w1⟩ := S.ow j d k hj'
      have na : α j ≠ α i := fun q => ne (S.dis j i _ _ _ _ hj' h q)
      refine ⟨e1, w1.nr, w1.nm, w1.n0, ?_⟩
      have q := w1.at_
      cases d with
      | lst ds => obtain ⟨ws, a, b⟩ := q; exact ⟨ws, by rw [upd_ne na]; exact a, b.fz z⟩
      | dct ds =>
        rcases q with ⟨ws, a, b⟩ | ⟨ws, a, b⟩
        · exact .inl ⟨ws, by rw [upd_ne na]; exact a, b.mv (z.mv fun z => z)⟩
        · exact .inr ⟨ws, by rw [upd_ne na]; exact a, b.mv (z.mv fun z => z)⟩
      | _ => exact q.elim
  · rcases set_get hj with ⟨ej, _⟩ | ⟨nj, hj'⟩ <;> rcases set_get hk with ⟨ek, _⟩ | ⟨nk, hk'⟩
    · rw [ej, ek]
    · rw [ej] at ea ⊢
      exact S.dis i k _ _ _ _ h hk' ea
    · rw [ek] at ea ⊢
      exact S.dis j i _ _ _ _ hj' h ea
    · exact S.dis j k _ _ _ _ hj' hk' ea
/-- x.append(e), x an own list -/
theorem ds_append (l : List Nat) {i : Nat} {p1 apos : Pos} (he : DE X E c e fe) (ps : ∀ te, PE X e te → PS X (.Expr (.Call (.Attribute (.Name x p1) "append" apos) [e] [] p) pos) (tDrop (tBM X.K "list" rAppend (tVar i) (tCons te tNil)))) :
    DS X E c (.Expr (.Call (.Attribute (.Name x p1) "append" apos) [e] [] p) pos) (fun N ρ XQ => (∃ ds n, ρ[i]? = some (.ow (.lst ds) n)) ∧ fe (frz l ρ) XQ fun y => ∃ ds n, (if y.d.sca = true then ρ else frz l ρ)[i]? = some (.ow (.lst ds) n) ∧ ds.length < BIG ∧ N.nx ((if y.d.sca = true then ρ else frz l ρ).set i (.ow (.lst (ds ++ [y.d])) (n && y.fr)))) := by
  obtain ⟨t, p, s⟩ := he
  refine ⟨_, ps t p, fun F B R H σ ρ α XQ N K hK hX hB S ⟨⟨ds0, n0, h0⟩, h⟩ k => ?_⟩
  obtain ⟨e0, w0⟩ := S.ow i _ _ h0
  obtain ⟨vs0, hv0, _⟩ := w0.at_
  refine ⟨_, e0, Or.inl ⟨rfl, _, SqL.of hv0⟩, ?_⟩
  refine run_frz (X := X) (E := E) (c := c) (Q := fun y ρ' => ∃ ds n, ρ'[i]? = some (.ow (.lst ds) n) ∧ ds.length < BIG ∧ N.nx (ρ'.set i (.ow (.lst (ds ++ [y.d])) (n && y.fr)))) s hK hX hB S h fun v y ρ' R' H' z S' r ⟨ds, n, h1, hl, q⟩ => ?_
  obtain ⟨e1, w1⟩ := S'.ow i _ _ h1
  have e2 : V.ref (α i) = V.ref (α i) := rfl
  obtain ⟨vs, hv, lv⟩ := w1.at_
  refine ⟨α i, vs, v, rfl, rfl, hv, lt_line (by rw [lv.len]; exact hl), ?_⟩
  obtain ⟨S2, z2⟩ := S'.setow h1 (vs := vs ++ [v]) (ds' := ds ++ [y.d]) (m := n && y.fr) ((lv.weak and_l).app (.cons (r.fr.weak and_r) .nil))
  exact k.nx σ _ _ R' α (z.trans z2) S2 q
/-- x.extend(e), x an own list, e a list -/
theorem ds_extend (l : List Nat) {i : Nat} {p1 apos : Pos} (he : DE X E c e fe) (ps : ∀ te, PE X e te → PS X (.Expr (.Call (.Attribute (.Name x p1) "extend" apos) [e] [] p) pos) (tDrop (tBM X.K "list" rExtend (tVar i) (tCons te tNil)))) :
    DS X E c (.Expr (.Call (.Attribute (.Name x p1) "extend" apos) [e] [] p) pos) (fun N ρ XQ => (∃ ds n, ρ[i]? = some (.ow (.lst ds) n)) ∧ fe (frz l ρ) XQ fun y => ∃ ds n es, (if y.d.sca = true then ρ else frz l ρ)[i]? = some (.ow (.lst ds) n) ∧ y.d = .lst es ∧ ds.length + es.length ≤ BIG ∧ N.nx ((if y.d.sca = true then ρ else frz l ρ).set i (.ow (.lst (ds ++ es)) (n && y.fr)))) := by
  obtain ⟨t, p, s⟩ := he
  refine ⟨_, ps t p, fun F B R H σ ρ α XQ N K hK hX hB S ⟨⟨ds0, n0, h0⟩, h⟩ k => ?_⟩
  obtain ⟨e0, w0⟩ := S.ow i _ _ h0
  obtain ⟨vs0, hv0, _⟩ := w0.at_
  refine ⟨_, e0, Or.inl ⟨rfl, _, SqL.of hv0⟩, ?_⟩
  refine run_frz (X := X) (E := E) (c := c) (Q := fun y ρ' => ∃ ds n es, ρ'[i]? = some (.ow (.lst ds) n) ∧ y.d = .lst es ∧ ds.length + es.length ≤ BIG ∧ N.nx (ρ'.set i (.ow (.lst (ds ++ es)) (n && y.fr)))) s hK hX hB S h fun v y ρ' R' H' z S' r ⟨ds, n, es, h1, ey, hl, q⟩ => ?_
  obtain ⟨e1, w1⟩ := S'.ow i _ _ h1
  obtain ⟨vs, hv, lv⟩ := w1.at_
  obtain ⟨b, us, rfl, hb, lb⟩ := r.lstL ey
  refine ⟨α i, b, vs, us, rfl, rfl, hv, hb, le_line (by rw [lv.len, lb.len]; exact hl), ?_⟩
  obtain ⟨S2, z2⟩ := S'.setow h1 (vs := vs ++ us) (ds' := ds ++ es) (m := n && y.fr) ((lv.weak and_l).app (lb.weak and_r))
  exact k.nx σ _ _ R' α (z.trans z2) S2 q

/-! ### defs -/
/-- a def's contract: the arguments' data, their values; what may be raised; what is wanted of the answer -/
abbrev DC := List D → List V → XQT → (Dv → Prop) → Prop
def spD (K : PySem.W.Frag) (np cost : Nat) (g : DC) : Sp := fun vs H Q Ex => vs.length = np ∧ ∃ (R : Reg) (st : Option (Addr × Addr)) (L B : Nat) (ds : List D) (XQ : XQT) (QD : Dv → Prop), HpOk ⟨K, H, R, st, L⟩ B R H ∧ B + cost ≤ L ∧
  Paired (fun d v => RpD ⟨K, H, R, st, L⟩ H R d.imm v d) ds vs ∧ g ds vs XQ QD ∧ XLink ⟨K, H, R, st, L⟩ Ex XQ ∧
  ∀ v x R' H', Ext ⟨K, H, R, st, L⟩ R H R' H' → HpOk ⟨K, H, R, st, L⟩ (B + cost) R' H' → Rp ⟨K, H, R, st, L⟩ H' R' x v → QD x → Q v H'
/-- the slots at a def's entry -/
def params (ds : List D) (vs : List V) (n : Nat) : Ro := (List.zipWith (fun d v => Sl.va ⟨d, d.imm, some v⟩) ds vs) ++ List.replicate n .un
abbrev FnD (P : Program) (w : World) (K : PySem.W.Frag) (mg : Str → Option Value) (base : Heap) (k : Nat) (f : Addr) (fd : FuncData) (ps : List Str) (cost : Nat) (g : DC) : Prop := FnOk P w K mg base (L2.CX P w) k f fd ps (spD K ps.length cost g)

mutual
theorem RpD.reI {F F' : Fx} (hK : F'.K = F.K) (hs : F'.st = F.st) {H : Hp} {R : Reg} : ∀ {n : Bool} {v : V} {d : D}, RpD F H R n v d → RpD F' H R d.imm v d
  | _, _, _, .non => .non
  | _, _, _, .bl b => .bl b
  | _, _, _, .int i => .int i
  | _, _, _, .str x => .str x
  | _, _, _, .lst h r _ t => .lst h r (fun z => nomatch z) (RpL.re0 hK hs t)
  | _, _, .tup ds, .tup h t => .tup (by rw [hK]; exact h) (RpL.reI hK hs t)
  | _, _, _, .dK h r _ t => .dK h r (fun z => nomatch z) (t.mv ⟨hK, fun _ z => by rw [hs]; exact z, fun _ _ r h _ => ⟨r, h⟩, fun _ _ h => h, fun z => nomatch z⟩)
  | _, _, _, .dT h r _ t => .dT h r (fun z => nomatch z) (t.mv ⟨hK, fun _ z => by rw [hs]; exact z, fun _ _ r h _ => ⟨r, h⟩, fun _ _ h => h, fun z => nomatch z⟩)
  | _, _, _, .strm e => .strm (by rw [hs]; exact e)
  | _, _, _, .vee v => .vee v
theorem RpL.reI {F F' : Fx} (hK : F'.K = F.K) (hs : F'.st = F.st) {H : Hp} {R : Reg} : ∀ {n : Bool} {v : List V} {d : List D}, RpL F H R n v d → RpL F' H R (D.immL d) v d
  | _, _, _, .nil => .nil
  | _, _, _, .cons a t => .cons ((RpD.reI hK hs a).weak and_l) ((RpL.reI hK hs t).weak and_r)
theorem RpL.re0 {F F' : Fx} (hK : F'.K = F.K) (hs : F'.st = F.st) {H : Hp} {R : Reg} : ∀ {n : Bool} {v : List V} {d : List D}, RpL F H R n v d → RpL F' H R false v d
  | _, _, _, .nil => .nil
  | _, _, _, .cons a t => .cons ((RpD.reI hK hs a).weak fun z => nomatch z) (RpL.re0 hK hs t)
end
theorem paired_re {F F' : Fx} (hK : F'.K = F.K) (hs : F'.st = F.st) {H : Hp} {R : Reg} : ∀ {xs : List Dv} {vs : List V}, Paired (fun x v => Rp F H R x v) xs vs → Paired (fun d v => RpD F' H R d.imm v d) (xs.map (·.d)) vs
  | _, _, .nil => .nil
  | _, _, .cons a t => .cons (a.1.reI hK hs) (paired_re hK hs t)
/-- concrete values as far as they are known -/
def Conc (x : Dv) (v : V) : Prop := (∀ u, x.v = some u → u = v) ∧ (match x.d with | .non => v = .non | .bl b => v = .bl b | .int i => v = .int i | .str s => v = .str s | _ => True)
theorem Rp.conc {F : Fx} {H : Hp} {R : Reg} {x : Dv} {v : V} (h : Rp F H R x v) : Conc x v := by
  refine ⟨h.2, ?_⟩
  have r := h.1
  generalize x.d = d at r
  cases r <;> first | rfl | trivial
theorem paired_conc {F : Fx} {H : Hp} {R : Reg} : ∀ {xs : List Dv} {vs : List V}, Paired (fun x v => Rp F H R x v) xs vs → Paired Conc xs vs
  | _, _, .nil => .nil
  | _, _, .cons a t => .cons a.conc (paired_conc t)
/-- a call told by its contract -/
def gCall (g : DC) : Ro → XQT → List Dv → (Dv → Prop) → Prop := fun _ XQ xs Q => ∀ vs, Paired Conc xs vs → g (xs.map (·.d)) vs XQ fun r => Q { r with v := none }
theorem call_core {ps : List Str} {cost : Nat} {g : DC} {F : Fx} {B : Nat} {R : Reg} {H : Hp} {vs : List V} {xs : List Dv} {XQ : XQT} {Q : Dv → Prop} {K : VK} (hK : F.K = X.K) (hX : XLink F E XQ) (hB : B + cost ≤ F.L) (o : HpOk F B R H) (r : Paired (fun x v => Rp F H R x v) xs vs) (hl : xs.length = ps.length) (q : gCall g [] XQ xs Q)
    (k : ∀ v x R' H', Ext F R H R' H' → HpOk F (B + cost) R' H' → Rp F H' R' x v → Q x → K v H') : spD X.K ps.length cost g vs H K E := by
  obtain ⟨FK, FH0, FR0, st, L⟩ := F
  cases hK
  refine ⟨by rw [← hl]; exact (Paired.length r).symm, R, st, L, B, xs.map (·.d), XQ, _, ⟨o.inv, o.good, fun a u _ e _ => e, fun a e => e, fun a r => .inl r, o.tab, o.lim⟩, hB, paired_re (F := ⟨X.K, FH0, FR0, st, L⟩) (F' := ⟨X.K, H, R, st, L⟩) rfl rfl r, q vs (paired_conc r), ⟨fun x v h => ⟨(hX.1 x v h).1, fun e => ?_⟩, ?_⟩, ?_⟩
  · obtain ⟨hs, a, ns, ea, sq, l⟩ := (hX.1 x v h).2 e
    exact ⟨hs, a, ns, ea, sq.keep fun o' u h' => o.ent a _ (fun ⟨p, ep, _⟩ => by rw [show st = none from hs] at ep; cases ep) h' .frz, l⟩
  · intro C f v dx H' hx hk ht hi hb hd
    exact hX.2 C f v dx H' hx (fun a u m e nt => hk a u m (o.ent a u m e nt) nt) (fun a e => o.ent2 a (ht a e)) hi hb hd
  · intro v x R' H' e' o' r' q'
    have n2 : ∀ a, Nn H a → Nn FH0 a := o.ent2
    refine k v { x with v := none } R' H' ⟨e'.reg, e'.keep, e'.new, e'.there⟩ ⟨o'.inv, o'.good, fun a u m e nt => o'.ent a u m (o.ent a u m e nt) nt, fun a e => n2 a (o'.ent2 a e), fun a r => (o'.reg0 a r).elim (o.reg0 a) fun z => .inr (n2 a z), o'.tab, o'.lim⟩ ?_ q'
    have mv : Mv ⟨X.K, H, R, st, L⟩ R' H' ⟨X.K, FH0, FR0, st, L⟩ R' H' x.n x.n := ⟨rfl, fun _ z => z, fun _ _ r h _ => ⟨r, h⟩, fun _ _ h => h, fun z => ⟨z, fun a u _ _ w => n2 a w⟩⟩
    exact .of (r'.1.mv mv)
theorem de_call {k : Nat} {f : Addr} {fd : FuncData} {ps : List Str} {cost : Nat} {g : DC} (F : FnD X.prog X.w X.K X.mg X.base k f fd ps cost g) (hr : Room k X.A) (hg : Gl X x) (hm : X.mg x = some (.ref f)) (hk : PySem.W.keepIn X.K (.ref f) = true) (hb : Binds X.K fd ps [])
    (hx : Passes (L2.CX X.prog X.w) X E) (hn : (e :: es).length = ps.length) (ha : DA X E c (e :: es) fs) (hdb : (x == ("__debug__" : Str)) = false := by decide) (he : starEach (e :: es) X.env = (false, eval e X.env) :: starEach es X.env := by rfl) (hpl : (backTo pos (starEach es X.env)).any (·.1) = false := by rfl) :
    DE X E (c + cost) (.Call (.Name x p) (e :: es) [] pos) (fun ρ XQ Q => fs ρ XQ fun xs => xs.length = ps.length ∧ gCall g ρ XQ xs Q) := by
  obtain ⟨t, pt, s⟩ := ha
  refine ⟨_, pe_call F hr hg hm hk hb .nil hx pt hdb he hpl, fun F B R H σ ρ α XQ Q K hK hX hB S h k => ?_⟩
  refine s F B R H σ ρ α XQ _ _ hK hX (by omega) S h fun vs xs R' H' e' o' r' ⟨hl, q'⟩ => ?_
  rw [List.append_nil]
  exact call_core hK hX (by omega) o' r' hl q' fun v x R2 H2 e2 o2 r2 q2 => k v x R2 H2 (e'.trans e2) (by rw [← Nat.add_assoc]; exact o2) r2 q2
theorem start_get {ds : List D} {vs : List V} {F : Fx} {H : Hp} {R : Reg} (h : Paired (fun d v => RpD F H R d.imm v d) ds vs) (N : List Str) : ∀ (i : Nat) x, (params ds vs (N.length - vs.length))[i]? = some (.va x) → ∃ v, (L2.start N vs)[i]? = some (some v) ∧ Rp F H R x v := by
  intro i x hx
  unfold params at hx
  unfold L2.start
  have hl : (List.zipWith (fun d v => Sl.va ⟨d, d.imm, some v⟩) ds vs).length = vs.length := by rw [List.length_zipWith, Paired.length h, Nat.min_self]
  by_cases hi : i < vs.length
  · rw [List.getElem?_append_left (by rw [hl]; exact hi)] at hx
    rw [List.getElem?_append_left (by rw [List.length_map]; exact hi)]
    have : ∀ {ds : List D} {vs : List V} {i : Nat}, Paired (fun d v => RpD F H R d.imm v d) ds vs → (List.zipWith (fun d v => Sl.va ⟨d, d.imm, some v⟩) ds vs)[i]? = some (.va x) → ∃ v, (vs.map some)[i]? = some (some v) ∧ Rp F H R x v := by
      intro ds vs i h
      induction h generalizing i with
      | nil => intro q; simp at q
      | @cons d v ds vs a t ih =>
        intro q
        cases i with
        | zero =>
          simp at q
          refine ⟨v, rfl, ?_⟩
          rw [← q]
          exact ⟨a, fun u z => (Option.some.inj z).symm⟩
        | succ j =>
          obtain ⟨v, a, b⟩ := ih (i := j) (by simpa using q)
          exact ⟨v, by simpa using a, b⟩
    exact this h hx
  · rw [List.getElem?_append_right (by rw [hl]; omega)] at hx
    rw [List.getElem?_replicate] at hx
    split at hx <;> cases hx
theorem params_ow {ds : List D} {vs : List V} {n i : Nat} {d : D} {m : Bool} : (params ds vs n)[i]? ≠ some (.ow d m) := by
  intro h
  unfold params at h
  rcases List.mem_append.mp (List.mem_of_getElem? h) with z | z
  · rw [List.zipWith_eq_zipWith_take_min] at z
    obtain ⟨a, ha, e⟩ := List.mem_iff_getElem.mp z
    simp at e
  · rw [List.mem_replicate] at z
    cases z.2
end
/-- a def keeps its contract: its body's reading -/
theorem fn_ok {P : Program} {w : World} {K : PySem.W.Frag} {mg : Str → Option Value} {base : Heap} {x qual : Str} {pr : Arguments} {body : List Stmt} {scope : Scope} {f : Addr} {fd : FuncData} {N ps : List Str} {k cost : Nat} {g : DC} (F : FunD K x qual pr body scope [] [] f fd) (S : FnScope N ps scope)
    (hbody : ∀ (cdv : Value) (A : Around) (outer : List Env) (s : Shared) (H : Hp) (E : XK), Room k (A.deeper (envOfC qual scope s.heap.objs.size f cdv)) →
      ∃ (c : Nat) (gb : TDS), DSs (cxOf (L2.CX P w) P w K mg base N qual scope f cdv A outer s H E) E c body gb ∧ c ≤ cost ∧ ∀ ds vs XQ Q, ds.length = ps.length → vs.length = ps.length → g ds vs XQ Q → gb { nx := fun _ => Q ⟨.non, true, none⟩, rt := fun r => Q { r with v := none } } (params ds vs (N.length - vs.length)) XQ) : FnD P w K mg base (k + 1) f fd ps cost g := by
  refine F.ok S (fun vs H Q E h => h.1) (fun cdv A outer s H vs Q E hr h => ?_)
  obtain ⟨hl, R, st, L, B, ds, XQ, QD, o, hB, r, q, hX, k⟩ := h
  obtain ⟨c, gb, ⟨t, p, sm⟩, hc, hg⟩ := hbody cdv A outer s H E hr
  have hd : ds.length = ps.length := by rw [Paired.length r]; exact hl
  refine ⟨t, p, sm ⟨K, H, R, st, L⟩ B R H (L2.start N vs) (params ds vs (N.length - vs.length)) (fun _ => 0) XQ _ _ rfl hX (show B + c ≤ L by omega) ⟨o, ?_, start_get r N, fun i d n z => absurd z params_ow, fun i j d n d' n' z => absurd z params_ow⟩ (hg ds vs XQ QD hd hl q) ?_⟩
  · unfold L2.start params
    rw [List.length_append, List.length_append, List.length_map, List.length_replicate, List.length_replicate, List.length_zipWith, hd, hl, Nat.min_self]
  have fin : ∀ {R' H'}, Fz ⟨K, H, R, st, L⟩ R H R' H' → HpOk ⟨K, H, R, st, L⟩ (B + cost) R' H' → Ext ⟨K, H, R, st, L⟩ R H R' H' := fun z o' => ⟨z.reg, o'.ent, o'.reg0, o'.ent2⟩
  exact ⟨fun σ' H' ρ' R' α' z S' q' => k .non ⟨.non, true, none⟩ R' H' (fin z (S'.hp.mono (by omega))) (S'.hp.mono (by omega)) (.of .non) q', fun v x R' H' z o' r' q' => k v { x with v := none } R' H' (fin z (o'.mono (by omega))) (o'.mono (by omega)) (.of r'.1) q', fun _ _ _ _ _ _ _ q => q.elim, fun _ _ _ _ _ _ _ q => q.elim⟩
/-- what a callee raises passes out of the def -/
theorem passE {X : Cx} {E : XK} (tk : Takes X (fun cls d _ H => E cls d H)) : Passes (L2.CX X.prog X.w) X E := passes_call tk fun _ _ _ _ h => h
end DL

set_option Elab.async false
set_option linter.all false
set_option maxRecDepth 100000
set_option maxHeartbeats 4000000
/-! DL, part i: chains, signs, {} , constants of the module. -/
namespace DL
open PySem PySem.Spec PyProof.Rows L2
section
variable {X : Cx} {E : XK} {c ca cb cc : Nat} {a b e d : Expr} {es : List Expr} {fa fb fc fe : TD} {fs : TDs} {pos p : Pos} {x : Str}
theorem de_neg (ha : DE X E c a fa) : DE X E c (.UnaryOp .USub a pos) (fun ρ XQ Q => fa ρ XQ fun x => match x.d with | .int i => Q ⟨.int (-i), true, none⟩ | _ => False) := by
  obtain ⟨t, p, s⟩ := ha
  refine ⟨_, pe_un un_neg p, fun F B R H σ ρ α XQ Q K hK hX hB S h k => s F B R H σ ρ α XQ _ _ hK hX hB S h fun v x R' H' e' o' r' q' => ?_⟩
  obtain ⟨d, n, vo⟩ := x
  have r2 := r'.1
  cases d <;> try exact q'.elim
  case int i =>
    cases r2
    exact ⟨i, rfl, k _ _ R' H' e' o' (.of (.int _)) q'⟩
/-- a op b op' d -/
def gChain (g g' : GD2) (fc : TD) : Ro → XQT → Dv → Dv → (Dv → Prop) → Prop := fun ρ XQ x y Q => g x y fun z => ∃ k, z.d = .bl k ∧ if k = true then fc ρ XQ fun w => g' y w Q else Q ⟨.bl false, true, none⟩
theorem chain_core {r r' : R2} {g g' : GD2} (sr : ∀ F B R H v u x y Q (K : VK), F.K = X.K → HpOk F B R H → Rp F H R x v → Rp F H R y u → g x y Q → (∀ w z R' H', Ext F R H R' H' → HpOk F B R' H' → Rp F H' R' z w → Q z → K w H') → r v u H K)
    (sr' : ∀ F B R H v u x y Q (K : VK), F.K = X.K → HpOk F B R H → Rp F H R x v → Rp F H R y u → g' x y Q → (∀ w z R' H', Ext F R H R' H' → HpOk F B R' H' → Rp F H' R' z w → Q z → K w H') → r' v u H K)
    {ta tb tc : TE}
    (sa : ∀ F B R H σ ρ α XQ Q (K : VK), F.K = X.K → XLink F E XQ → B + ca ≤ F.L → StOk F B R H σ ρ α → fa ρ XQ Q → (∀ v x R' H', Ext F R H R' H' → HpOk F (B + ca) R' H' → Rp F H' R' x v → Q x → K v H') → ta σ H K)
    (sb : ∀ F B R H σ ρ α XQ Q (K : VK), F.K = X.K → XLink F E XQ → B + cb ≤ F.L → StOk F B R H σ ρ α → fb ρ XQ Q → (∀ v x R' H', Ext F R H R' H' → HpOk F (B + cb) R' H' → Rp F H' R' x v → Q x → K v H') → tb σ H K)
    (sc : ∀ F B R H σ ρ α XQ Q (K : VK), F.K = X.K → XLink F E XQ → B + cc ≤ F.L → StOk F B R H σ ρ α → fc ρ XQ Q → (∀ v x R' H', Ext F R H R' H' → HpOk F (B + cc) R' H' → Rp F H' R' x v → Q x → K v H') → tc σ H K) :
    ∀ F B R H σ ρ α XQ Q (K : VK), F.K = X.K → XLink F E XQ → B + (ca + cb + cc) ≤ F.L → StOk F B R H σ ρ α → (fa ρ XQ fun x => fb ρ XQ fun y => gChain g g' fc ρ XQ x y Q) →
      (∀ v x R' H', Ext F R H R' H' → HpOk F (B + (ca + cb + cc)) R' H' → Rp F H' R' x v → Q x → K v H') → tChain r r' ta tb tc σ H K := fun F B R H σ ρ α XQ Q K hK hX hB S h k => by
  refine sa F B R H σ ρ α XQ _ _ hK hX (by omega) S h fun v x R1 H1 e1 o1 r1 q1 => ?_
  refine sb F (B + ca) R1 H1 σ ρ α XQ _ _ hK hX (by omega) (S.ext e1 o1) q1 fun u y R2 H2 e2 o2 r2 q2 => ?_
  refine sr F (B + ca + cb) R2 H2 v u x y _ _ hK o2 (r1.ext o1 e2) r2 q2 fun w z R3 H3 e3 o3 r3 q3 => ?_
  obtain ⟨kk, ek, q3⟩ := q3
  have r4 := r3.1
  rw [ek] at r4
  cases r4
  refine ⟨kk, rfl, ?_⟩
  cases kk with
  | false => exact k _ _ R3 H3 ((e1.trans e2).trans e3) (o3.mono (by omega)) (.of (.bl _)) q3
  | true =>
    have S3 := ((S.ext e1 o1).ext e2 o2).ext e3 o3
    refine sc F (B + ca + cb) R3 H3 σ ρ α XQ _ _ hK hX (by omega) S3 q3 fun w' z' R4 H4 e4 o4 r4 q4 => ?_
    refine sr' F _ R4 H4 u w' y z' Q K hK o4 ((r2.ext o2 e3).ext o3 e4) r4 q4 fun w5 z5 R5 H5 e5 o5 r5 q5 => ?_
    exact k w5 z5 R5 H5 ((((e1.trans e2).trans e3).trans e4).trans e5) (o5.mono (by omega)) r5 q5
theorem de_chain {op op' : CmpOp} {g g' : GD2} (ho : DOp X (compareOp op) g) (ho' : DOp X (compareOp op') g') (ha : DE X E ca a fa) (hb : DE X E cb b fb) (hd : DE X E cc d fc) (hm : lastMarks [op, op'] [b, d] = false := by with_unfolding_all rfl) :
    DE X E (ca + cb + cc) (.Compare a [op, op'] [b, d] pos) (fun ρ XQ Q => fa ρ XQ fun x => fb ρ XQ fun y => gChain g g' fc ρ XQ x y Q) := by
  obtain ⟨r, hr, sr⟩ := ho
  obtain ⟨r', hr', sr'⟩ := ho'
  obtain ⟨ta, pa, sa⟩ := ha
  obtain ⟨tb, pb, sb⟩ := hb
  obtain ⟨tc, pc, sc⟩ := hd
  exact ⟨_, pe_chain hr hr' pa pb pc hm, chain_core sr sr' sa sb sc⟩
theorem dt_chain {op op' : CmpOp} {g g' : GD2} (ho : DOp X (compareOp op) g) (ho' : DOp X (compareOp op') g') (ha : DE X E ca a fa) (hb : DE X E cb b fb) (hd : DE X E cc d fc) (hm : lastMarks [op, op'] [b, d] = false := by with_unfolding_all rfl) :
    DT X E (ca + cb + cc) (.Compare a [op, op'] [b, d] pos) (fun ρ XQ Q => fa ρ XQ fun x => fb ρ XQ fun y => gChain g g' fc ρ XQ x y fun z => ∃ k, z.d = .bl k ∧ Q k) := by
  obtain ⟨r, hr, sr⟩ := ho
  obtain ⟨r', hr', sr'⟩ := ho'
  obtain ⟨ta, pa, sa⟩ := ha
  obtain ⟨tb, pb, sb⟩ := hb
  obtain ⟨tc, pc, sc⟩ := hd
  refine ⟨_, pt_chain hr hr' pa pb pc hm, fun F B R H σ ρ α XQ Q K hK hX hB S h k => ?_⟩
  refine chain_core sr sr' sa sb sc F B R H σ ρ α XQ _ _ hK hX hB S h fun v x R' H' e' o' r' ⟨kk, ek, q'⟩ => ?_
  have r4 := r'.1
  rw [ek] at r4
  cases r4
  exact ⟨kk, rfl, k kk R' H' e' o' q'⟩
/-- {} -/
theorem dn_dnew : DN X E 0 (.Dict [] [] pos) (fun _ _ Q => Q ⟨.dct [], true, none⟩) :=
  ⟨_, pe_dnewK, fun F B R H σ ρ α XQ Q K _ _ _ S q k => fun p hp => k p (.dct []) true R _ (.new0 hp) (S.hp.new0 hp .dK) ⟨not_frozen S.hp hp, mx_none S.hp.inv hp, S.hp.ent2 p (.of hp), .inl ⟨[], upd_same, .nil⟩⟩ (.of hp) q⟩
end
theorem tys_ok2 {a b : String} (ha : TyOk a) (hb : TyOk b) : ∀ T ∈ [a, b], TyOk T := fun T h => by
  rcases List.mem_cons.mp h with rfl | h
  · exact ha
  · rw [List.mem_singleton.mp h]; exact hb
theorem tys_ok3 {a b c : String} (ha : TyOk a) (hb : TyOk b) (hc : TyOk c) : ∀ T ∈ [a, b, c], TyOk T := fun T h => by
  rcases List.mem_cons.mp h with rfl | h
  · exact ha
  · exact tys_ok2 hb hc T h
end DL

set_option Elab.async false
set_option linter.all false
set_option maxRecDepth 100000
set_option maxHeartbeats 4000000
/-! DL, part j: words for the plain side: sequences, good data, comprehensions as maps. -/
namespace DL
open PySem PySem.Spec PyProof.Rows L2

/-- the items of a list or a tuple -/
def D.seq : D → Option (List D)
  | .lst xs => some xs
  | .tup xs => some xs
  | _ => none
mutual
/-- data of a sound size, of kinds that isinstance knows -/
def D.good : D → Bool
  | .lst xs => D.goodL xs && decide (xs.length ≤ 100000)
  | .tup xs => D.goodL xs && decide (xs.length ≤ 100000)
  | .dct kvs => D.goodP kvs && decide (kvs.length ≤ 100000)
  | .str x => PyData.strOk x && decide (x.length ≤ 100000)
  | .strm => false
  | .vee _ => false
  | _ => true
def D.goodL : List D → Bool
  | [] => true
  | x :: xs => D.good x && D.goodL xs
def D.goodP : List (D × D) → Bool
  | [] => true
  | (k, v) :: xs => D.good k && D.good v && D.goodP xs
end
theorem good_ty {d : D} (h : d.good = true) : ∃ s, d.ty = some s := by
  cases d <;> first | exact ⟨_, rfl⟩ | (simp [D.good] at h)
theorem goodL_mem : ∀ {xs : List D}, D.goodL xs = true → ∀ x ∈ xs, x.good = true
  | [], _, _, h => by cases h
  | y :: ys, h, x, hx => by
    simp only [D.goodL, Bool.and_eq_true] at h
    rcases List.mem_cons.mp hx with rfl | hx
    · exact h.1
    · exact goodL_mem h.2 x hx
theorem goodL_of : ∀ {xs : List D}, (∀ x ∈ xs, x.good = true) → D.goodL xs = true
  | [], _ => rfl
  | y :: ys, h => by
    simp only [D.goodL, Bool.and_eq_true]
    exact ⟨h y List.mem_cons_self, goodL_of fun x hx => h x (List.mem_cons_of_mem _ hx)⟩
theorem good_seq {d : D} (h : d.good = true) {xs : List D} (e : d.seq = some xs) : (∀ x ∈ xs, x.good = true) ∧ xs.length ≤ 100000 := by
  cases d <;> first | (cases e; done) | skip
  all_goals
    cases e
    simp only [D.good, Bool.and_eq_true, decide_eq_true_eq] at h
    exact ⟨goodL_mem h.1, h.2⟩

/-! ### comprehensions -/
/-- one turn -/
def lcStep (gt : TDG) (ft : TDt) (fe : TD) (ρw : Ro) (x : Dv) (K1 : Dv → Prop) (K0 : Prop) : Prop := gt x ρw fun ρ2 => ft ρ2 XQ0 fun b => if b = true then fe ρ2 XQ0 K1 else K0
theorem lcGo_cons {gt : TDG} {ft : TDt} {fe : TD} {ρw : Ro} {Q : Dv → Prop} {x : Dv} {xs : List Dv} {acc : List D} {n : Bool} :
    lcGo gt ft fe ρw Q (x :: xs) acc n = lcStep gt ft fe ρw x (fun y => lcGo gt ft fe ρw Q xs (acc ++ [y.d]) (n && y.fr)) (lcGo gt ft fe ρw Q xs acc n) := rfl
/-- each item gives what F says, or nothing -/
theorem lc_any {gt : TDG} {ft : TDt} {fe : TD} {ρw : Ro} {Q : Dv → Prop} (F : Dv → Option D) : ∀ {xs : List Dv} {acc : List D} {n : Bool},
    (∀ x ∈ xs, ∀ (K1 : Dv → Prop) (K0 : Prop), (∀ d, F x = some d → ∀ m v, K1 ⟨d, m, v⟩) → (F x = none → K0) → lcStep gt ft fe ρw x K1 K0) → (∀ m, Q ⟨.lst (acc ++ xs.filterMap F), m, none⟩) → lcGo gt ft fe ρw Q xs acc n
  | [], acc, n, _, q => by
    have := q n
    rw [List.filterMap_nil, List.append_nil] at this
    exact this
  | x :: xs, acc, n, h, q => by
    rw [lcGo_cons]
    refine h x List.mem_cons_self _ _ (fun d e m v => ?_) (fun e => ?_)
    · refine lc_any F (fun y hy => h y (List.mem_cons_of_mem _ hy)) fun m' => ?_
      have := q m'
      rw [List.filterMap_cons, e] at this
      simpa using this
    · refine lc_any F (fun y hy => h y (List.mem_cons_of_mem _ hy)) fun m' => ?_
      have := q m'
      rw [List.filterMap_cons, e] at this
      exact this
/-- a map -/
theorem lc_map {gt : TDG} {ft : TDt} {fe : TD} {ρw : Ro} {Q : Dv → Prop} (F : Dv → D) {xs : List Dv} (h : ∀ x ∈ xs, ∀ (K1 : Dv → Prop) (K0 : Prop), (∀ m v, K1 ⟨F x, m, v⟩) → lcStep gt ft fe ρw x K1 K0) (q : ∀ m, Q ⟨.lst (xs.map F), m, none⟩) : lcGo gt ft fe ρw Q xs [] true :=
  lc_any (fun x => some (F x)) (fun x hx K1 K0 h1 _ => h x hx K1 K0 (h1 _ rfl)) (by simpa [List.filterMap_eq_map] using q)
/-- all fresh -/
theorem lc_new {gt : TDG} {ft : TDt} {fe : TD} {ρw : Ro} {Q : Dv → Prop} (F : Dv → Option D) : ∀ {xs : List Dv} {acc : List D},
    (∀ x ∈ xs, ∀ (K1 : Dv → Prop) (K0 : Prop), (∀ d, F x = some d → ∀ v, K1 ⟨d, true, v⟩) → (F x = none → K0) → lcStep gt ft fe ρw x K1 K0) → Q ⟨.lst (acc ++ xs.filterMap F), true, none⟩ → lcGo gt ft fe ρw Q xs acc true
  | [], acc, _, q => by
    rw [List.filterMap_nil, List.append_nil] at q
    exact q
  | x :: xs, acc, h, q => by
    rw [lcGo_cons]
    refine h x List.mem_cons_self _ _ (fun d e v => ?_) (fun e => ?_)
    · have z : ((true : Bool) && Dv.fr ⟨d, true, v⟩) = true := rfl
      rw [z]
      refine lc_new F (fun y hy => h y (List.mem_cons_of_mem _ hy)) ?_
      rw [List.filterMap_cons, e] at q
      simpa using q
    · refine lc_new F (fun y hy => h y (List.mem_cons_of_mem _ hy)) ?_
      rw [List.filterMap_cons, e] at q
      exact q
theorem lc_mapN {gt : TDG} {ft : TDt} {fe : TD} {ρw : Ro} {Q : Dv → Prop} (F : Dv → D) {xs : List Dv} (h : ∀ x ∈ xs, ∀ (K1 : Dv → Prop) (K0 : Prop), (∀ v, K1 ⟨F x, true, v⟩) → lcStep gt ft fe ρw x K1 K0) (q : Q ⟨.lst (xs.map F), true, none⟩) : lcGo gt ft fe ρw Q xs [] true :=
  lc_new (fun x => some (F x)) (fun x hx K1 K0 h1 _ => h x hx K1 K0 (h1 _ rfl)) (by simpa [List.filterMap_eq_map] using q)
/-! ### lists and tuples alike -/
theorem getV_va {x : Dv} {Q : Dv → Prop} : getV (some (.va x)) Q = Q x := rfl
theorem items_seq {x : Dv} {Q : List Dv → Prop} {ds : List D} (h : x.d.seq = some ds) : items x Q = Q (ds.map fun d => ⟨d, x.fr, none⟩) := by
  obtain ⟨d, n, v⟩ := x
  cases d <;> first | (cases h; rfl) | (simp [D.seq] at h)
theorem unp_seq {n : Nat} {gs : TDGs} {x : Dv} {ρ : Ro} {Q : Ro → Prop} {ds : List D} (h : x.d.seq = some ds) : unp n gs x ρ Q = (ds.length = n ∧ gs (ds.map fun d => ⟨d, x.fr, none⟩) ρ Q) := by
  obtain ⟨d, k, v⟩ := x
  cases d <;> first | (cases h; rfl) | (simp [D.seq] at h)
theorem gLen_seq {x : Dv} {Q : Dv → Prop} {ds : List D} (h : x.d.seq = some ds) : gLen x Q = Q ⟨.int ds.length, true, none⟩ := by
  obtain ⟨d, k, v⟩ := x
  cases d <;> first | (cases h; rfl) | (simp [D.seq] at h)
theorem gIx_seq {x y : Dv} {Q : Dv → Prop} {ds : List D} {i : Int} (h : x.d.seq = some ds) (hy : y.d = .int i) : gIx x y Q = ∃ d, atI ds i = some d ∧ Q ⟨d, x.fr, none⟩ := by
  obtain ⟨d, k, v⟩ := x
  obtain ⟨d2, k2, v2⟩ := y
  cases hy
  cases d <;> first | (cases h; rfl) | (simp [D.seq] at h)
/-- the same kind with other items -/
def D.like : D → List D → D
  | .tup _, ds => .tup ds
  | _, ds => .lst ds
theorem like_seq {a : D} {ds : List D} : (a.like ds).seq = some ds := by cases a <;> rfl
theorem gSl_seq {x : Dv} {lo hi : Option Int} {Q : Dv → Prop} {ds : List D} (h : x.d.seq = some ds) : gSl x lo hi Q = Q ⟨x.d.like (cutL ds lo hi), x.fr, none⟩ := by
  obtain ⟨d, k, v⟩ := x
  cases d <;> first | (cases h; rfl) | (simp [D.seq] at h)
/-- all([..]), any([..]) over a comprehension of truth values -/
theorem all_go {gt : TDG} {ft : TDt} {fe : TD} {ρw : Ro} {Q : Dv → Prop} (f : Dv → Bool) {xs : List Dv} (h : ∀ x ∈ xs, ∀ (K1 : Dv → Prop) (K0 : Prop), (∀ v, K1 ⟨.bl (f x), true, v⟩) → lcStep gt ft fe ρw x K1 K0) (q : Q ⟨.bl (xs.all f), true, none⟩) :
    lcGo gt ft fe ρw (fun x => g1 (fun x Q => ∃ bs : List Bool, x.d = .lst (bs.map D.bl) ∧ Q ⟨.bl (bs.all id), true, none⟩) [x] Q) xs [] true :=
  lc_mapN (fun x => .bl (f x)) h ⟨xs.map f, by simp, by simpa [List.all_map] using q⟩
theorem any_go {gt : TDG} {ft : TDt} {fe : TD} {ρw : Ro} {Q : Dv → Prop} (f : Dv → Bool) {xs : List Dv} (h : ∀ x ∈ xs, ∀ (K1 : Dv → Prop) (K0 : Prop), (∀ v, K1 ⟨.bl (f x), true, v⟩) → lcStep gt ft fe ρw x K1 K0) (q : Q ⟨.bl (xs.any f), true, none⟩) :
    lcGo gt ft fe ρw (fun x => g1 (fun x Q => ∃ bs : List Bool, x.d = .lst (bs.map D.bl) ∧ Q ⟨.bl (bs.any id), true, none⟩) [x] Q) xs [] true :=
  lc_mapN (fun x => .bl (f x)) h ⟨xs.map f, by simp, by simpa [List.any_map] using q⟩
theorem gZip_seq {x y : Dv} {Q : List Dv → Prop} {ds es : List D} (h : x.d.seq = some ds) (hy : y.d = x.d.like es) : gZip [x, y] Q = Q (zipD (x.fr && y.fr) ds es) := by
  obtain ⟨d, k, v⟩ := x
  obtain ⟨d2, k2, v2⟩ := y
  cases hy
  cases d <;> first | (cases h; rfl) | (simp [D.seq] at h)
theorem cut1 {α : Type} (xs : List α) : cutL xs (some 1) none = xs.drop 1 := by
  unfold cutL
  have h1 : HT.sIx xs.length 0 (some 1) = min 1 xs.length := HT.sIx_nat xs.length 0 1
  rw [h1, HT.sIx_none]
  cases xs with
  | nil => rfl
  | cons x xs => simp
theorem gCall_of {g : DC} {ρ : Ro} {XQ : XQT} {xs : List Dv} {Q : Dv → Prop} (h : ∀ vs, g (xs.map (·.d)) vs XQ fun r => Q { r with v := none }) : gCall g ρ XQ xs Q := fun vs _ => h vs
end DL

set_option Elab.async false
set_option linter.all false
set_option maxRecDepth 100000
set_option maxHeartbeats 4000000
/-! DL, part k: powers of great ints; the stream of draws. -/
namespace DL
open PySem PySem.Spec PyProof.Rows L2

theorem op_powW {X : Cx} : OpR X (binaryOp .Pow) (rI (fun i j => 0 ≤ j ∧ (Builtin.Int.intBits i : Int) * j ≤ 2 ^ 27) fun i j => .int (i ^ j.toNat)) := opI fun _ _ _ _ _ _ _ hc q => pow_int hc.1 hc.2 q
theorem bits_le {i : Int} {k : Nat} (h0 : 0 ≤ i) (h : i < 2 ^ k) : Builtin.Int.intBits i ≤ k := by
  unfold Builtin.Int.intBits
  split
  · exact Nat.zero_le _
  · rename_i hz
    have hn : i.natAbs < 2 ^ k := by
      have e : (i.natAbs : Int) = i := Int.natAbs_of_nonneg h0
      have : (i.natAbs : Int) < ((2 ^ k : Nat) : Int) := by rw [e, Int.natCast_pow]; exact h
      exact Int.ofNat_lt.mp this
    have hp : i.natAbs ≠ 0 := fun z => hz (by simpa using z)
    have := (Nat.log2_lt hp).mpr hn
    omega
/-- the stream's lists after some changes at them alone -/
structure StrmUp (H H' : Hp) (p : Addr × Addr) (B' : Nat) : Prop where
  off : ∀ a, a ≠ p.1 → a ≠ p.2 → ∀ o, H a = some o → H' a = some o
  ok : StrmOk H' p B'
theorem strm_ext {F : Fx} {B B' : Nat} {R : Reg} {H H' : Hp} {p : Addr × Addr} (hst : F.st = some p) (I : HpOk F B R H) (u : StrmUp H H' p B') : Ext F R H R H' ∧ HpOk F B' R H' := by
  have off : ∀ a o, ¬ F.mx a → H a = some o → H' a = some o := fun a o m h => u.off a (fun z => m ⟨p, hst, .inl z⟩) (fun z => m ⟨p, hst, .inr z⟩) o h
  have inv' : F.inv B' H' := fun q hq => by rw [hst] at hq; cases hq; exact u.ok
  have lst' : ∀ a, F.mx a → ∃ xs, H' a = some (.lst xs) := fun a m => mx_lst inv' m
  refine ⟨⟨fun _ r => r, fun a o m h _ => off a o m h, fun _ r => .inl r, fun a h o e => fun nt => ?_⟩, ⟨inv', fun a r => ?_, fun a o m h nt => off a o m (I.ent a o m h nt), fun a h o e => fun nt => ?_, I.reg0, tab_keep I.tab fun b o n e => off b o (fun m => ?_) e, I.lim⟩⟩
  · by_cases m : F.mx a
    · obtain ⟨xs, z⟩ := lst' a m
      exact h _ z .lst
    · exact h _ (off a o m e) nt
  · obtain ⟨m, o, ho, nt⟩ := I.good a r
    exact ⟨m, o, off a o m ho, nt⟩
  · by_cases m : F.mx a
    · obtain ⟨xs, z⟩ := lst' a m
      exact h _ z .lst
    · exact h _ (off a o m (I.ent a o m e nt)) nt
  · obtain ⟨xs, z⟩ := mx_lst I.inv m
    rw [e] at z
    cases z
    exact n .lst
/-- a drawn number below another one -/
def cDraw : DC := fun ds _ _ Q => ∃ m : Int, ds = [.strm, .int m] ∧ 0 < m ∧ m < 1073741824 ∧ ∀ k : Int, 0 ≤ k → k < m → Q ⟨.int k, true, none⟩
theorem lim_bits {n : Int} {B : Nat} (h : n ≤ (B : Int)) (hB : B ≤ LIM) : n < 2 ^ 100001 := by
  have h1 : (B : Int) ≤ ((2 ^ 100000 : Nat) : Int) := Int.ofNat_le.mpr (by unfold LIM at hB; exact hB)
  rw [Int.natCast_pow] at h1
  have h2 : (2 : Int) ^ 100001 = 2 ^ 100000 * 2 := Int.pow_succ 2 100000
  have h3 : (0 : Int) < 2 ^ 100000 := Int.pow_pos (by decide)
  have h4 : ((2 : Nat) : Int) = 2 := rfl
  rw [h4] at h1
  generalize (2 : Int) ^ 100000 = z at h1 h2 h3
  omega
end DL

set_option Elab.async false
set_option linter.all false
set_option maxRecDepth 100000
set_option maxHeartbeats 4000000
/-! DL, part l: the draw's reading. -/
namespace DL
open PySem PySem.Spec PyProof.Rows L2

/-- the stream's two lists -/
structure StrmAt (H : Hp) (a b : Addr) (xs : List Int) (c n s : Int) : Prop where
  top : H a = some (.lst [.ref b, .int c, .int n, .int s])
  low : H b = some (.lst (xs.map V.int))
theorem StrmAt.off {H H' : Hp} {a b : Addr} {xs : List Int} {c n s : Int} (h : StrmAt H a b xs c n s) (ha : H' a = H a) (hb : H' b = H b) : StrmAt H' a b xs c n s := ⟨ha.trans h.top, hb.trans h.low⟩
theorem StrmAt.put {H : Hp} {a b : Addr} {xs : List Int} {c n s c' n' s' : Int} (h : StrmAt H a b xs c n s) (hne : a ≠ b) : StrmAt (upd H a (.lst [.ref b, .int c', .int n', .int s'])) a b xs c' n' s' := ⟨upd_same, by rw [upd_ne hne.symm]; exact h.low⟩
theorem dp_ints {K : PySem.W.Frag} {H : Hp} : ∀ xs : List Int, DpAll K H (xs.map V.int) (xs.map PyData.int)
  | [] => .nil
  | x :: xs => .cons (.int x) (dp_ints xs)
theorem lay_ints : ∀ xs : List Int, PyData.canLayAll0 (xs.map PyData.int) = true
  | [] => rfl
  | x :: xs => by
    rw [List.map_cons, PyData.canLayAll0, lay_ints xs]
    rfl
theorem dep_ints : ∀ xs : List Int, PyData.depthAll (xs.map PyData.int) ≤ 1
  | [] => by decide
  | x :: xs => by
    have := dep_ints xs
    rw [List.map_cons, PyData.depthAll]
    simp only [PyData.depth]
    omega
theorem shaped_ints (xs : List Int) : SeqAt.shaped (.list (xs.map PyData.int)) = true := by
  unfold SeqAt.shaped
  rw [PyData.canLay0, lay_ints]
  have := dep_ints xs
  exact decide_eq_true (by simp only [PyData.depth]; omega)
theorem six (xs : List Int) {x : Int} : seqIndex? 0 ((x :: xs).map V.int).length = some 0 := by
  unfold seqIndex?
  simp
def drawTest (K : PySem.W.Frag) : TT := tAnd (tTest (tOp rEq (tOp (rIxL K) (tVar 0) (tC (V.int 1))) (tC (V.int 0)))) (tTest (tOp (rNeD K) (tOp (rIxL K) (tVar 0) (tC (V.int 0))) (tLst tNil)))
def drawBody (K : PySem.W.Frag) : TS := tSeq (tAsg (tCB (fun xs H Q => ∃ i, xs = [V.int i] ∧ Q (V.int (if i < 0 then -i else i)) H) (tCons (tBM K "list" rPopAt (tOp (rIxL K) (tVar 0) (tC (V.int 0))) (tCons (tC (V.int 0)) tNil)) tNil)) (gName 2))
    (tSeq (tAsg (tOp (rI (fun x j => 0 < j) fun i j => V.int (i % j)) (tCB (fun xs H Q => (∃ i, xs = [V.int i] ∧ Q (V.int i) H) ∨ ∃ k, xs = [V.bl k] ∧ Q (V.int (if k = true then 1 else 0)) H) (tCons (tOp (rI0 fun i j => V.int (i + j)) (tOp (rI0 fun i j => V.int (i + j)) (tOp (rI CMul fun i j => V.int (i * j)) (tOp (rIxL K) (tVar 0) (tC (V.int 3))) (tC (V.int 6151))) (tVar 2)) (tC (V.int 7))) tNil)) (tC (V.int 2147483629))) (gSub (tVar 0) (tC (V.int 3)) rSetL))
      (tAsg (tIf (tTest (tOp (rI0 fun i j => V.bl (decide (j ≤ i))) (tVar 2) (tOp (rI CPow fun i j => V.int (i ^ j.toNat)) (tC (V.int 10)) (tC (V.int 18))))) (tVar 2) (tC (V.int 0))) (gSub (tVar 0) (tC (V.int 1)) rSetL)))
/-- the cells that are taken -/
theorem draw_loop {K : PySem.W.Frag} {a b : Addr} {m : Int} (hne : a ≠ b) {D : Ends} {H0 : Hp} {n : Int} {xs : List Int} {c s : Int} {cell : Option V} (hS : StrmAt H0 a b xs c n s) (hc : 0 ≤ c) (h0 : 0 ≤ s) (h1 : s < 2147483629)
    (fin : ∀ xs c s cell H, StrmAt H a b xs c n s → 0 ≤ c → 0 ≤ s → s < 2147483629 → (∀ x, x ≠ a → x ≠ b → ∀ o, H0 x = some o → H x = some o) → (∀ x, H x = none → H0 x = none) → D.nx [some (.ref a), some (.int m), cell, none, none] H) :
    tWhile (drawTest K) (drawBody K) D [some (.ref a), some (.int m), cell, none, none] H0 := by
  refine while_by (fun σ H => ∃ xs c s cell, σ = [some (.ref a), some (.int m), cell, none, none] ∧ StrmAt H a b xs c n s ∧ 0 ≤ c ∧ 0 ≤ s ∧ s < 2147483629 ∧ (∀ x, x ≠ a → x ≠ b → ∀ o, H0 x = some o → H x = some o) ∧ (∀ x, H x = none → H0 x = none)) (fun σ H => match H b with | some (.lst l) => l.length | _ => 0)
    ⟨xs, c, s, cell, rfl, hS, hc, h0, h1, fun _ _ _ _ h => h, fun _ h => h⟩ ?_ ?_
  · rintro σ H ⟨xs, c, s, cell, rfl, hS, hc, h0, h1, off, bk⟩
    refine ⟨_, rfl, a, _, 1, _, rfl, rfl, .of hS.top, rfl, rfl, _, rfl, ?_⟩
    by_cases hz : c = 0
    · subst hz
      show (if _ then _ else _)
      rw [if_pos (by simp)]
      refine ⟨_, rfl, a, _, 0, _, rfl, rfl, .of hS.top, rfl, Nat.zero_le _, fun p hp => ?_⟩
      have na : a ≠ p := fun z => by rw [← z, hS.top] at hp; cases hp
      have nb : b ≠ p := fun z => by rw [← z, hS.low] at hp; cases hp
      have hS1 : StrmAt (upd H p (.lst [])) a b xs 0 n s := hS.off (upd_ne na) (upd_ne nb)
      have off1 : ∀ x, x ≠ a → x ≠ b → ∀ o, H0 x = some o → upd H p (.lst []) x = some o := fun x e1 e2 o h => by
        rw [upd_ne (fun z => by subst z; have := off x e1 e2 o h; rw [hp] at this; cases this)]
        exact off x e1 e2 o h
      have bk1 : ∀ x, upd H p (.lst []) x = none → H0 x = none := fun x h => by
        by_cases e : x = p
        · rw [e]; exact bk p hp
        · rw [upd_ne e] at h; exact bk x h
      refine ⟨_, _, .lst (.of hS1.low) (dp_ints xs), .lst (.of upd_same) .nil, shaped_ints xs, rfl, _, rfl, ?_⟩
      cases xs with
      | nil => exact fin [] 0 s cell _ hS1 hc h0 h1 off1 bk1
      | cons x xs =>
        rw [if_pos (by rfl)]
        have hlen : (match H b with | some (HO.lst l) => l.length | _ => 0) = xs.length + 1 := by rw [hS.low]; simp
        rw [hlen]
        generalize hx : (if x < 0 then -x else x) = y
        have hy : 0 ≤ y := by rw [← hx]; split <;> omega
        refine ⟨_, rfl, a, _, 0, _, rfl, rfl, .of hS1.top, rfl, .inl ⟨rfl, _, .of hS1.low⟩, b, _, 0, 0, _, rfl, rfl, hS1.low, by decide, by decide, six _, rfl, x, rfl, ?_⟩
        rw [hx]
        have hS2 : StrmAt (upd (upd H p (.lst [])) b (.lst (xs.map V.int))) a b xs 0 n s := ⟨by rw [upd_ne hne]; exact hS1.top, upd_same⟩
        refine ⟨_, rfl, a, _, 3, _, rfl, rfl, .of hS2.top, rfl, _, _, rfl, rfl, .inr ⟨by decide, by decide⟩, _, rfl, _, _, rfl, rfl, _, _, rfl, rfl, .inl ⟨_, rfl, _, _, rfl, rfl, (show (0 : Int) < 2147483629 from by decide), _, rfl, a, _, 3, 3, rfl, rfl, hS2.top, rfl, ?_⟩⟩
        have hm0 : 0 ≤ (s * 6151 + y + 7) % 2147483629 := Int.emod_nonneg _ (by decide)
        have hm1 : (s * 6151 + y + 7) % 2147483629 < 2147483629 := Int.emod_lt_of_pos _ (by decide)
        have hS3 := hS2.put (c' := 0) (n' := n) (s' := (s * 6151 + y + 7) % 2147483629) hne
        refine ⟨_, rfl, _, _, rfl, rfl, ⟨by decide, by decide, by decide⟩, _, _, rfl, rfl, _, rfl, ?_⟩

        have fin2 : ∀ z : Int, 0 ≤ z → ∀ H', H' = upd (upd (upd (upd H p (.lst [])) b (.lst (xs.map V.int))) a (.lst [V.ref b, V.int 0, V.int n, V.int ((s * 6151 + y + 7) % 2147483629)])) a (.lst [V.ref b, V.int z, V.int n, V.int ((s * 6151 + y + 7) % 2147483629)]) →
            (∃ xs c s cell, [some (V.ref a), some (V.int m), some (V.int y), none, none] = [some (.ref a), some (.int m), cell, none, none] ∧ StrmAt H' a b xs c n s ∧ 0 ≤ c ∧ 0 ≤ s ∧ s < 2147483629 ∧ (∀ x, x ≠ a → x ≠ b → ∀ o, H0 x = some o → H' x = some o) ∧ (∀ x, H' x = none → H0 x = none)) ∧ (match H' b with | some (HO.lst l) => l.length | _ => 0) < xs.length + 1 := by
          rintro z hz H' rfl
          have hS4 := hS3.put (c' := z) (n' := n) (s' := (s * 6151 + y + 7) % 2147483629) hne
          refine ⟨⟨xs, z, _, _, rfl, hS4, hz, hm0, hm1, fun x e1 e2 o h => ?_, fun x h => ?_⟩, ?_⟩
          · rw [upd_ne e1, upd_ne e1, upd_ne e2]; exact off1 x e1 e2 o h
          · by_cases e1 : x = a
            · rw [e1, upd_same] at h; cases h
            · rw [upd_ne e1, upd_ne e1] at h
              by_cases e2 : x = b
              · rw [e2, upd_same] at h; cases h
              · rw [upd_ne e2] at h; exact bk1 x h
          · rw [hS4.low]; simp
        by_cases hb : (10 : Int) ^ (18 : Int).toNat ≤ y
        · show (if _ then _ else _)
          rw [if_pos (by simpa using hb)]
          exact ⟨_, rfl, _, rfl, a, _, 1, 1, rfl, rfl, hS3.top, rfl, fin2 y hy _ rfl⟩
        · show (if _ then _ else _)
          rw [if_neg (by simpa using hb)]
          exact ⟨_, rfl, a, _, 1, 1, rfl, rfl, hS3.top, rfl, fin2 0 (by decide) _ rfl⟩
    · show (if _ then _ else _)
      rw [if_neg (by simpa using hz)]
      exact fin xs c s cell H hS hc h0 h1 off bk
  · intro σ H Q1 Q2 hq hw
    obtain ⟨v, e1, q, ys, i, u, e2, e3, e4, e5, e6, k, e7, e8⟩ := hw
    refine ⟨v, e1, q, ys, i, u, e2, e3, e4, e5, e6, k, e7, ?_⟩
    cases k with
    | false => exact hq _ _ e8
    | true =>
      obtain ⟨v, e1, q, ys, i, u, e2, e3, e4, e5, e6, e8⟩ := e8
      refine ⟨v, e1, q, ys, i, u, e2, e3, e4, e5, e6, fun p hp => ?_⟩
      obtain ⟨d, e, f1, f2, f3, f4, k, f5, f6⟩ := e8 p hp
      exact ⟨d, e, f1, f2, f3, f4, k, f5, hq _ _ f6⟩
def drawAll (K : PySem.W.Frag) : TS := tSeq (tAsg (tOp (rI0 fun i j => V.int (i + j)) (tOp (rIxL K) (tVar 0) (tC (V.int 2))) (tC (V.int 1))) (gSub (tVar 0) (tC (V.int 2)) rSetL)) (tSeq (tWhile (drawTest K) (drawBody K)) (tSeq (tIfS (tTest (tOp (rI0 fun i j => V.bl (decide (j < i))) (tOp (rIxL K) (tVar 0) (tC (V.int 1))) (tC (V.int 0)))) (tSeq (tAsg (tOp (rI (fun x j => 0 < j) fun i j => V.int (i % j)) (tCB (fun xs H Q => (∃ i, xs = [V.int i] ∧ Q (V.int i) H) ∨ ∃ k, xs = [V.bl k] ∧ Q (V.int (if k = true then 1 else 0)) H) (tCons (tOp (rIxL K) (tVar 0) (tC (V.int 1))) tNil)) (tVar 1)) (gName 3)) (tSeq (tAsg (tOp (rI CDiv fun i j => V.int (i / j)) (tOp (rIxL K) (tVar 0) (tC (V.int 1))) (tVar 1)) (gSub (tVar 0) (tC (V.int 1)) rSetL)) (tRet (tVar 3)))) tNext) (tSeq (tAsg (tOp (rI (fun x j => 0 < j) fun i j => V.int (i % j)) (tCB (fun xs H Q => (∃ i, xs = [V.int i] ∧ Q (V.int i) H) ∨ ∃ k, xs = [V.bl k] ∧ Q (V.int (if k = true then 1 else 0)) H) (tCons (tOp (rI (fun i j => 0 ≤ j ∧ (Builtin.Int.intBits i : Int) * j ≤ 2 ^ 27) fun i j => V.int (i ^ j.toNat)) (tOp (rI0 fun i j => V.int (i + j)) (tOp (rI0 fun i j => V.int (i + j)) (tOp (rIxL K) (tVar 0) (tC (V.int 3))) (tOp (rI CMul fun i j => V.int (i * j)) (tC (V.int 8191)) (tOp (rIxL K) (tVar 0) (tC (V.int 2))))) (tC (V.int 50021))) (tC (V.int 5))) tNil)) (tC (V.int 2147483587))) (gName 4))
    (tRet (tOp (rI (fun x j => 0 < j) fun i j => V.int (i % j)) (tOp (rI (fun x j => 0 < j) fun i j => V.int (i % j)) (tCB (fun xs H Q => (∃ i, xs = [V.int i] ∧ Q (V.int i) H) ∨ ∃ k, xs = [V.bl k] ∧ Q (V.int (if k = true then 1 else 0)) H) (tCons (tOp (rI (fun i j => 0 ≤ j ∧ (Builtin.Int.intBits i : Int) * j ≤ 2 ^ 27) fun i j => V.int (i ^ j.toNat)) (tOp (rI0 fun i j => V.int (i + j)) (tOp (rI0 fun i j => V.int (i + j)) (tOp (rI CMul fun i j => V.int (i * j)) (tVar 4) (tC (V.int 40009))) (tOp (rI CMul fun i j => V.int (i * j)) (tC (V.int 20011)) (tOp (rIxL K) (tVar 0) (tC (V.int 2))))) (tC (V.int 31))) (tC (V.int 3))) tNil)) (tC (V.int 1000000009))) (tVar 1))))))
theorem pow_bits {i : Int} (h0 : 0 ≤ i) (h : i < 2 ^ 100021) (j : Int) (hj0 : 0 ≤ j) (hj : j ≤ 5) : (Builtin.Int.intBits i : Int) * j ≤ 2 ^ 27 := by
  have h1 := bits_le h0 h
  have h2 : ((Builtin.Int.intBits i : Nat) : Int) ≤ 100021 := by omega
  have h3 : (Builtin.Int.intBits i : Int) * j ≤ 100021 * j := Int.mul_le_mul_of_nonneg_right h2 hj0
  have h4 : (2 : Int) ^ 27 = 134217728 := by decide
  rw [h4]
  omega
theorem wide_big : ∃ Y : Int, 1 ≤ Y ∧ (2 : Int) ^ 100001 = 4294967296 * Y ∧ (2 : Int) ^ 100021 = 4503599627370496 * Y :=
  ⟨2 ^ 99969, Int.pow_pos (by decide), by rw [show (4294967296 : Int) = 2 ^ 32 from rfl, ← Int.pow_add], by rw [show (4503599627370496 : Int) = 2 ^ 52 from rfl, ← Int.pow_add]⟩
theorem draw_reads {K : PySem.W.Frag} {H : Hp} {a b : Addr} {m : Int} {xs : List Int} {c n s : Int} (hne : a ≠ b) (hS : StrmAt H a b xs c n s) (hc : 0 ≤ c) (hn : 0 ≤ n) (hnB : n + 1 < 2 ^ 100001) (h0 : 0 ≤ s) (h1 : s < 2147483629) (hm0 : 0 < m) (hm1 : m < 1073741824)
    {Q : VK} {Qn : L2.St → Hp → Prop} (q : ∀ k H', 0 ≤ k → k < m → (∃ xs' c' s', StrmAt H' a b xs' c' (n + 1) s' ∧ 0 ≤ c' ∧ 0 ≤ s' ∧ s' < 2147483629) → (∀ x, x ≠ a → x ≠ b → ∀ o, H x = some o → H' x = some o) → (∀ x, H' x = none → H x = none) → Q (.int k) H') :
    drawAll K { nx := Qn, rt := Q } [some (.ref a), some (.int m), none, none, none] H := by
  refine ⟨_, rfl, a, _, 2, _, rfl, rfl, .of hS.top, rfl, _, _, rfl, rfl, _, rfl, a, _, 2, 2, rfl, rfl, hS.top, rfl, ?_⟩
  refine draw_loop hne (hS.put (c' := c) (n' := n + 1) (s' := s) hne) hc h0 h1 fun xs c s cell H1 hS hc h0 h1 kp bk => ?_
  have kp1 : ∀ x, x ≠ a → x ≠ b → ∀ o, H x = some o → H1 x = some o := fun x e1 e2 o h => kp x e1 e2 o (by rw [upd_ne e1]; exact h)
  have bk1 : ∀ x, H1 x = none → H x = none := fun x h => by
    by_cases e : x = a
    · rw [e, hS.top] at h; cases h
    · have := bk x h
      rwa [upd_ne e] at this
  clear kp bk
  refine ⟨_, rfl, a, _, 1, _, rfl, rfl, .of hS.top, rfl, _, _, rfl, rfl, _, rfl, ?_⟩
  show (if _ then _ else _)
  by_cases hp : 0 < c
  · rw [if_pos (by simpa using hp)]
    refine ⟨_, rfl, a, _, 1, _, rfl, rfl, .of hS.top, rfl, .inl ⟨_, rfl, _, rfl, _, _, rfl, rfl, hm0, ?_⟩⟩
    refine ⟨_, rfl, a, _, 1, _, rfl, rfl, .of hS.top, rfl, _, rfl, _, _, rfl, rfl, ⟨hm0, hm1⟩, _, rfl, a, _, 1, 1, rfl, rfl, hS.top, rfl, ?_⟩
    refine ⟨_, rfl, q _ _ (Int.emod_nonneg _ (by omega)) (Int.emod_lt_of_pos _ hm0) ⟨xs, _, s, hS.put hne, Int.ediv_nonneg hc (by omega), h0, h1⟩ (fun x e1 e2 o h => ?_) fun x h => ?_⟩
    · rw [upd_ne e1]; exact kp1 x e1 e2 o h
    · by_cases e : x = a
      · rw [e, upd_same] at h; cases h
      · rw [upd_ne e] at h; exact bk1 x h
  · rw [if_neg (by simpa using hp)]
    obtain ⟨Y, hY, e1, e2⟩ := wide_big
    rw [e1] at hnB
    have m0 : ∀ z : Int, 0 ≤ z % 2147483587 ∧ z % 2147483587 < 2147483587 := fun z => ⟨Int.emod_nonneg _ (by decide), Int.emod_lt_of_pos _ (by decide)⟩
    refine ⟨_, rfl, a, _, 3, _, rfl, rfl, .of hS.top, rfl, _, rfl, a, _, 2, _, rfl, rfl, .of hS.top, rfl, _, _, rfl, rfl, .inl ⟨by decide, by decide⟩, _, _, rfl, rfl, _, _, rfl, rfl, _, _, rfl, rfl, ⟨by decide, pow_bits (by omega) (by rw [e2]; omega) _ (by decide) (by decide)⟩, .inl ⟨_, rfl, _, _, rfl, rfl, (show (0 : Int) < 2147483587 from by decide), ?_⟩⟩
    obtain ⟨m1, m2⟩ := m0 ((s + 8191 * (n + 1) + 50021) ^ (5 : Int).toNat)
    generalize (s + 8191 * (n + 1) + 50021) ^ (5 : Int).toNat % 2147483587 = z at m1 m2
    refine ⟨_, rfl, _, _, rfl, rfl, .inr ⟨by decide, by decide⟩, _, rfl, a, _, 2, _, rfl, rfl, .of hS.top, rfl, _, _, rfl, rfl, .inl ⟨by decide, by decide⟩, _, _, rfl, rfl, _, _, rfl, rfl, _, _, rfl, rfl, ⟨by decide, pow_bits (by omega) (by rw [e2]; omega) _ (by decide) (by decide)⟩, .inl ⟨_, rfl, _, _, rfl, rfl, (show (0 : Int) < 1000000009 from by decide), _, rfl, _, _, rfl, rfl, hm0, ?_⟩⟩
    exact q _ _ (Int.emod_nonneg _ (by omega)) (Int.emod_lt_of_pos _ hm0) ⟨xs, c, s, hS, hc, h0, h1⟩ kp1 bk1
end DL

set_option Elab.async false
set_option linter.all false
set_option maxRecDepth 100000
set_option maxHeartbeats 4000000
/-! DL, part m: raising; calls by names; defs under a known pile of guards. -/
namespace DL
open PySem PySem.Spec PyProof.Rows L2

/-! ### all that stood stands -/
theorem keep_nn {H H' : Hp} (same : ∀ b o, H b = some o → H' b = some o) {b : Addr} (h : Nn H' b) : Nn H b := fun o e => h o (same b o e)
theorem keep_inv {F : Fx} {B : Nat} {H H' : Hp} (same : ∀ b o, H b = some o → H' b = some o) (I : F.inv B H) : F.inv B H' := fun p e => by
  obtain ⟨a, xs, c, n, s, h1, h2, r⟩ := I p e
  exact ⟨a, xs, c, n, s, same _ _ h1, same _ _ h2, r⟩
theorem exc_link {F : Fx} {E : XK} {XQ : XQT} {B : Nat} {R : Reg} {H H' : Hp} {C dx : Addr} {f : Str} {v : V} (hX : XLink F E XQ) (o : HpOk F B R H) (hB : B ≤ F.L) (same : ∀ b o, H b = some o → H' b = some o) (hq : XQ (.ref C) f v) (hd : H' dx = some (.xd [(f, v)])) : E (.ref C) (some dx) H' :=
  hX.2 C f v dx H' hq (fun a u m e nt => same a u (o.ent a u m e nt)) (fun a h => o.ent2 a (keep_nn same h)) (keep_inv same (o.inv.mono hB)) (o.tab.ext same) hd

/-! ### an own exception class with one field -/
structure ExT (K : PySem.W.Frag) (mg : Str → Option Value) (x fld : Str) (st : Stmt) where
  C : Addr
  fI : Addr
  fd : FuncData
  oex : OexC K C
  xf : XfC K C
  g : mg x = some (.ref C)
  iC : PySem.W.findIn K (.ref C) "__init__" = some (some (.ref fI))
  tI : PySem.W.typeIn K (.ref fI) = some (.type "function")
  no : PySem.W.findIn K (.ref C) fld = some none
  fi : FunD K "__init__" (x ++ ".__init__") (defArgs st) (defBody st) (defScope st) [] [] fI fd
  b : Binds K fd ["self", fld] []
/-- self.fld = v, of a new exception -/
def spI (K : PySem.W.Frag) (fld : Str) : Sp := fun vs H Q _ => ∃ (a C : Addr) (v : V), vs = [.ref a, v] ∧ H a = some (exo a C none) ∧ OexC K C ∧ PySem.W.findIn K (.ref C) fld = some none ∧
  ∀ dx, H dx = none → dx ≠ a → Q .non (upd (upd H dx (exd dx [(fld, v)])) a (exo a C (some dx)))
theorem init_ok {P : Program} {w : World} {K : PySem.W.Frag} {mg : Str → Option Value} {base : Heap} {x qual fld : Str} {pr : Arguments} {body : List Stmt} {scope : Scope} {f : Addr} {fd : FuncData} (F : FunD K x qual pr body scope [] [] f fd) (S : FnScope ["self", fld] ["self", fld] scope)
    (hb : ∀ (cdv : Value) (A : Around) (outer : List Env) (s : Shared) (H : Hp) (E : XK), PSs (cxOf (L2.CX P w) P w K mg base ["self", fld] qual scope f cdv A outer s H E) body (tOst K fld (tVar 0) (tVar 1))) :
    FnOk P w K mg base (L2.CX P w) 1 f fd ["self", fld] (spI K fld) := by
  refine F.ok S (fun vs H Q E h => ?_) (fun cdv A outer s H vs Q E hr h => ⟨_, hb cdv A outer s H E, ?_⟩)
  · obtain ⟨a, C, v, rfl, _⟩ := h
    rfl
  · obtain ⟨a, C, v, rfl, ha, T, no, q⟩ := h
    exact ⟨v, rfl, .ref a, rfl, a, C, rfl, T, no, .inl ⟨ha, fun dx h1 h2 => q dx h1 h2⟩⟩
section
variable {X : Cx} {E : XK} {c ca cb cc : Nat} {a b e : Expr} {es : List Expr} {fa fb fe : TD} {fs : TDs} {pos p rp : Pos} {x : Str}
/-- raise x(e) -/
theorem ds_raise {fld : Str} {st : Stmt} (l : List Nat) (T : ExT X.K X.mg x fld st) (F : FnOk X.prog X.w X.K X.mg X.base (L2.CX X.prog X.w) 1 T.fI T.fd ["self", fld] (spI X.K fld)) (hr : Room 2 X.A) (hc : X.calm = true) (tk : Takes X (fun cls d _ H => E cls d H)) (hx : Passes (L2.CX X.prog X.w) X (fun _ _ _ => False)) (hg : Gl X x)
    (ha : DA X E c [e] fs) (hdb : (x == ("__debug__" : Str)) = false := by decide) (hst : starEach [e] X.env = (false, eval e X.env) :: starEach [] X.env := by rfl) (hpl : (backTo pos (starEach [] X.env)).any (·.1) = false := by rfl) :
    DS X E c (.Raise (some (.Call (.Name x p) [e] [] pos)) none rp) (fun N ρ XQ => fs (frz l ρ) XQ fun xs => ∃ y, xs = [y] ∧ ∀ v, Conc y v → XQ (.ref T.C) fld v) := by
  obtain ⟨te, pe, s⟩ := ha
  refine ⟨_, ps_raise hc tk (pmk_oex T.oex T.iC T.tI F hr T.b .nil hx hg T.g pe hdb hst hpl), fun F' B R H σ ρ α XQ N K hK hX hB S h k => ?_⟩
  obtain ⟨R1, S1, h1⟩ := S.frzs l
  refine s F' B R1 H σ (frz l ρ) α XQ _ _ hK hX hB S1 h fun vs xs R' H1 e1 o1 r1 ⟨y, ey, q1⟩ => ?_
  subst ey
  cases r1 with
  | @cons _ v _ _ r1 rn =>
  cases rn
  refine ⟨(by simp), fun a0 ha => ?_⟩
  refine ⟨a0, T.C, v, rfl, upd_same, T.oex, T.no, fun dx hdx ne => ⟨rfl, dx, [(fld, v)], upd_same, by rw [upd_ne ne, upd_same], by rw [upd_ne ne] at hdx; exact hdx, ?_⟩⟩
  rw [upd_ne ne] at hdx
  refine exc_link hX o1 hB (fun b u hb => ?_) (q1 v r1.conc) upd_same
  have n1 := ne_of_none hb ha
  have n2 := ne_of_none hb hdx
  rw [upd_ne n2, del_ne n1, upd_ne n1, upd_ne n2, upd_ne n1]
  exact hb
end

/-! ### f(k = v, ..) -/
section
variable {X : Cx} {CX : CXT} {k n : Nat} {f : Addr} {fd : FuncData} {ps ks : List Str} {sp : Sp} {E : XK} {x : Str} {p pos : Pos} {kws : List Keyword} {tk : TA} {g : List Value → List Value → List Value} {gV : List V → List V → List V}
theorem pe_callNK (F : FnOk X.prog X.w X.K X.mg X.base CX k f fd ps sp) (hr : Room k X.A) (hg : Gl X x) (hm : X.mg x = some (.ref f)) (hk : PySem.W.keepIn X.K (.ref f) = true) (hb : KBn X.K fd ps 0 ks g gV) (hx : Passes CX X E) (hkw : PK X kws tk)
    (hall : (backToKw pos (keywordEach kws X.env)).all (·.1.isSome) = true := by rfl) (hks : (backToKw pos (keywordEach kws X.env)).filterMap (·.1) = ks := by rfl) (hdb : (x == ("__debug__" : Str)) = false := by decide)
    (hpl : ((backTo pos (starEach [] X.env)).any (·.1) || (backToKw pos (keywordEach kws X.env)).any (·.1.isNone)) = false := by rfl) :
    PE X (.Call (.Name x p) [] kws pos) (tCallN 0 ks.length sp gV E tNil tk) := by
  refine ⟨fun pins s σ H Q I h => wpAny_Call_Name_kw (ld_glob I hg hm (PySem.W.callWith_KW0 (h₀ := X.base) I.ok.mod.kin hk hall (thn (hkw.run pos pins s σ H _ I h) fun ws s2 ⟨zs, H2, I2, rz, l1, l2, q2⟩ => ⟨I2.kIn, ?_⟩) hpl) hdb)⟩
  rw [hks]
  exact run_fnN (us := []) (vs := []) F hr hb hx I2 .nil rz rfl l2 q2
end
end DL

set_option Elab.async false
set_option linter.all false
set_option maxRecDepth 100000
set_option maxHeartbeats 4000000
/-! DL, part n: repr; defs that run with no guard ahead. -/
namespace DL
open PySem PySem.Spec PyProof.Rows L2

/-! ### what repr shows -/
mutual
def D.pyd : D → PyData
  | .non => .none
  | .bl b => .bool b
  | .int i => .int i
  | .str x => .str x
  | .lst xs => .list (D.pydL xs)
  | .tup xs => .tuple (D.pydL xs)
  | .dct _ => .dict []
  | .strm => .none
  | .vee _ => .none
def D.pydL : List D → List PyData
  | [] => []
  | x :: xs => D.pyd x :: D.pydL xs
end
mutual
def D.shw : D → Bool
  | .int i => decide (i.natAbs.log2 < 1920)
  | .str x => PyData.strOk x
  | .lst xs => D.shwL xs
  | .tup xs => D.shwL xs
  | .dct kvs => kvs.isEmpty
  | .strm => false
  | .vee _ => false
  | _ => true
def D.shwL : List D → Bool
  | [] => true
  | x :: xs => D.shw x && D.shwL xs
end
mutual
def D.wid : D → Nat
  | .non => 4
  | .bl _ => 5
  | .int _ => 1921
  | .str x => 10 * x.length + 2
  | .lst xs => D.widL xs + 2
  | .tup xs => D.widL xs + 3
  | _ => 2
def D.widL : List D → Nat
  | [] => 0
  | x :: xs => (D.wid x + 2) + D.widL xs
end
mutual
def D.hasD : D → Bool
  | .lst xs => D.hasDL xs
  | .tup xs => D.hasDL xs
  | .dct _ => true
  | _ => false
def D.hasDL : List D → Bool
  | [] => false
  | x :: xs => D.hasD x || D.hasDL xs
end
theorem listText_le (ts : List Str) : (listText ts).length ≤ piled ts + 2 := by
  cases ts with
  | nil => decide
  | cons t r =>
    have h := textFrom_length_pos r 1 (("[" : Str) ++ (if (0 : Nat) > 0 then ", " else "" : String) ++ t) (Nat.succ_pos 0)
    have e : ((("[" : Str) ++ (if (0 : Nat) > 0 then ", " else "" : String) ++ t)).length = 1 + t.length := by
      rw [strLen_append, strLen_append]; rfl
    have hX : (listText (t :: r)).length = (textFrom 0 "[" (t :: r)).length + 1 := by
      show (textFrom 0 "[" (t :: r) ++ "]").length = _
      rw [strLen_append]; rfl
    have hY : (textFrom 0 "[" (t :: r)).length = (textFrom 1 (("[" : Str) ++ (if (0 : Nat) > 0 then ", " else "" : String) ++ t) r).length := rfl
    rw [hX, hY, h, e, piled_cons]; omega
theorem tupleText_le (ts : List Str) : (tupleText ts).length ≤ piled ts + 3 := by
  unfold tupleText
  rw [strLen_append, strLen_append]
  have e1 : ((("(" : String) : Str)).length = 1 := rfl
  have e3 : (((if ts.length == 1 then ",)" else ")" : String) : Str)).length ≤ 2 := by split <;> decide
  have e2 : (Str.join ", " ts).length ≤ piled ts := by
    by_cases h : ts = []
    · subst h; decide
    · have := join_length_add ts h; omega
  rw [e1]
  omega
theorem strOk_small {x : Str} (h : PyData.strOk x = true) : ∀ c ∈ x.cps.toList, c < 16 ^ 8 := by
  intro c hc
  have h2 : c < 0x110000 := of_decide_eq_true (Array.all_eq_true_iff_forall_mem.mp h c (Array.mem_toList_iff.mp hc))
  exact Nat.lt_trans h2 (by decide)
mutual
theorem shown_le : ∀ d : D, d.shw = true → d.pyd.shown.length ≤ d.wid
  | .non, _ => by decide
  | .bl b, _ => by cases b <;> decide
  | .int i, h => by
    have := int_text_len_1921 (i := i) (of_decide_eq_true (by simpa [D.shw] using h))
    simpa [D.pyd, PyData.shown, D.wid] using this
  | .str x, h => StrLaws.reprText_len x (strOk_small (by simpa [D.shw] using h))
  | .lst xs, h => by
    have := shownL_le xs (by simpa [D.shw] using h)
    have := listText_le (PyData.shownAll (D.pydL xs))
    simp only [D.pyd, PyData.shown, D.wid]
    omega
  | .tup xs, h => by
    have := shownL_le xs (by simpa [D.shw] using h)
    have := tupleText_le (PyData.shownAll (D.pydL xs))
    simp only [D.pyd, PyData.shown, D.wid]
    omega
  | .dct _, _ => (by decide : (dictText []).length ≤ 2)
theorem shownL_le : ∀ d : List D, D.shwL d = true → piled (PyData.shownAll (D.pydL d)) ≤ D.widL d
  | [], _ => Nat.le_refl _
  | x :: xs, h => by
    simp only [D.shwL, Bool.and_eq_true] at h
    have h1 := shown_le x h.1
    have h2 := shownL_le xs h.2
    simp only [D.pydL, PyData.shownAll, piled_cons, D.widL]
    omega
end
mutual
theorem shw_ok : ∀ d : D, d.shw = true → d.pyd.showable = true
  | .non, _ => rfl
  | .bl b, _ => rfl
  | .int i, h => by simpa [D.shw, D.pyd, PyData.showable] using h
  | .str x, h => rfl
  | .lst xs, h => by simpa [D.pyd, PyData.showable] using shwL_ok xs (by simpa [D.shw] using h)
  | .tup xs, h => by simpa [D.pyd, PyData.showable] using shwL_ok xs (by simpa [D.shw] using h)
  | .dct _, _ => rfl
theorem shwL_ok : ∀ d : List D, D.shwL d = true → PyData.showableAll (D.pydL d) = true
  | [], _ => rfl
  | x :: xs, h => by
    simp only [D.shwL, Bool.and_eq_true] at h
    simp only [D.pydL, PyData.showableAll, shw_ok x h.1, shwL_ok xs h.2, Bool.and_self]
end
mutual
theorem hasD_pyd : ∀ d : D, d.pyd.hasDict = d.hasD
  | .non => rfl
  | .bl _ => rfl
  | .int _ => rfl
  | .str _ => rfl
  | .dct _ => rfl
  | .strm => rfl
  | .vee _ => rfl
  | .lst xs => by simp only [D.pyd, PyData.hasDict, D.hasD, hasDL_pyd xs]
  | .tup xs => by simp only [D.pyd, PyData.hasDict, D.hasD, hasDL_pyd xs]
theorem hasDL_pyd : ∀ d : List D, PyData.hasDictAll (D.pydL d) = D.hasDL d
  | [] => rfl
  | x :: xs => by simp only [D.pydL, PyData.hasDictAll, D.hasDL, hasD_pyd x, hasDL_pyd xs]
end
mutual
theorem dep_pyd : ∀ d : D, d.pyd.depth ≤ d.dep + 1
  | .non => Nat.zero_le _
  | .bl _ => Nat.zero_le _
  | .int _ => Nat.zero_le _
  | .str _ => Nat.zero_le _
  | .dct _ => Nat.le_refl 1
  | .strm => Nat.zero_le _
  | .vee _ => Nat.zero_le _
  | .lst xs => by have := depL_pyd xs; simp only [D.pyd, PyData.depth, D.dep]; omega
  | .tup xs => by have := depL_pyd xs; simp only [D.pyd, PyData.depth, D.dep]; omega
theorem depL_pyd : ∀ d : List D, PyData.depthAll (D.pydL d) ≤ D.depL d + 1
  | [] => Nat.zero_le _
  | x :: xs => by
    have h1 := dep_pyd x
    have h2 := depL_pyd xs
    simp only [D.pydL, PyData.depthAll, D.depL]
    omega
end
section
variable {X : Cx} {pins : List (Addr × Obj)} {σ : L2.St} {H : Hp} {s : Shared} {F : Fx} {R : Reg}
mutual
theorem RpD.reads (hK : F.K = X.K) (I : Inv X pins σ H s) : ∀ {n : Bool} {d : D} {v : V} {u : Value}, RpD F H R n v d → d.shw = true → RelV v u → ∃ as, Reads s.heap u d.pyd as ∧ ∀ a ∈ as, H a ≠ none
  | _, _, _, _, .non, _, r => by cases r; exact ⟨_, .none, fun _ h => nomatch h⟩
  | _, _, _, _, .bl b, _, r => by cases r; exact ⟨_, .bool b, fun _ h => nomatch h⟩
  | _, _, _, _, .int i, _, r => by obtain ⟨t, rfl⟩ := r; exact ⟨_, .int i t, fun _ h => nomatch h⟩
  | _, _, _, _, .str x, _, r => by obtain ⟨t, rfl⟩ := r; exact ⟨_, .str x t, fun _ h => nomatch h⟩
  | _, _, _, _, .lst ha _ _ l, h, r => by
    cases r
    obtain ⟨its, rv, ⟨o, n, ho, hc, _, hd⟩, _⟩ := I.list (.of ha)
    obtain ⟨as, hr, hn⟩ := RpL.readsAll hK I l (by simpa [D.shw] using h) rv
    refine ⟨_, .list ho hc hd hr, fun b hb => ?_⟩
    rcases List.mem_cons.mp hb with e | hb
    · rw [e, ha]; exact fun z => nomatch z
    · exact hn b hb
  | _, _, _, _, .tup ha l, h, r => by
    cases r
    obtain ⟨its, rv, ⟨o, ho, hc, n, hd⟩, _⟩ := I.tuple (by rw [← hK]; exact ha)
    obtain ⟨as, hr, hn⟩ := RpL.readsAll hK I l (by simpa [D.shw] using h) rv
    exact ⟨_, .tuple ho hc hd hr, hn⟩
  | _, _, _, _, .dK (kvs := kvs) (ds := ds) ha _ _ l, h, r => by
    cases r
    have e : ds = [] := by simpa [D.shw] using h
    subst e
    cases l
    obtain ⟨_, _, vs, hv, o, es, ep, ho, hx, hd, _, hp, _⟩ := I.hok _ _ ha
    cases hv
    have e0 : es.toList = [] := by cases h0 : es.toList with | nil => rfl | cons _ _ => rw [h0] at hp; cases hp
    exact ⟨_, .dict (kvs := []) ho hx.1 hd (by rw [e0]; exact .nil) (by rw [e0]; exact .nil), fun b hb => by simp at hb; rw [hb, ha]; exact fun z => nomatch z⟩
  | _, _, _, _, .dT (kvs := kvs) (ds := ds) ha _ _ l, h, r => by
    cases r
    have e : ds = [] := by simpa [D.shw] using h
    subst e
    cases l
    obtain ⟨_, _, xs, hv, o, es, ep, ho, hx, hd, hes, _⟩ := I.hok _ _ ha
    cases hv
    have e0 : es.toList = [] := hes
    exact ⟨_, .dict (kvs := []) ho hx.1 hd (by rw [e0]; exact .nil) (by rw [e0]; exact .nil), fun b hb => by simp at hb; rw [hb, ha]; exact fun z => nomatch z⟩
  | _, _, _, _, .strm _, h, _ => by cases h
  | _, _, _, _, .vee _, h, _ => by cases h
theorem RpL.readsAll (hK : F.K = X.K) (I : Inv X pins σ H s) : ∀ {n : Bool} {ds : List D} {vs : List V} {us : List Value}, RpL F H R n vs ds → D.shwL ds = true → Vals vs us → ∃ as, ReadsAll s.heap us (D.pydL ds) as ∧ ∀ a ∈ as, H a ≠ none
  | _, _, _, _, .nil, _, r => by cases r; exact ⟨_, .nil, fun _ h => nomatch h⟩
  | _, _, _, _, .cons a l, h, r => by
    simp only [D.shwL, Bool.and_eq_true] at h
    cases r with
    | cons r1 r2 =>
      obtain ⟨as, q1, n1⟩ := RpD.reads hK I a h.1 r1
      obtain ⟨bs, q2, n2⟩ := RpL.readsAll hK I l h.2 r2
      exact ⟨_, .cons q1 q2, fun b hb => (List.mem_append.mp hb).elim (n1 b) (n2 b)⟩
end
end
section
variable {X : Cx}
def rRepr (K : PySem.W.Frag) : List V → Hp → VK → Prop := fun xs H Q => ∃ (F : Fx) (R : Reg) (n : Bool) (v : V) (d : D), F.K = K ∧ xs = [v] ∧ RpD F H R n v d ∧ d.shw = true ∧ d.wid ≤ BIG ∧ d.dep ≤ 60 ∧ (d.hasD = true → ∃ o, K.lookup sysModules = some o) ∧ Q (.str d.pyd.shown) H
theorem reads_obj {h : Heap} {u : Value} {d : D} {as : List Addr} (r : Reads h u d.pyd as) : (∃ a, u = .ref a) ∨ (d.pyd = .none ∧ u = .none) ∨ (∃ b, d.pyd = .bool b ∧ u = .bool b) ∨ (∃ i t, d.pyd = .int i ∧ u = .int i t) ∨ ∃ x t, d.pyd = .str x ∧ u = .str x t := by
  generalize d.pyd = e at r
  cases r with
  | none => exact .inr (.inl ⟨rfl, rfl⟩)
  | bool b => exact .inr (.inr (.inl ⟨b, rfl, rfl⟩))
  | int i t => exact .inr (.inr (.inr (.inl ⟨i, t, rfl, rfl⟩)))
  | str x t => exact .inr (.inr (.inr (.inr ⟨x, t, rfl, rfl⟩)))
  | list => exact .inl ⟨_, rfl⟩
  | tuple => exact .inl ⟨_, rfl⟩
  | dict => exact .inl ⟨_, rfl⟩
theorem call_repr (hg : X.A.guards = some []) (hr : Room 0 X.A) : CallR X (.builtin "repr") (rRepr X.K) := by
  intro pins s σ H xs us Q I r h
  obtain ⟨F, R, n, v, d, hK, rfl, rd, hs, hw, hd, hm, q⟩ := h
  obtain ⟨u, rfl, ru⟩ := vals1 r
  obtain ⟨as, R1, hn⟩ := rd.reads hK I hs ru
  have hz : d.pyd.shown.length ≤ sizeLine := Nat.le_trans (shown_le d hs) (Nat.le_trans hw (by decide))
  rcases reads_obj R1 with ⟨a, rfl⟩ | ⟨e, rfl⟩ | ⟨b, e, rfl⟩ | ⟨i, t, e, rfl⟩ | ⟨x, t, e, rfl⟩
  · have hu := hr.units
    have hp := dep_pyd d
    exact repr_of_reads' (h₀ := s.heap) R1 (shw_ok d hs) (fun hd' hmem => by
      rw [hasD_pyd] at hd'
      obtain ⟨o, ho⟩ := hm hd'
      exact hn _ hmem (I.bs sysModules o (I.ok.mod.kin _ _ ho)).2) hg (by omega) (fun _ _ e => e) (fun h' u tk hk => ⟨.str _, H, I.kept hk, ⟨_, rfl⟩, q⟩) hz
  · rw [e] at q
    exact P.repr_of_none ⟨.str _, H, I.tok _, ⟨_, rfl⟩, q⟩
  · rw [e] at q
    exact P.repr_of_bool ⟨.str _, H, I.tok _, ⟨_, rfl⟩, q⟩
  · have hs' := shw_ok d hs
    rw [e] at q hs'
    exact P.repr_of_int (of_decide_eq_true hs') ⟨.str _, H, I.tok _, ⟨_, rfl⟩, q⟩
  · rw [e] at q hz
    exact P.repr_of_str ⟨.str _, H, I.tok _, ⟨_, rfl⟩, q⟩ hz
/-- what repr asks, what it tells -/
def gRepr (K : PySem.W.Frag) : Dv → (Dv → Prop) → Prop := fun x Q => x.d.shw = true ∧ x.d.wid ≤ BIG ∧ x.d.dep ≤ 60 ∧ (x.d.hasD = true → ∃ o, K.lookup sysModules = some o) ∧ Q ⟨.str x.d.pyd.shown, true, none⟩
theorem dcl_repr (hg : X.A.guards = some []) (hr : Room 0 X.A) : DCl X (.builtin "repr") (g1 (gRepr X.K)) :=
  dcl1 (call_repr hg hr) fun F B R H v x Q K hK I rx ⟨h1, h2, h3, h4, q⟩ k => ⟨F, R, _, v, x.d, hK, rfl, rx.1, h1, h2, h3, h4, k _ _ R H .refl I (.of (.str _)) q⟩
end
end DL

set_option Elab.async false
set_option linter.all false
set_option maxRecDepth 100000
set_option maxHeartbeats 4000000
/-! DL, part o: defs run with no guard ahead; keyword calls by value; lambdas handed to a def that catches. -/
namespace DL
open PySem PySem.Spec PyProof.Rows L2

/-- a def's promise where no guard stands ahead -/
structure FnG (P : Program) (w : World) (K : PySem.W.Frag) (mg : Str → Option Value) (base : Heap) (k : Nat) (f : Addr) (fd : FuncData) (ps : List Str) (cost : Nat) (g : DC) : Prop where
  run : ∀ (A : Around) (outer : List Env) (s : Shared) (H : Hp) (args : Args) (us : List Value) (vs : List V) (Q : VK) (E : XK), Room k A → A.guards = some [] → Env0 P w K mg base A outer s H → BindsTo s fd args (ps.zip us) → Vals vs us → spD K ps.length cost g vs H Q E →
    codeAny (model P w) A (.call (.ref f) args) (CR (L2.CX P w) outer P w H s Q E) s
/-- a body's reading gives what the caller wishes -/
theorem body_core {X : Cx} {E : XK} {c cost : Nat} {body : List Stmt} {gb : TDS} {g : DC} {N ps : List Str} {vs : List V} {H : Hp} {Q : VK} (hD : DSs X E c body gb) (hc : c ≤ cost)
    (hg : ∀ ds vs XQ Q, ds.length = ps.length → vs.length = ps.length → g ds vs XQ Q → gb { nx := fun _ => Q ⟨.non, true, none⟩, rt := fun r => Q { r with v := none } } (params ds vs (N.length - vs.length)) XQ)
    (h : spD X.K ps.length cost g vs H Q E) : ∃ t, PSs X body t ∧ t { nx := fun _ H' => Q .non H', rt := Q } (L2.start N vs) H := by
  obtain ⟨hl, R, st, L, B, ds, XQ, QD, o, hB, r, q, hX, k⟩ := h
  obtain ⟨t, p, sm⟩ := hD
  have hd : ds.length = ps.length := by rw [Paired.length r]; exact hl
  refine ⟨t, p, sm ⟨X.K, H, R, st, L⟩ B R H (L2.start N vs) (params ds vs (N.length - vs.length)) (fun _ => 0) XQ _ _ rfl hX (show B + c ≤ L by omega) ⟨o, ?_, start_get r N, fun i d n z => absurd z params_ow, fun i j d n d' n' z => absurd z params_ow⟩ (hg ds vs XQ QD hd hl q) ?_⟩
  · unfold L2.start params
    rw [List.length_append, List.length_append, List.length_map, List.length_replicate, List.length_replicate, List.length_zipWith, hd, hl, Nat.min_self]
  have fin : ∀ {R' H'}, Fz ⟨X.K, H, R, st, L⟩ R H R' H' → HpOk ⟨X.K, H, R, st, L⟩ (B + cost) R' H' → Ext ⟨X.K, H, R, st, L⟩ R H R' H' := fun z o' => ⟨z.reg, o'.ent, o'.reg0, o'.ent2⟩
  exact ⟨fun σ' H' ρ' R' α' z S' q' => k .non ⟨.non, true, none⟩ R' H' (fin z (S'.hp.mono (by omega))) (S'.hp.mono (by omega)) (.of .non) q', fun v x R' H' z o' r' q' => k v { x with v := none } R' H' (fin z (o'.mono (by omega))) (o'.mono (by omega)) (.of r'.1) q', fun _ _ _ _ _ _ _ q => q.elim, fun _ _ _ _ _ _ _ q => q.elim⟩
theorem fnG_ok {P : Program} {w : World} {K : PySem.W.Frag} {mg : Str → Option Value} {base : Heap} {x qual : Str} {pr : Arguments} {body : List Stmt} {scope : Scope} {f : Addr} {fd : FuncData} {N ps : List Str} {k cost : Nat} {g : DC} (F : FunD K x qual pr body scope [] [] f fd) (S : FnScope N ps scope)
    (hbody : ∀ (A : Around) (outer : List Env) (s : Shared) (H : Hp) (E : XK), Room k (A.deeper (envOfC qual scope s.heap.objs.size f fd.code)) → A.guards = some [] →
      ∃ (c : Nat) (gb : TDS), DSs (cxOf (L2.CX P w) P w K mg base N qual scope f fd.code A outer s H E) E c body gb ∧ c ≤ cost ∧ ∀ ds vs XQ Q, ds.length = ps.length → vs.length = ps.length → g ds vs XQ Q → gb { nx := fun _ => Q ⟨.non, true, none⟩, rt := fun r => Q { r with v := none } } (params ds vs (N.length - vs.length)) XQ) : FnG P w K mg base (k + 1) f fd ps cost g := by
  obtain ⟨oc, od, dV, kV, doc, pm, an, cdv, ct, osl, rfl, lk, hcd, _, _⟩ := F.ex
  refine ⟨fun A outer s H args us vs Q E hr hgd e0 hb r h => LamX.run_ofS (N := N) lk hcd S hr e0 hb r h.1 fun hr' => ?_⟩
  obtain ⟨c, gb, hD, hc, hg⟩ := hbody A outer s H E hr' hgd
  exact body_core hD hc hg h
section
variable {X : Cx} {E : XK} {c ca cb cc : Nat} {a b e : Expr} {es : List Expr} {fa fb fe : TD} {fs : TDs} {pos p rp : Pos} {x : Str}
theorem pe_callG {k cost : Nat} {f : Addr} {fd : FuncData} {ps : List Str} {g : DC} {t : TA} (F : FnG X.prog X.w X.K X.mg X.base k f fd ps cost g) (hr : Room k X.A) (hgd : X.A.guards = some []) (hg : Gl X x) (hm : X.mg x = some (.ref f)) (hk : PySem.W.keepIn X.K (.ref f) = true) (hb : Binds X.K fd ps []) (hx : Passes (L2.CX X.prog X.w) X E)
    (ha : PA X (e :: es) t) (hdb : (x == ("__debug__" : Str)) = false := by decide) (he : starEach (e :: es) X.env = (false, eval e X.env) :: starEach es X.env := by rfl) (hpl : (backTo pos (starEach es X.env)).any (·.1) = false := by rfl) :
    PE X (.Call (.Name x p) (e :: es) [] pos) (fun σ H Q => t σ H fun vs H1 => spD X.K ps.length cost g vs H1 Q E) := by
  refine ⟨fun pins s σ H Q I h => wpAny_Call_Name_kw (ld_glob I hg hm (PySem.W.callWith_K (h₀ := X.base) I.ok.mod.kin hk (thn (ha.run pos pins s σ H _ I h) fun us s1 ⟨vs, H1, I1, r, q⟩ => ⟨I1.kIn, ?_⟩) he hpl) hdb)⟩
  have hl : us.length = ps.length := by rw [← r.length]; exact q.1
  have hbs := hb s1 us I1.kIn (by rw [List.append_nil]; exact hl)
  rw [List.append_nil] at hbs
  refine wpAny_call (codeAny_mono (F.run X.A X.stack s1 H1 ⟨us, []⟩ us vs Q E hr hgd I1.env0 hbs r q) fun r s' hq => ?_)
  cases r with
  | error e => exact hx pins σ H1 s1 e s' I1 hq
  | ok fl =>
    cases fl with
    | ret u => exact I1.after hq
    | next => exact False.elim hq
    | brk => exact False.elim hq
    | cont => exact False.elim hq
theorem de_callG {k : Nat} {f : Addr} {fd : FuncData} {ps : List Str} {cost : Nat} {g : DC} (F : FnG X.prog X.w X.K X.mg X.base k f fd ps cost g) (hr : Room k X.A) (hgd : X.A.guards = some []) (hg : Gl X x) (hm : X.mg x = some (.ref f)) (hk : PySem.W.keepIn X.K (.ref f) = true) (hb : Binds X.K fd ps [])
    (hx : Passes (L2.CX X.prog X.w) X E) (hn : (e :: es).length = ps.length) (ha : DA X E c (e :: es) fs) (hdb : (x == ("__debug__" : Str)) = false := by decide) (he : starEach (e :: es) X.env = (false, eval e X.env) :: starEach es X.env := by rfl) (hpl : (backTo pos (starEach es X.env)).any (·.1) = false := by rfl) :
    DE X E (c + cost) (.Call (.Name x p) (e :: es) [] pos) (fun ρ XQ Q => fs ρ XQ fun xs => xs.length = ps.length ∧ gCall g ρ XQ xs Q) := by
  obtain ⟨t, pt, s⟩ := ha
  refine ⟨_, pe_callG F hr hgd hg hm hk hb hx pt hdb he hpl, fun F B R H σ ρ α XQ Q K hK hX hB S h k => ?_⟩
  refine s F B R H σ ρ α XQ _ _ hK hX (by omega) S h fun vs xs R' H' e' o' r' ⟨hl, q'⟩ => ?_
  exact call_core hK hX (by omega) o' r' hl q' fun v x R2 H2 e2 o2 r2 q2 => k v x R2 H2 (e'.trans e2) (by rw [← Nat.add_assoc]; exact o2) r2 q2

/-! ### f(k = v, ..) -/
def DK (X : Cx) (E : XK) (c : Nat) (kws : List Keyword) (f : TDs) : Prop := ∃ t : TA, PK X kws t ∧ ∀ F B R H σ ρ α XQ Q (K : List V → Hp → Prop), F.K = X.K → XLink F E XQ → B + c ≤ F.L → StOk F B R H σ ρ α → f ρ XQ Q →
  (∀ vs xs R' H', Ext F R H R' H' → HpOk F (B + c) R' H' → Paired (fun x v => Rp F H' R' x v) xs vs → Q xs → K vs H') → t σ H K
theorem dk_nil : DK X E 0 [] (fun _ _ Q => Q []) := ⟨_, pk_nil, fun F B R H σ ρ α XQ Q K _ _ _ S h k => k [] [] R H .refl S.hp .nil h⟩
theorem dk_cons {kws : List Keyword} {nm : Option Str} {kpos : Pos} (ha : DE X E ca a fa) (hr : DK X E cb kws fs) : DK X E (ca + cb) (⟨nm, a, kpos⟩ :: kws) (fun ρ XQ Q => fa ρ XQ fun x => fs ρ XQ fun xs => Q (x :: xs)) := by
  obtain ⟨t, p, s⟩ := ha
  obtain ⟨u, p2, s2⟩ := hr
  refine ⟨_, pk_cons p p2, fun F B R H σ ρ α XQ Q K hK hX hB S h k => ?_⟩
  refine s F B R H σ ρ α XQ _ _ hK hX (by omega) S h fun v x R1 H1 e1 o1 r1 q1 => ?_
  exact s2 F (B + ca) R1 H1 σ ρ α XQ _ _ hK hX (by omega) (S.ext e1 o1) q1 fun vs xs R2 H2 e2 o2 r2 q2 => k (v :: vs) (x :: xs) R2 H2 (e1.trans e2) (by rw [← Nat.add_assoc]; exact o2) (.cons (r1.ext o1 e2) r2) q2
/-- the parameters' order: the places of the keywords' values -/
def pickL {α : Type} (ix : List Nat) (xs : List α) : List α := ix.filterMap fun i => xs[i]?
theorem paired_get {α β : Type} {r : α → β → Prop} {xs : List α} {ys : List β} (h : Paired r xs ys) : ∀ i : Nat, (xs[i]? = none ∧ ys[i]? = none) ∨ ∃ x y, xs[i]? = some x ∧ ys[i]? = some y ∧ r x y := by
  induction h with
  | nil => intro i; exact .inl ⟨rfl, rfl⟩
  | @cons a b _ _ q _ ih =>
    intro i
    cases i with
    | zero => exact .inr ⟨_, _, rfl, rfl, q⟩
    | succ j => simpa using ih j
theorem paired_pick {α β : Type} {r : α → β → Prop} {xs : List α} {ys : List β} (h : Paired r xs ys) : ∀ ix : List Nat, Paired r (pickL ix xs) (pickL ix ys)
  | [] => .nil
  | i :: ix => by
    unfold pickL
    rw [List.filterMap_cons, List.filterMap_cons]
    rcases paired_get h i with ⟨e1, e2⟩ | ⟨x, y, e1, e2, q⟩
    · rw [e1, e2]; exact paired_pick h ix
    · rw [e1, e2]; exact .cons q (paired_pick h ix)
theorem kbn_of {K : PySem.W.Frag} {x qual : Str} {pr : Arguments} {body : List Stmt} {scope : Scope} {f : Addr} {fd : FuncData} {ps ks : List Str} (ix : List Nat) (F : FunD K x qual pr body scope [] [] f fd)
    (h : ∀ (kV doc pm : Value) (an : Option Addr) (cdv ct : Value) (ws : List Value), ws.length = ks.length → bindArgs (PySem.W.fnOf x qual pr body scope .none kV doc pm an cdv ct) ⟨[], ks.zip ws⟩ = pure (ps.zip (pickL ix ws))) : KBn K fd ps 0 ks (fun _ ws => pickL ix ws) (fun _ zs => pickL ix zs) := by
  obtain ⟨oc, od, dV, kV, doc, pm, an, cdv, ct, osl, rfl, lk, hcd, hD, hK⟩ := F.ex
  rcases hD with ⟨_, rfl⟩ | ⟨e, _⟩
  · refine ⟨fun s us ws X l1 l2 => ?_, fun r1 r2 => paired_pick r2 ix⟩
    rw [List.length_eq_zero_iff.mp l1]
    exact .of_eq (h kV doc pm an cdv ct ws l2)
  · exact absurd rfl e
theorem de_callNK {k : Nat} {f : Addr} {fd : FuncData} {ps ks : List Str} {cost : Nat} {g : DC} {kws : List Keyword} {ix : List Nat} (F : FnD X.prog X.w X.K X.mg X.base k f fd ps cost g) (hr : Room k X.A) (hg : Gl X x) (hm : X.mg x = some (.ref f)) (hk : PySem.W.keepIn X.K (.ref f) = true) (hb : KBn X.K fd ps 0 ks (fun _ ws => pickL ix ws) (fun _ zs => pickL ix zs))
    (hx : Passes (L2.CX X.prog X.w) X E) (ha : DK X E c kws fs) (hall : (backToKw pos (keywordEach kws X.env)).all (·.1.isSome) = true := by rfl) (hks : (backToKw pos (keywordEach kws X.env)).filterMap (·.1) = ks := by rfl) (hdb : (x == ("__debug__" : Str)) = false := by decide)
    (hpl : ((backTo pos (starEach [] X.env)).any (·.1) || (backToKw pos (keywordEach kws X.env)).any (·.1.isNone)) = false := by rfl) :
    DE X E (c + cost) (.Call (.Name x p) [] kws pos) (fun ρ XQ Q => fs ρ XQ fun xs => xs.length = ks.length ∧ (pickL ix xs).length = ps.length ∧ gCall g ρ XQ (pickL ix xs) Q) := by
  obtain ⟨t, pt, s⟩ := ha
  refine ⟨_, pe_callNK F hr hg hm hk hb hx pt hall hks hdb hpl, fun F B R H σ ρ α XQ Q K hK hX hB S h k => ?_⟩
  refine s F B R H σ ρ α XQ _ _ hK hX (by omega) S h fun vs xs R' H' e' o' r' ⟨hl0, hl, q'⟩ => ⟨rfl, by rw [← Paired.length r']; exact hl0, ?_⟩
  exact call_core hK hX (by omega) o' (paired_pick r' ix) hl q' fun v x R2 H2 e2 o2 r2 q2 => k v x R2 H2 (e'.trans e2) (by rw [← Nat.add_assoc]; exact o2) r2 q2
end
end DL

set_option Elab.async false
set_option linter.all false
set_option maxRecDepth 100000
set_option maxHeartbeats 4000000
/-! DL, part p: a lambda handed to a def that tells it or catches. -/
namespace DL
open PySem PySem.Spec PyProof.Rows L2 LamX

/-- try: return (s1, a()) / except x as n: return (s2, n.fld) -/
def TTm (K : PySem.W.Frag) (C : Addr) (fld s1 s2 : Str) : (XK → Hp → VK → Prop) → Hp → VK → Prop := fun tl H Q =>
  tl (fun cls d H' => ∃ b, PySem.W.exmOne K cls (.ref C) = some b ∧ (b = true → cls = .ref C ∧ ∃ (dd : Addr) (fs : List (Str × V)) (v : V), d = some dd ∧ H' dd = some (.xd fs) ∧ fs.lookup fld = some v ∧ ∀ p, H' p = none → Q (.ref p) (upd H' p (.tup [.str s2, v]))) ∧ (b = false → False)) H
    (fun v H1 => [V.str s1, v].length ≤ sizeLine ∧ ∀ p, H1 p = none → Q (.ref p) (upd H1 p (.tup [.str s1, v])))
theorem takes_len {X : Cx} {W : WX} (tk : Takes X W) : Takes X (fun c d σ H => σ.length = X.N.length → W c d σ H) := fun u s' ⟨a, B, sI, pins, σ, H, cls, d, e, I, nb, up, sky, na, os, ag, w⟩ =>
  tk u s' ⟨a, B, sI, pins, σ, H, cls, d, e, I, nb, up, sky, na, os, ag, w I.len⟩
theorem set_at1 {α : Type} {l : List α} {x : α} (h : l.length = 2) : (l.set 1 x)[1]? = some x := by
  rw [List.getElem?_set]
  simp [h]
section
variable {X : Cx}
theorem met_gives {Ng : List Str} {x a e n q fld s1 s2 : Str} {sg : Scope} {g C : Addr} {cdg : Value} {j j2 k k2 : Nat} {p1 p2 p3 p4 p5 p6 p7 p8 p9 p10 p11 p12 p13 p14 : Pos} (T : XfC X.K C) (hno : PySem.W.findIn X.K (.ref C) fld = some none)
    (hge : sg.names.lookup e = some .globalImplicit) (hme : X.mg e = some (.ref C)) (hde : (e == ("__debug__" : Str)) = false) (hNg : Ng = [a, n]) (hnd : Ng.Nodup) (hln : sg.names.lookup n = some .local) (hvn : (n == ("__debug__" : Str)) = false := by decide) (hcn : (n == ("__classdict__" : Str)) = false := by decide) :
    GivesTo X Ng x sg g cdg [.Try [.Return (some (.Tuple [.Constant (.str s1) j p1, .Call (.Name a p2) [] [] p3] k p4)) p5] [.ExceptHandler (some (.Name e p6)) (some n) [.Return (some (.Tuple [.Constant (.str s2) j2 p7, .Attribute (.Name n p8) fld p9] k2 p10)) p11] p12] [] [] p13] a q (TTm X.K C fld s1 s2) := by
  subst hNg
  intro f c' s H Q tl act hc h
  let Y : Cx := (cxOf C8.CX0 X.prog X.w X.K X.mg X.base [a, n] x sg g cdg X.A X.stack s H C8.E0).nox
  have hgl : Gl Y e := hge
  refine ⟨_, pss_one (ps_try_as (X := Y) (c := .ref C) (i := 1) (n := n)
      (tb := fun W D σ H => ∃ Ech : XK, (∀ cls d (σ' : L2.St) H', Ech cls d H' → σ'.length = 2 → W cls d σ' H') ∧ σ[0]? = some (some (.ref f)) ∧ H c' = some (CodeO c' q) ∧ tl Ech H fun v H1 => [V.str s1, v].length ≤ sizeLine ∧ ∀ p, H1 p = none → D.rt (.ref p) (upd H1 p (.tup [.str s1, v])))
      rfl rfl hnd rfl hln ⟨hgl, hde, .inl hme⟩ LamX.takes0 (fun W pn xe tk _ => ?_) (fun a oe cls d pn hz hf => pss_one (ps_ret (pe_tup (pa_cons pe_str (pa_cons (pe_xf T hno hz hf (pe_var (i := 1) rfl (.inl hln) hvn hcn) (by rfl)) pa_nil (by rfl)) (by rfl)))))), ?_⟩
  · refine ⟨fun pins s' σ H' D I h' => ?_⟩
    obtain ⟨Ech, hW, h1, h2, h3⟩ := h'
    have hp := act _ pn xe Ech p2 p3 (takes_len tk) (fun cls d σ' H' he hl => hW cls d σ' H' he hl)
    have hq := pss_one (ps_ret (pos := p5) (pe_tup (pos := p4) (x1 := k) (pa_cons (pe_str (X := Y.tr pn xe) (pos := p1) (x := s1) (j := j)) (pa_cons hp pa_nil (by rfl)) (by rfl))))
    exact hq.run pins s' σ H' D I ⟨h1, h2, h3⟩
  · refine ⟨_, fun cls d σ' H' ⟨b, e1, e2, e3⟩ hl => ⟨b, e1, fun hb a ha => ?_, fun hb => e3 hb⟩, rfl, hc, h⟩
    obtain ⟨ec, dd, fs, v, ed, h1, h2, h3⟩ := e2 hb
    exact ⟨.ref a, set_at1 hl, rfl, ec, dd, fs, v, ed, h1, h2, (by show (2 : Nat) ≤ _; decide), h3⟩

/-- what a call within sees of the slots -/
def reb (ρ : Ro) : Ro := ρ.map fun s => match s with
  | .va x => .va { x with n := x.d.imm }
  | _ => .un
theorem reb_va {ρ : Ro} {i : Nat} {x : Dv} (h : (reb ρ)[i]? = some (.va x)) : ∃ y, ρ[i]? = some (.va y) ∧ x = { y with n := y.d.imm } := by
  unfold reb at h
  rw [List.getElem?_map] at h
  cases e : ρ[i]? with
  | none => rw [e] at h; cases h
  | some s =>
    rw [e] at h
    cases s with
    | va y =>
      have h' : Sl.va { y with n := y.d.imm } = Sl.va x := Option.some.inj h
      cases h'
      exact ⟨y, rfl, rfl⟩
    | un => cases Option.some.inj h
    | ow d n => cases Option.some.inj h
theorem reb_ow {ρ : Ro} {i : Nat} {d : D} {n : Bool} : (reb ρ)[i]? ≠ some (.ow d n) := fun h => by
  unfold reb at h
  rw [List.getElem?_map] at h
  cases e : ρ[i]? with
  | none => rw [e] at h; cases h
  | some s =>
    rw [e] at h
    cases s <;> cases Option.some.inj h
theorem StOk.rebase {F : Fx} {B L : Nat} {R : Reg} {H : Hp} {σ : L2.St} {ρ : Ro} {α : Nat → Addr} (S : StOk F B R H σ ρ α) (hL : L ≤ F.L) : StOk ⟨F.K, H, R, F.st, L⟩ B R H σ (reb ρ) α :=
  ⟨⟨S.hp.inv, S.hp.good, fun _ _ _ e _ => e, fun _ e => e, fun _ r => .inl r, S.hp.tab, Nat.le_trans hL S.hp.lim⟩, by unfold reb; rw [List.length_map]; exact S.len, fun i x h => by
    obtain ⟨y, hy, rfl⟩ := reb_va h
    obtain ⟨v, hv, r⟩ := S.va i y hy
    exact ⟨v, hv, RpD.reI (F := F) (F' := ⟨F.K, H, R, F.st, L⟩) rfl rfl r.1, r.2⟩, fun i d n h => (reb_ow h).elim, fun i j d n d' n' h => (reb_ow h).elim⟩
theorem StOk.name {F : Fx} {B : Nat} {R : Reg} {H : Hp} {σ : L2.St} {ρ : Ro} {α : Nat → Addr} (S : StOk F B R H σ ρ α) {i : Nat} {y : Dv} {v : V} (hv : σ[i]? = some (some v)) (r : Rp F H R y v) : StOk F B R H σ (ρ.set i (.va { y with v := some v })) α :=
  ⟨S.hp, by rw [List.length_set]; exact S.len, fun j x h => by
    rcases set_get h with ⟨rfl, e⟩ | ⟨ne, h⟩
    · cases e
      exact ⟨v, hv, r.1, fun u z => (Option.some.inj z).symm⟩
    · exact S.va j x h, fun j d n h => by
    rcases set_get h with ⟨_, e⟩ | ⟨ne, h⟩
    · cases e
    · exact S.ow j d n h, fun j m d n d' n' h h' => by
    rcases set_get h with ⟨_, e⟩ | ⟨_, h⟩
    · cases e
    · rcases set_get h' with ⟨_, e⟩ | ⟨_, h'⟩
      · cases e
      · exact S.dis j m d n d' n' h h'⟩
/-- x(lambda: body) told by x's try -/
theorem de_met {E : XK} {x a fld s1 s2 : Str} {g cc P C : Addr} {k c i : Nat} {pg : Arguments} {bg : List Stmt} {sg : Scope} {fd : FuncData} {Ng : List Str} {params : Arguments} {body : Expr} {scope : Scope} {fb : TD} {p lpos pos : Pos}
    (G : FunD X.K x x pg bg sg [] [] g fd) (hg : Gl X x) (hm : X.mg x = some (.ref g)) (hb : L2.Binds X.K fd [a] []) (Sg : FnScope Ng [a] sg) (hNg : Ng[0]? = some a) (hva : Vis sg a)
    (hG : ∀ cdg, GivesTo X Ng x sg g cdg bg a (X.env.qual ++ "<lambda>") (TTm X.K C fld s1 s2))
    (TB : TabB X.base X.mg cc P) (hcode : X.env.code = .ref cc) (hmT : (P, X.env.qual ++ "<lambda>") ∈ tabK X.K) (hu : ∀ p ∈ tabK X.K, p.1 = P → p.2 = X.env.qual ++ "<lambda>") (hr : Room (k + 2) X.A) (L : LamS X.env.scope scope) (hdef : defaultsOf params X.env = ([], []))
    (hbind : ∀ (q : Str) (cl : List (Str × Addr)) (pm cv ctv : Value), bindArgs (PySem.W.kla_fn "<lambda>" q params body scope cl pm cv ctv) ⟨[], []⟩ = pure [])
    (exm : PySem.W.exmOne X.K (.ref C) (.ref C) = some true)
    (hbody : ∀ (A : Around) (outer : List Env) (s : Shared) (H : Hp) (E : XK) (f c' : Addr), Room k (A.deeper (lamEnv X scope s.heap.objs.size f c')) → DE (lamCx X A outer s H E scope f c') E c body fb)
    (hdb : (x == ("__debug__" : Str)) = false := by decide) (hd : (a == ("__debug__" : Str)) = false := by decide) (hcd : (a == ("__classdict__" : Str)) = false := by decide) :
    DE X E c (.Call (.Name x p) [.Lambda params body scope lpos] [] pos) (fun ρ XQ Q => ∃ y, ρ[i]? = some (.va y) ∧ ∀ v, fb (reb (ρ.set i (.va { y with v := some v }))) (fun C' f' v' => C' = .ref C ∧ f' = fld ∧ v' = v ∧ Q ⟨.tup [.str s2, y.d], y.fr, none⟩) (fun z => Q ⟨.tup [.str s1, z.d], z.fr, none⟩)) := by
  obtain ⟨oc, od, dV, kV, doc, pm, an, cdv, ct, osl, rfl, lk, hcd', _, _⟩ := G.ex
  refine ⟨_, pe_lamcall (T := tabK X.K) (t := fun E σ H Q => ∀ (A : Around) (outer : List Env) (s : Shared) (H0 : Hp) (f c' : Addr) (hr : Room k (A.deeper (lamEnv X scope s.heap.objs.size f c'))), (hbody A outer s H0 E f c' hr).choose σ H Q) hg hm G.kp lk hcd' hb Sg hNg hva (hG cdv) TB hcode hmT hu hr L hdef hbind
    (fun A outer s H E f c' hr => ⟨fun pins s' σ H' Q I q => (hbody A outer s H E f c' hr).choose_spec.1.run pins s' σ H' Q I (q A outer s H f c' hr)⟩) hdb hd hcd, fun F B R H σ ρ α XQ Q K hK hX hB S ⟨y, hy, hfb⟩ k => ?_⟩
  have hT : F.T = tabK X.K := by unfold Fx.T; rw [hK]
  refine ⟨by rw [← hT]; exact S.hp.tab, fun H1 eN T1 => ?_⟩
  have e1 : Ext F R H R H1 := ⟨fun _ r => r, fun a o _ h nt => eN a o h nt, fun _ r => .inl r, fun a h o e nt => h o (eN a o e nt) nt⟩
  have o1 : HpOk F B R H1 := ⟨fun p e => by
      obtain ⟨a, xs, c, n, s, h1, h2, r⟩ := S.hp.inv p e
      exact ⟨a, xs, c, n, s, eN _ _ h1 NoTbl.lst, eN _ _ h2 NoTbl.lst, r⟩, fun a r => let ⟨m, o, h, nt⟩ := S.hp.good a r; ⟨m, o, eN a o h nt, nt⟩, fun a o m h nt => eN a o (S.hp.ent a o m h nt) nt, fun a h => S.hp.ent2 a (e1.there a h), S.hp.reg0, by rw [hT]; exact T1, S.hp.lim⟩
  have S1 := S.ext e1 o1
  obtain ⟨v, hv, rv⟩ := S1.va i y hy
  have S2 := (S1.name hv rv).rebase (L := B + c) hB
  intro A outer s0 H0 f c' hr'
  refine (hbody A outer s0 H0 _ f c' hr').choose_spec.2 ⟨F.K, H1, R, F.st, B + c⟩ B R H1 σ _ α _ _ _ hK ⟨fun _ _ z => (nomatch z.1), ?_⟩ (Nat.le_refl _) S2 (hfb v) ?_
  · -- raised
    rintro C' f' v' dx H' ⟨eC, rfl, rfl, q⟩ hk ht hi hb' hd'
    cases eC
    refine ⟨true, exm, fun _ => ⟨rfl, dx, _, v', rfl, hd', by simp, fun p hp => ?_⟩, fun z => nomatch z⟩
    have e2 : Ext F R H1 R H' := ⟨fun _ r => r, fun a o m h nt => hk a o m h nt, fun _ r => .inl r, ht⟩
    have o2 : HpOk F (B + c) R H' := ⟨hi, fun a r => let ⟨m, o, h, nt⟩ := o1.good a r; ⟨m, o, hk a o m h nt, nt⟩, fun a o m h nt => hk a o m (o1.ent a o m h nt) nt, fun a h => o1.ent2 a (ht a h), o1.reg0, by rw [hT]; have hb2 : Tabs (tabK F.K) H' := hb'; rw [hK] at hb2; exact hb2, S.hp.lim⟩
    have r3 := (rv.ext o1 e2).fr
    have e3 : Ext F R H' R (upd H' p (.tup [.str s2, v'])) := .new0 hp
    exact k (.ref p) ⟨.tup [.str s2, y.d], y.fr, none⟩ R _ ((e1.trans e2).trans e3) (o2.new0 hp .tup) (.of (.tup (.of upd_same) (.cons (.str s2) (.cons (r3.ext o2 e3) .nil)))) q
  · -- told
    intro u z R2 H2 e2 o2 r2 q2
    refine ⟨(by show (2 : Nat) ≤ _; decide), fun p hp => ?_⟩
    have n2 : ∀ a, Nn H1 a → Nn F.H0 a := o1.ent2
    have e2' : Ext F R H1 R2 H2 := ⟨e2.reg, e2.keep, e2.new, e2.there⟩
    have o2' : HpOk F (B + c) R2 H2 := ⟨o2.inv, o2.good, fun a u m e nt => o2.ent a u m (o1.ent a u m e nt) nt, fun a e => n2 a (o2.ent2 a e), fun a r => (o2.reg0 a r).elim (o1.reg0 a) fun z => .inr (n2 a z), o2.tab, S.hp.lim⟩
    have mv : Mv ⟨F.K, H1, R, F.st, B + c⟩ R2 H2 F R2 H2 z.n z.n := ⟨rfl, fun _ z => z, fun _ _ r h _ => ⟨r, h⟩, fun _ _ h => h, fun z => ⟨z, fun a u _ _ w => n2 a w⟩⟩
    have r3 : RpD F H2 R2 z.fr u z.d := Rp.fr ⟨r2.1.mv mv, r2.2⟩
    have e3 : Ext F R2 H2 R2 (upd H2 p (.tup [.str s1, u])) := .new0 hp
    exact k (.ref p) ⟨.tup [.str s1, z.d], z.fr, none⟩ R2 _ ((e1.trans e2').trans e3) (o2'.new0 hp .tup) (.of (.tup (.of upd_same) (.cons (.str s1) (.cons (r3.ext o2' e3) .nil)))) q2
end
end DL

set_option Elab.async false
set_option linter.all false
set_option maxRecDepth 100000
set_option maxHeartbeats 4000000
/-! DL, part q: the law's end where the law's def runs with no guard ahead. -/
namespace DL
open PySem PySem.Spec PyProof.Rows L2 LamX

/-- the abstract heap at the law's entry: the tables, the script where the written part does not know it -/
def startH (K : PySem.W.Frag) (ts : List Addr) (a : Addr) (o : Obj) (xs : List V) : Hp := fun b => if b ∈ ts then some (.tbl #[]) else if b = a ∧ K.lookup a = none then some (.frz o (.lst xs)) else none
theorem startH_cases {K : PySem.W.Frag} {ts : List Addr} {a b : Addr} {o : Obj} {xs : List V} {u : HO} (h : startH K ts a o xs b = some u) : (b ∈ ts ∧ u = .tbl #[]) ∨ (b ∉ ts ∧ b = a ∧ K.lookup a = none ∧ u = .frz o (.lst xs)) := by
  unfold startH at h
  by_cases h1 : b ∈ ts
  · rw [if_pos h1] at h
    exact .inl ⟨h1, (Option.some.inj h).symm⟩
  · rw [if_neg h1] at h
    by_cases h2 : b = a ∧ K.lookup a = none
    · rw [if_pos h2] at h
      exact .inr ⟨h1, h2.1, h2.2, (Option.some.inj h).symm⟩
    · rw [if_neg h2] at h; cases h
/-- what the head must tell of the law's def -/
structure LawG (P : Program) (w : World) (K : PySem.W.Frag) (mg : Str → Option Value) (n : Nat) (fa : Addr) (h : Heap) (cs : List (Addr × Addr)) : Prop where
  tab : ∀ p ∈ cs, h.get? p.2 = some { cls := .none, data := .fields #[] }
  out : ∀ p ∈ cs, K.lookup p.2 = none
  code : ∀ p ∈ cs, PySem.W.CodeHd h p.1 p.2
  run : ∀ (base : Heap) (H : Hp) (s : Shared) (a : Addr) (ns : List Int), K.In base → base.Ns mainGlobals mg → (∀ p ∈ cs, TabB base mg p.1 p.2) → Env0 P w K mg base callerA [] s H → ns.length ≤ n → (∀ z ∈ ns, Builtin.Int.intBits z ≤ 1048576) → (∀ p ∈ cs, H p.2 = some (.tbl #[])) → SqF K H a (ns.map V.int) →
    codeAny (model P w) callerA (.call (.ref fa) ⟨[.ref a], []⟩) (CR (L2.CX P w) [] P w H s (fun v _ => v = .bl true) fun _ _ _ => False) s
theorem endG {P : Program} {w : World} {K : PySem.W.Frag} {mg mb : Str → Option Value} {n : Nat} {fa a : Addr} {cs : List (Addr × Addr)} {s : Shared} {vs : List Value} {ns : List Int} (G : LawG P w K mg n fa s.heap cs)
    (KX : K.In s.heap) (hns : s.heap.Ns mainGlobals mg) (hb : s.heap.Ns builtinsNs mb) (hbb : ∀ x : Str, x ≠ "__name__" → mb x = bootBuiltins x) (hlim : s.heap.NoLimit) (hg : s.gens = #[])
    (hbm : ∃ (bm : Addr) (ob : Obj), mg "__builtins__" = some (.ref bm) ∧ bm ≠ builtinsNs ∧ s.heap.get? bm = some ob ∧ ob.cls = .type "module" ∧ ob.dict = some builtinsNs ∧ ob.data = .plain)
    (ha : s.heap.get? a = some { cls := .type "list", data := .seq vs.toArray }) (hi : IntsAre vs ns) (hn : ns.length ≤ n) (hl : n ≤ sizeLine) (hbits : ∀ z ∈ ns, Builtin.Int.intBits z ≤ 1048576) :
    codeAny (model P w) callerA (.call (.ref fa) ⟨[.ref a], []⟩) (fun r s' => r = .ok (.ret (.bool true)) ∧ OldK s.heap s'.heap ∧ s'.os = s.os ∧ AllBare s'.gens) s := by
  let ts : List Addr := cs.map (·.2)
  let oa : Obj := { cls := .type "list", data := .seq vs.toArray }
  let H : Hp := startH K ts a oa (ns.map V.int)
  have lz : ns.length ≤ sizeLine := Nat.le_trans hn hl
  have rv := vals_ints hi
  have inT : ∀ {b : Addr}, b ∈ ts → s.heap.get? b = some { cls := .none, data := .fields #[] } := fun {b} hb => by
    obtain ⟨p, hp, e⟩ := List.mem_map.mp hb
    rw [← e]; exact G.tab p hp
  have aT : a ∉ ts := fun z => by
    have q := (inT z).symm.trans ha
    cases q
  have tH : ∀ p ∈ cs, H p.2 = some (.tbl #[]) := fun p hp => if_pos (List.mem_map.mpr ⟨p, hp, rfl⟩)
  have hok : HOk P w H s.heap := fun b u hu => by
    rcases startH_cases hu with ⟨hb, rfl⟩ | ⟨_, rfl, _, rfl⟩
    · exact inT hb
    · exact ⟨ha, by rw [List.length_map]; exact lz, vs, _, rv, ha⟩
  -- what is no list and no empty table is not tracked
  have free : ∀ {b : Addr} {o : Obj}, s.heap.get? b = some o → (∀ us m, o.data ≠ .seq us m) → o.data ≠ .fields #[] → H b = none := fun {b o} e n1 n2 => by
    cases q : H b with
    | none => rfl
    | some u =>
      rcases startH_cases q with ⟨hb, _⟩ | ⟨_, rfl, _, _⟩
      · rw [inT hb] at e; cases e; exact (n2 rfl).elim
      · rw [ha] at e; cases e; exact (n1 _ _ rfl).elim
  have down : ∀ {b : Addr} {o : Obj}, s.heap.get? b = some o → H b = none → (hidT s.heap H).get? b = some o := fun e z => hidT_get e z
  have ns' : ∀ {b : Addr} {m : Str → Option Value}, s.heap.Ns b m → (hidT s.heap H).Ns b m := fun {b m} ⟨o, es, ep, e, d, r⟩ =>
    ⟨o, es, ep, down e (free e (fun us m z => by rw [d] at z; cases z) fun z => by rw [d] at z; cases z), d, r⟩
  have kin : K.In (hidT s.heap H) := fun b o e => down (KX b o e) (by
    cases q : H b with
    | none => rfl
    | some u =>
      rcases startH_cases q with ⟨hb, _⟩ | ⟨_, rfl, hk, _⟩
      · obtain ⟨p, hp, ep⟩ := List.mem_map.mp hb
        rw [← ep, G.out p hp] at e; cases e
      · rw [hk] at e; cases e)
  have sq : SqF K H a (ns.map V.int) := by
    cases hk : K.lookup a with
    | some o =>
      have e := KX a o hk
      rw [ha] at e
      cases e
      exact .inr ⟨_, vs.toArray, _, hk, rfl, rfl, rfl, by rw [List.size_toArray, hi.length]; exact lz, by simpa using rv⟩
    | none => exact .inl ⟨oa, (if_neg aT).trans (if_pos ⟨rfl, hk⟩)⟩
  have tb : ∀ p ∈ cs, TabB (hidT s.heap H) mg p.1 p.2 := fun p hp => by
    have hTp := G.tab p hp
    refine ⟨?_, ?_, fun z => ?_⟩
    · obtain ⟨o, us, file, tf, flags, tg, inF, text, tt, e1, r1, r2, r3, r4, r5, r6, r7, r8, hne⟩ := G.code p hp
      exact ⟨o, us, file, tf, flags, tg, inF, text, tt, down e1 (free e1 (fun us m z => by rw [r2] at z; cases z) fun z => by rw [r2] at z; cases z; simp at r3), r1, r2, r3, r4, r5, r6, r7, r8, hne⟩
    · obtain ⟨bm, ob, b1, b2, b3, b4, b5, b6⟩ := hbm
      refine ⟨bm, ob, b1, b2, fun q => ?_, fun q => ?_, down b3 (free b3 (fun us m z => by rw [b6] at z; cases z) fun z => by rw [b6] at z; cases z), b4, b5, b6⟩
      · obtain ⟨o, es, ep, e, hd, _⟩ := hns
        rw [q, e] at b3; cases b3; rw [hd] at b6; cases b6
      · rw [q, hTp] at b3; cases b3; cases b6
    · obtain ⟨o, es, ep, e, hd, _⟩ := hns
      rw [z, hTp] at e; cases e; cases hd
  have e0 : Env0 P w K mg (hidT s.heap H) callerA [] s H := ⟨rfl, ⟨kin, ns' hns, ⟨mb, ns' hb, hbb⟩, let ⟨mc, h1, h2⟩ := hlim; ⟨mc, ns' h1, h2⟩⟩, fun b o e => of_hidT e, Nat.le_of_eq (hidT_size _ _), trivial, fun b hb => absurd (show b ∈ ([] : List Addr) from hb) (by simp), hok, .of_eq hg⟩
  refine codeAny_mono (G.run _ H s a ns kin (ns' hns) tb e0 hn hbits tH sq) fun r s' h => ?_
  cases r with
  | error e =>
    obtain ⟨_, _, _, _, _, _, _, _, _, _, _, _, z⟩ := h
    exact z.elim
  | ok fl =>
    cases fl with
    | next => exact False.elim h
    | brk => exact False.elim h
    | cont => exact False.elim h
    | ret u =>
      obtain ⟨v, H', os, bare, un, hok', r', q⟩ := h
      have q' : v = .bl true := q
      subst q'
      obtain rfl : u = Value.bool true := r'
      have same : ∀ b o, b ∉ ts → s.heap.get? b = some o → s'.heap.get? b = some o := fun b o nb e => by
        cases q : H b with
        | none => exact un.keep b o e q (by intro z; exact absurd (show b ∈ ([] : List Addr) from z) (by simp)) (by simp)
        | some u =>
          rcases startH_cases q with ⟨hb, _⟩ | ⟨_, rfl, _, rfl⟩
          · exact absurd hb nb
          · have z2 := un.frzs b oa _ q
            obtain ⟨e2, _⟩ := hok' b _ z2
            rw [ha] at e; cases e
            exact e2
      have more : ∀ p ∈ cs, ∃ ps : Array Value, s'.heap.get? p.2 = some { cls := .none, data := .fields ps } := fun p hp => by
        obtain ⟨ps, z⟩ := un.tbls p.2 #[] (tH p hp)
        exact ⟨_, hok' p.2 _ z⟩
      refine ⟨rfl, ⟨fun b o e => ?_, fun b o e => ?_⟩, os, bare⟩
      · by_cases hb : b ∈ ts
        · obtain ⟨p, hp, rfl⟩ := List.mem_map.mp hb
          obtain ⟨ps, hm⟩ := more p hp
          rw [G.tab p hp] at e
          cases e
          exact .inr (.inl ⟨((G.code p hp).tab (G.tab p hp)).isCodeTable, rfl, #[], ps, rfl, by rw [Array.empty_append]; exact hm⟩)
        · exact .inl (same b o hb e)
      · by_cases hb : b ∈ ts
        · obtain ⟨p, hp, rfl⟩ := List.mem_map.mp hb
          obtain ⟨ps, hm⟩ := more p hp
          exact ⟨_, hm⟩
        · exact ⟨o, same b o hb e⟩
theorem walk_G {l : PySem.W.OpenLaw} {n : Nat} {q : Program} {loose : List Str} {XP : (Str → Option Value) → Heap → Prop} {YP : World → Heap → Prop} {d : DefRec} (hn : l.most = some n) (hn2 : n ≤ sizeLine) (hdf : d.params.defaults = [])
    (F : ∀ (w : World) (mg : Str → Option Value) (fa : Addr) (h : Heap), YP w h → h.Ns mainGlobals mg → mg d.name = some (.ref fa) → ∃ (K : PySem.W.Frag) (cs : List (Addr × Addr)), K.In h ∧ LawG l.prog w K mg n fa h cs) :
    PySem.W.WalkO q loose XP YP l.row.toRowW d [] (fun f vs => PySem.call f vs) := by
  refine Att.attach_callB hn hdf fun w s₀ s₁ mg mb fa o pm cd doc a vs ns G Y ho hd hcd hmg hobj hints hlen hbits hg => ?_
  obtain ⟨K, cs, KX, L⟩ := F w mg fa _ Y G.T.g hmg
  exact endG L KX G.T.g G.T.b G.T.builtins G.T.nolimit hg G.T.bmain hobj hints hlen hn2 hbits
end DL

set_option Elab.async false
set_option linter.all false
set_option maxRecDepth 100000
set_option maxHeartbeats 4000000
/-! DL, part r: parts told side by side, own ones among them; an own list's pop. -/
namespace DL
open PySem PySem.Spec PyProof.Rows L2

/-- a part: a value, or an own list or dict -/
inductive Pt where
  | va (x : Dv) | ow (d : D) (n : Bool)
def Pt.sl : Pt → Sl
  | .va x => .va x
  | .ow d n => .ow d n
/-- a part's value at H; H0: the heap ahead of all parts -/
def PtOk (F : Fx) (H0 H : Hp) (R : Reg) : Pt → V → Prop
  | .va x, v => Rp F H R x v
  | .ow d n, v => ∃ a, v = .ref a ∧ Own F H R a d n ∧ Nn H0 a
theorem PtOk.ext {F : Fx} {B : Nat} {H0 H H' : Hp} {R R' : Reg} {p : Pt} {v : V} (h : PtOk F H0 H R p v) (I : HpOk F B R H) (e : Ext F R H R' H') : PtOk F H0 H' R' p v := by
  cases p with
  | va x => exact Rp.ext h I e
  | ow d n => obtain ⟨a, e1, w, z⟩ := h; exact ⟨a, e1, w.ext I e, z⟩
theorem PtOk.back {F : Fx} {H0 H1 H : Hp} {R : Reg} {p : Pt} {v : V} (h : PtOk F H1 H R p v) (e : ∀ a, Nn H1 a → Nn H0 a) : PtOk F H0 H R p v := by
  cases p with
  | va x => exact h
  | ow d n => obtain ⟨a, e1, w, z⟩ := h; exact ⟨a, e1, w, e a z⟩
abbrev TP := Ro → XQT → (Pt → Prop) → Prop
/-- a part's expression -/
def DPt (X : Cx) (E : XK) (c : Nat) (e : Expr) (f : TP) : Prop := ∃ t : TE, PE X e t ∧ ∀ F B R H σ ρ α XQ Q (K : VK), F.K = X.K → XLink F E XQ → B + c ≤ F.L → StOk F B R H σ ρ α → f ρ XQ Q →
  (∀ v p R' H', Ext F R H R' H' → HpOk F (B + c) R' H' → PtOk F H H' R' p v → Q p → K v H') → t σ H K
section
variable {X : Cx} {E : XK} {c ca cb cc : Nat} {a b d e : Expr} {es : List Expr} {fa fb fe fd : TD} {pa pb pd : TP} {fs : TDs} {pos p : Pos} {x y z : Str}
theorem dp_va (h : DE X E c e fe) : DPt X E c e (fun ρ XQ Q => fe ρ XQ fun x => Q (.va x)) := by
  obtain ⟨t, p, s⟩ := h
  exact ⟨t, p, fun F B R H σ ρ α XQ Q K hK hX hB S h k => s F B R H σ ρ α XQ _ K hK hX hB S h fun v x R' H' e o r q => k v (.va x) R' H' e o r q⟩
theorem dp_ow (h : DN X E c e fe) : DPt X E c e (fun ρ XQ Q => fe ρ XQ fun x => Q (.ow x.d x.n)) := by
  obtain ⟨t, p, s⟩ := h
  exact ⟨t, p, fun F B R H σ ρ α XQ Q K hK hX hB S h k => s F B R H σ ρ α XQ _ K hK hX hB S h fun a d n R' H' e o w hn q => k (.ref a) (.ow d n) R' H' e o ⟨a, rfl, w, hn⟩ q⟩
/-- a slot gets an own object -/
theorem StOk.seto {F : Fx} {B : Nat} {R : Reg} {H : Hp} {σ : L2.St} {ρ : Ro} {α : Nat → Addr} (S : StOk F B R H σ ρ α) {i : Nat} {a : Addr} {d : D} {n : Bool} (w : Own F H R a d n) (ne : ∀ j d n, ρ[j]? = some (.ow d n) → α j ≠ a) :
    StOk F B R H (σ.set i (some (.ref a))) (ρ.set i (.ow d n)) (fun j => if j = i then a else α j) := by
  refine ⟨S.hp, by rw [List.length_set, List.length_set]; exact S.len, fun j y hj => ?_, fun j d' n' hj => ?_, fun j m d1 n1 d2 n2 hj hm e => ?_⟩
  · rcases set_get hj with ⟨rfl, z⟩ | ⟨nj, hj⟩
    · cases z
    · obtain ⟨u, e1, q⟩ := S.va j y hj
      exact ⟨u, by rw [List.getElem?_set_ne (Ne.symm nj)]; exact e1, q⟩
  · have hl : j < (ρ.set i (.ow d n)).length := (List.getElem?_eq_some_iff.mp hj).1
    rcases set_get hj with ⟨ej, z⟩ | ⟨nj, hj'⟩
    · cases z
      rw [List.length_set, ← S.len] at hl
      rw [ej] at hl ⊢
      rw [if_pos rfl]
      exact ⟨by rw [List.getElem?_set_self hl], w⟩
    · rw [if_neg nj]
      obtain ⟨e1, w1⟩ := S.ow j d' n' hj'
      exact ⟨by rw [List.getElem?_set_ne (Ne.symm nj)]; exact e1, w1⟩
  · rcases set_get hj with ⟨ej, z⟩ | ⟨nj, hj'⟩
    · rcases set_get hm with ⟨em, _⟩ | ⟨nm, hm'⟩
      · rw [ej, em]
      · rw [if_pos ej, if_neg nm] at e
        exact absurd e.symm (ne m _ _ hm')
    · rcases set_get hm with ⟨em, _⟩ | ⟨nm, hm'⟩
      · rw [if_neg nj, if_pos em] at e
        exact absurd e (ne j _ _ hj')
      · rw [if_neg nj, if_neg nm] at e
        exact S.dis j m _ _ _ _ hj' hm' e
/-- a slot gets a part; M: the own slots stay among the places in M, or are the part's -/
theorem StOk.setpt {F : Fx} {B : Nat} {R : Reg} {H0 H : Hp} {σ : L2.St} {ρ : Ro} {α : Nat → Addr} (S : StOk F B R H σ ρ α) {i : Nat} {p : Pt} {v : V} (w : PtOk F H0 H R p v) (ne : ∀ a, v = .ref a → Nn H0 a → ∀ j d n, ρ[j]? = some (.ow d n) → α j ≠ a) :
    ∃ α', StOk F B R H (σ.set i (some v)) (ρ.set i p.sl) α' ∧ ∀ j d n, (ρ.set i p.sl)[j]? = some (.ow d n) → (∃ d n, ρ[j]? = some (.ow d n) ∧ α' j = α j) ∨ (v = .ref (α' j) ∧ ∃ d n, p = .ow d n) := by
  cases p with
  | va x => exact ⟨α, S.setva i w, fun j d n h => by
      rcases set_get h with ⟨_, e⟩ | ⟨_, h⟩
      · cases e
      · exact .inl ⟨d, n, h, rfl⟩⟩
  | ow d n =>
    obtain ⟨a, rfl, w1, z⟩ := w
    refine ⟨_, S.seto w1 (ne a rfl z), fun j d' n' h => ?_⟩
    rcases set_get h with ⟨ej, e⟩ | ⟨nj, h⟩
    · exact .inr ⟨by simp [ej], d, n, rfl⟩
    · exact .inl ⟨d', n', h, by simp [nj]⟩
theorem pt_ne {F : Fx} {H0 H : Hp} {R : Reg} {p p' : Pt} {a : Addr} {d : D} {n : Bool} (w : Own F H0 R a d n) (hn : Nn H0 a) : False := by
  obtain ⟨o, ho, nt⟩ := w.some
  exact hn o ho nt
/-- a, b = e, f -/
theorem ds_par2 (l : List Nat) {i j : Nat} {px py pt : Pos} {kt k2 : Nat} {pt2 : Pos} (ha : DPt X E ca a pa) (hb : DPt X E cb b pb) (hc : X.calm = true) (hN : X.N.Nodup) (hi : X.N[i]? = some x) (hj : X.N[j]? = some y) (hij : i ≠ j)
    (hx : X.env.scope.names.lookup x = some .local) (hy : X.env.scope.names.lookup y = some .local)
    (hw : swappedStores [.Tuple [.Name x px, .Name y py] kt pt] (.Tuple [a, b] k2 pt2) X.env = pure (some [x, y]))
    (hs : swapsWithSole [.Tuple [.Name x px, .Name y py] kt pt] (.Tuple [a, b] k2 pt2) pos.line X.env = pure false := by rfl) (h1 : starEach [a, b] X.env = (false, eval a X.env) :: starEach [b] X.env := by rfl) (h2 : starEach [b] X.env = (false, eval b X.env) :: starEach [] X.env := by rfl) :
    DS X E (ca + cb) (.Assign [.Tuple [.Name x px, .Name y py] kt pt] (.Tuple [a, b] k2 pt2) pos) (fun N ρ XQ => pa (frz l ρ) XQ fun u => pb (frz l ρ) XQ fun v => N.nx (((frz l ρ).set i u.sl).set j v.sl)) := by
  obtain ⟨ta, p1, s1⟩ := ha
  obtain ⟨tb, p2, s2⟩ := hb
  refine ⟨_, ps_par hc hN hi hj hij hx hy (pa_cons p1 (pa_cons p2 pa_nil h2) h1) hw hs, fun F B R H σ ρ α XQ N K hK hX hB S h k => ?_⟩
  obtain ⟨R1, S1, hR⟩ := S.frzs l
  have z0 : Fz F R H R1 H := ⟨hR, fun _ _ _ h _ => h, fun _ _ h => h⟩
  refine s1 F B R1 H σ (frz l ρ) α XQ _ _ hK hX (by omega) S1 h fun v u R2 H2 e2 o2 r2 q2 => ?_
  refine s2 F (B + ca) R2 H2 σ (frz l ρ) α XQ _ _ hK hX (by omega) (S1.ext e2 o2) q2 fun v' u' R3 H3 e3 o3 r3 q3 => ⟨v, v', rfl, ?_⟩
  have S3 := (S1.ext e2 o2).ext e3 o3
  have r2' := r2.ext o2 e3
  have own0 : ∀ a, Nn H a → ∀ j d n, (frz l ρ)[j]? = some (.ow d n) → α j ≠ a := fun a hn j d n hj ej => by
    obtain ⟨o, ho, nt⟩ := (S1.ow j d n hj).2.some
    exact hn o (ej ▸ ho) nt
  obtain ⟨α1, S4, hα⟩ := S3.setpt (i := i) r2' fun a _ hn => own0 a hn
  obtain ⟨α2, S5, _⟩ := S4.setpt (i := j) r3 fun a ea hn j' d n hj' ej => by
    rcases hα j' d n hj' with ⟨d0, n0, h0, e0⟩ | ⟨e0, d0, n0, ep⟩
    · exact own0 a (e2.there a hn) j' d0 n0 h0 (e0 ▸ ej)
    · subst ep
      obtain ⟨a2, ea2, w2, _⟩ := r2
      rw [e0] at ea2
      cases ea2
      obtain ⟨o, ho, nt⟩ := w2.some
      exact hn o (ej ▸ ho) nt
  exact k.nx _ H3 _ R3 α2 (z0.trans ((e2.trans e3).fz S1.hp)) (by rw [← Nat.add_assoc]; exact S5) q3
/-- a, b, c = e, f, g -/
theorem ds_par3 (l : List Nat) {i j m : Nat} {px py pz pt : Pos} {kt k2 : Nat} {pt2 : Pos} (ha : DPt X E ca a pa) (hb : DPt X E cb b pb) (hd : DPt X E cc d pd) (hc : X.calm = true) (hN : X.N.Nodup) (hi : X.N[i]? = some x) (hj : X.N[j]? = some y) (hm : X.N[m]? = some z) (hij : i ≠ j) (him : i ≠ m) (hjm : j ≠ m)
    (hx : X.env.scope.names.lookup x = some .local) (hy : X.env.scope.names.lookup y = some .local) (hz : X.env.scope.names.lookup z = some .local)
    (hw : swappedStores [.Tuple [.Name x px, .Name y py, .Name z pz] kt pt] (.Tuple [a, b, d] k2 pt2) X.env = pure (some [x, y, z]))
    (hs : swapsWithSole [.Tuple [.Name x px, .Name y py, .Name z pz] kt pt] (.Tuple [a, b, d] k2 pt2) pos.line X.env = pure false := by rfl) (h1 : starEach [a, b, d] X.env = (false, eval a X.env) :: starEach [b, d] X.env := by rfl) (h2 : starEach [b, d] X.env = (false, eval b X.env) :: starEach [d] X.env := by rfl) (h3 : starEach [d] X.env = (false, eval d X.env) :: starEach [] X.env := by rfl) :
    DS X E (ca + cb + cc) (.Assign [.Tuple [.Name x px, .Name y py, .Name z pz] kt pt] (.Tuple [a, b, d] k2 pt2) pos) (fun N ρ XQ => pa (frz l ρ) XQ fun u => pb (frz l ρ) XQ fun v => pd (frz l ρ) XQ fun w => N.nx ((((frz l ρ).set i u.sl).set j v.sl).set m w.sl)) := by
  obtain ⟨ta, p1, s1⟩ := ha
  obtain ⟨tb, p2, s2⟩ := hb
  obtain ⟨td, p3, s3⟩ := hd
  refine ⟨_, ps_par3 hc hN hi hj hm hij him hjm hx hy hz (pa_cons p1 (pa_cons p2 (pa_cons p3 pa_nil h3) h2) h1) hw hs, fun F B R H σ ρ α XQ N K hK hX hB S h k => ?_⟩
  obtain ⟨R1, S1, hR⟩ := S.frzs l
  have z0 : Fz F R H R1 H := ⟨hR, fun _ _ _ h _ => h, fun _ _ h => h⟩
  refine s1 F B R1 H σ (frz l ρ) α XQ _ _ hK hX (by omega) S1 h fun v u R2 H2 e2 o2 r2 q2 => ?_
  refine s2 F (B + ca) R2 H2 σ (frz l ρ) α XQ _ _ hK hX (by omega) (S1.ext e2 o2) q2 fun v' u' R3 H3 e3 o3 r3 q3 => ?_
  have S3 := (S1.ext e2 o2).ext e3 o3
  have r2' := r2.ext o2 e3
  refine s3 F (B + ca + cb) R3 H3 σ (frz l ρ) α XQ _ _ hK hX (by omega) S3 q3 fun v2 u2 R4 H4 e4 o4 r4 q4 => ⟨v, v', v2, rfl, ?_⟩
  have S4 := S3.ext e4 o4
  have r2'' := r2'.ext o3 e4
  have r3' := r3.ext o3 e4
  have own0 : ∀ a, Nn H a → ∀ j d n, (frz l ρ)[j]? = some (.ow d n) → α j ≠ a := fun a hn j d n hj ej => by
    obtain ⟨o, ho, nt⟩ := (S1.ow j d n hj).2.some
    exact hn o (ej ▸ ho) nt
  have clash : ∀ {G G1 : Hp} {R : Reg} {p : Pt} {v : V} {a : Addr} {d0 : D} {n0 : Bool}, PtOk F G1 G R p v → p = .ow d0 n0 → v = .ref a → Nn G a → False := fun {G G1 R p v a d0 n0} w e ea hn => by
    subst e
    obtain ⟨a2, ea2, w2, _⟩ := w
    rw [ea] at ea2
    cases ea2
    obtain ⟨o, ho, nt⟩ := w2.some
    exact hn o ho nt
  obtain ⟨α1, S5, hα⟩ := S4.setpt (i := i) r2'' fun a _ hn => own0 a hn
  have own1 : ∀ a, Nn H2 a → ∀ j' d n, ((frz l ρ).set i u.sl)[j']? = some (.ow d n) → α1 j' ≠ a := fun a hn j' d n hj' ej => by
    rcases hα j' d n hj' with ⟨d0, n0, h0, e0⟩ | ⟨e0, d0, n0, ep⟩
    · exact own0 a (e2.there a hn) j' d0 n0 h0 (e0 ▸ ej)
    · exact clash r2 ep (ej ▸ e0) hn
  obtain ⟨α2, S6, hα2⟩ := S5.setpt (i := j) r3' fun a _ hn => own1 a hn
  obtain ⟨α3, S7, _⟩ := S6.setpt (i := m) r4 fun a ea hn j' d n hj' ej => by
    rcases hα2 j' d n hj' with ⟨d0, n0, h0, e0⟩ | ⟨e0, d0, n0, ep⟩
    · exact own1 a (e3.there a hn) j' d0 n0 h0 (e0 ▸ ej)
    · exact clash r3 ep (ej ▸ e0) hn
  have e : B + (ca + cb + cc) = B + ca + cb + cc := by omega
  exact k.nx _ H4 _ R4 α3 (z0.trans (((e2.trans e3).trans e4).fz S1.hp)) (by rw [e]; exact S7) q4
theorem rpl_erase {F : Fx} {H : Hp} {R : Reg} : ∀ {n : Bool} {vs : List V} {ds : List D}, RpL F H R n vs ds → ∀ k : Nat, RpL F H R n (vs.eraseIdx k) (ds.eraseIdx k)
  | _, _, _, .nil, _ => .nil
  | _, _, _, .cons a t, 0 => t
  | _, _, _, .cons a t, k + 1 => .cons a (rpl_erase t k)
/-- list(e): a new list, nobody else's -/
theorem dn_list {p1 : Pos} (hg : Gl X "list") (hm : X.mg "list" = none) (ha : DA X E c [e] fs) (he : starEach [e] X.env = (false, eval e X.env) :: starEach [] X.env := by rfl) (hpl : (backTo pos (starEach [] X.env)).any (·.1) = false := by rfl) :
    DN X E c (.Call (.Name "list" p1) [e] [] pos) (fun ρ XQ Q => fs ρ XQ fun xs => ∃ x ds, xs = [x] ∧ x.d.seq = some ds ∧ Q ⟨.lst ds, x.fr, none⟩) := by
  obtain ⟨t, pt, s⟩ := ha
  refine ⟨_, pe_callTy call_list_of hg hm (by decide +kernel) pt (by decide) (by decide) he hpl, fun F B R H σ ρ α XQ Q K hK hX hB S h k => ?_⟩
  refine s F B R H σ ρ α XQ _ _ hK hX hB S h fun vs xs R1 H1 e1 o1 r1 ⟨x, ds, ex, ed, q⟩ => ?_
  subst ex
  cases r1 with
  | @cons _ v _ _ r1 rn =>
  cases rn
  have fin : ∀ (us : List V), RpL F H1 R1 x.fr us ds → ∀ q0, H1 q0 = none → K (.ref q0) (upd H1 q0 (.lst us)) := fun us lu q0 hq =>
    k q0 (.lst ds) x.fr R1 _ (e1.trans (.new0 hq)) (o1.new0 hq .lst) ⟨not_frozen o1 hq, mx_none o1.inv hq, o1.ent2 q0 (.of hq), ⟨us, upd_same, lu.ext o1 (.new0 hq)⟩⟩ (e1.there q0 (.of hq)) q
  obtain ⟨d, n, vo⟩ := x
  cases d <;> try (cases ed; done)
  case lst ds' =>
    cases ed
    obtain ⟨a, us, rfl, ha, la⟩ := r1.lstL rfl
    exact ⟨a, us, rfl, .inl (.of ha), fin us la⟩
  case tup ds' =>
    cases ed
    obtain ⟨a, us, rfl, ha, la⟩ := r1.tupL rfl
    exact ⟨a, us, rfl, .inr (hK ▸ ha), fin us la⟩
/-- x.append(y.pop(e)), x, y own lists -/
theorem ds_appPop (l : List Nat) {i j : Nat} {p1 p2 a1 a2 c2 : Pos} (he : DE X E c e fe)
    (ps : ∀ te, PE X e te → PS X (.Expr (.Call (.Attribute (.Name x p1) "append" a1) [.Call (.Attribute (.Name y p2) "pop" a2) [e] [] c2] [] p) pos) (tDrop (tBM X.K "list" rAppend (tVar i) (tCons (tBM X.K "list" rPopAt (tVar j) (tCons te tNil)) tNil)))) :
    DS X E c (.Expr (.Call (.Attribute (.Name x p1) "append" a1) [.Call (.Attribute (.Name y p2) "pop" a2) [e] [] c2] [] p) pos)
      (fun N ρ XQ => i ≠ j ∧ ∃ ds n es m, ρ[i]? = some (.ow (.lst ds) n) ∧ ρ[j]? = some (.ow (.lst es) m) ∧ ds.length < BIG ∧ fe (frz l ρ) XQ fun k => (if k.d.sca = true then ρ else frz l ρ) = ρ ∧ ∃ (q : Nat) (z : D), k.d = .int q ∧ es[q]? = some z ∧ es.length ≤ BIG ∧ N.nx ((ρ.set j (.ow (.lst (es.eraseIdx q)) m)).set i (.ow (.lst (ds ++ [z])) (n && m)))) := by
  obtain ⟨t, pt, s⟩ := he
  refine ⟨_, ps t pt, fun F B R H σ ρ α XQ N K hK hX hB S ⟨hij, ds, n, es, m, h1, h2, hb, h⟩ k => ?_⟩
  obtain ⟨e1, w1⟩ := S.ow i _ _ h1
  obtain ⟨e2, w2⟩ := S.ow j _ _ h2
  obtain ⟨us, hu, lu⟩ := w1.at_
  obtain ⟨vs, hv, lv⟩ := w2.at_
  refine ⟨_, e1, Or.inl ⟨rfl, _, SqL.of hu⟩, _, e2, Or.inl ⟨rfl, _, SqL.of hv⟩, ?_⟩
  refine run_frz (X := X) (E := E) (c := c) (l := l) (Q := fun k0 ρ' => ρ' = ρ ∧ ∃ (q : Nat) (z : D), k0.d = .int q ∧ es[q]? = some z ∧ es.length ≤ BIG ∧ N.nx ((ρ.set j (.ow (.lst (es.eraseIdx q)) m)).set i (.ow (.lst (ds ++ [z])) (n && m)))) s hK hX hB S h fun v x0 ρ' R' H' z S' r ⟨eρ, q, z0, ek, ez, hz, q0⟩ => ?_
  subst eρ
  obtain ⟨e3, w3⟩ := S'.ow i _ _ h1
  obtain ⟨e4, w4⟩ := S'.ow j _ _ h2
  obtain ⟨us', hu', lu'⟩ := w3.at_
  obtain ⟨vs', hv', lv'⟩ := w4.at_
  have rv : v = .int q := by have := r.conc.2; rw [ek] at this; exact this
  subst rv
  obtain ⟨y0, hy0, ry⟩ := lv'.get ez
  have hq : q < vs'.length := (List.getElem?_eq_some_iff.mp hy0).1
  have hL : vs'.length ≤ BIG := by rw [lv'.len]; exact hz
  have hB2 : BIG = 16777216 := rfl
  refine ⟨α j, vs', (q : Int), q, y0, rfl, rfl, hv', by omega, by omega, ?_, hy0, ?_⟩
  · unfold seqIndex?
    simp
    omega
  have nij : α i ≠ α j := fun ea => hij (S'.dis i j _ _ _ _ h1 h2 ea)
  obtain ⟨S2, z2⟩ := S'.setow h2 (vs := vs'.eraseIdx q) (ds' := es.eraseIdx q) (m := m) (rpl_erase lv' q)
  have hi2 : (ρ'.set j (.ow (.lst (es.eraseIdx q)) m))[i]? = some (.ow (.lst ds) n) := by rw [List.getElem?_set_ne (Ne.symm hij)]; exact h1
  have ry2 : RpD F (upd H' (α j) (.lst (vs'.eraseIdx q))) R' m y0 z0 := ry.mv (z2.mv fun z => z)
  have lu2 : RpL F (upd H' (α j) (.lst (vs'.eraseIdx q))) R' n us' ds := lu'.fz z2
  obtain ⟨S3, z3⟩ := S2.setow hi2 (vs := us' ++ [y0]) (ds' := ds ++ [z0]) (m := n && m) ((lu2.weak and_l).app (.cons (ry2.weak and_r) .nil))
  refine ⟨α i, us', y0, rfl, rfl, by rw [upd_ne nij]; exact hu', lt_line (by rw [lu'.len]; exact hb), ?_⟩
  exact k.nx σ _ _ R' α ((z.trans z2).trans z3) S3 q0
end
end DL

set_option Elab.async false
set_option linter.all false
set_option maxRecDepth 100000
set_option maxHeartbeats 4000000
/-! DL, part s: a stream is laid; what is drawn behind. -/
namespace DL
open PySem PySem.Spec PyProof.Rows L2

mutual
/-- no stream in it -/
def D.nost : D → Bool
  | .lst xs => D.nostL xs
  | .tup xs => D.nostL xs
  | .dct kvs => D.nostP kvs
  | .strm => false
  | _ => true
def D.nostL : List D → Bool
  | [] => true
  | x :: xs => D.nost x && D.nostL xs
def D.nostP : List (D × D) → Bool
  | [] => true
  | (k, v) :: xs => D.nost v && D.nostP xs
end
mutual
theorem RpD.unst {F F' : Fx} (hK : F'.K = F.K) (h0 : ∀ a, Nn F.H0 a → Nn F'.H0 a) {H : Hp} {R : Reg} : ∀ {n : Bool} {v : V} {d : D}, RpD F H R n v d → d.nost = true → RpD F' H R n v d
  | _, _, _, .non, _ => .non
  | _, _, _, .bl b, _ => .bl b
  | _, _, _, .int i, _ => .int i
  | _, _, _, .str x, _ => .str x
  | _, _, _, .lst h r w t, e => .lst h r (fun z => h0 _ (w z)) (RpL.unst hK h0 t (by simpa [D.nost] using e))
  | _, _, _, .tup h t, e => .tup (by rw [hK]; exact h) (RpL.unst hK h0 t (by simpa [D.nost] using e))
  | _, _, _, .dK h r w t, e => .dK h r (fun z => h0 _ (w z)) (RpK.unst hK h0 t (by simpa [D.nost] using e))
  | _, _, _, .dT h r w t, e => .dT h r (fun z => h0 _ (w z)) (RpT.unst hK h0 t (by simpa [D.nost] using e))
  | _, _, _, .strm _, e => nomatch e
  | _, _, _, .vee v, _ => .vee v
theorem RpL.unst {F F' : Fx} (hK : F'.K = F.K) (h0 : ∀ a, Nn F.H0 a → Nn F'.H0 a) {H : Hp} {R : Reg} : ∀ {n : Bool} {v : List V} {d : List D}, RpL F H R n v d → D.nostL d = true → RpL F' H R n v d
  | _, _, _, .nil, _ => .nil
  | _, _, _, .cons a t, e => by
    simp only [D.nostL, Bool.and_eq_true] at e
    exact .cons (RpD.unst hK h0 a e.1) (RpL.unst hK h0 t e.2)
theorem RpK.unst {F F' : Fx} (hK : F'.K = F.K) (h0 : ∀ a, Nn F.H0 a → Nn F'.H0 a) {H : Hp} {R : Reg} : ∀ {n : Bool} {v : List (Key × V)} {d : List (D × D)}, RpK F H R n v d → D.nostP d = true → RpK F' H R n v d
  | _, _, _, .nil, _ => .nil
  | _, _, _, .consI a t, e => by
    simp only [D.nostP, Bool.and_eq_true] at e
    exact .consI (RpD.unst hK h0 a e.1) (RpK.unst hK h0 t e.2)
  | _, _, _, .consS a t, e => by
    simp only [D.nostP, Bool.and_eq_true] at e
    exact .consS (RpD.unst hK h0 a e.1) (RpK.unst hK h0 t e.2)
theorem RpT.unst {F F' : Fx} (hK : F'.K = F.K) (h0 : ∀ a, Nn F.H0 a → Nn F'.H0 a) {H : Hp} {R : Reg} : ∀ {n : Bool} {v : List (List Key × V)} {d : List (D × D)}, RpT F H R n v d → D.nostP d = true → RpT F' H R n v d
  | _, _, _, .nil, _ => .nil
  | _, _, _, .cons k a t, e => by
    simp only [D.nostP, Bool.and_eq_true] at e
    exact .cons (RpL.unstK hK k) (RpD.unst hK h0 a e.1) (RpT.unst hK h0 t e.2)
theorem RpL.unstK {F F' : Fx} (hK : F'.K = F.K) {H : Hp} {R : Reg} : ∀ {k : List Key} {ks : List D}, RpL F H R true (k.map kV) ks → RpL F' H R true (k.map kV) ks
  | [], _, .nil => .nil
  | .inl i :: k, _, .cons a b => by
    refine .cons ?_ (RpL.unstK hK b)
    cases a with
    | int => exact .int i
    | vee => exact .vee _
  | .inr x :: k, _, .cons a b => by
    refine .cons ?_ (RpL.unstK hK b)
    cases a with
    | str => exact .str x
    | vee => exact .vee _
end
/-- the slots without the stream -/
def clr (ρ : Ro) : Ro := ρ.map fun s => match s with
  | .va x => if x.d.nost = true then .va x else .un
  | .ow d n => if d.nost = true then .ow d n else .un
  | .un => .un
theorem clr_va {ρ : Ro} {i : Nat} {x : Dv} (h : (clr ρ)[i]? = some (.va x)) : ρ[i]? = some (.va x) ∧ x.d.nost = true := by
  unfold clr at h
  rw [List.getElem?_map] at h
  cases e : ρ[i]? with
  | none => rw [e] at h; cases h
  | some s =>
    rw [e] at h
    cases s with
    | va y =>
      have h' : (if y.d.nost = true then Sl.va y else .un) = Sl.va x := Option.some.inj h
      by_cases hy : y.d.nost = true
      · rw [if_pos hy] at h'; cases h'; exact ⟨rfl, hy⟩
      · rw [if_neg hy] at h'; cases h'
    | un => cases Option.some.inj h
    | ow d n =>
      have h' : (if d.nost = true then Sl.ow d n else .un) = Sl.va x := Option.some.inj h
      split at h' <;> cases h'
theorem clr_ow {ρ : Ro} {i : Nat} {d : D} {n : Bool} (h : (clr ρ)[i]? = some (.ow d n)) : ρ[i]? = some (.ow d n) ∧ d.nost = true := by
  unfold clr at h
  rw [List.getElem?_map] at h
  cases e : ρ[i]? with
  | none => rw [e] at h; cases h
  | some s =>
    rw [e] at h
    cases s with
    | va y =>
      have h' : (if y.d.nost = true then Sl.va y else .un) = Sl.ow d n := Option.some.inj h
      split at h' <;> cases h'
    | un => cases Option.some.inj h
    | ow d' n' =>
      have h' : (if d'.nost = true then Sl.ow d' n' else .un) = Sl.ow d n := Option.some.inj h
      by_cases hy : d'.nost = true
      · rw [if_pos hy] at h'; cases h'; exact ⟨rfl, hy⟩
      · rw [if_neg hy] at h'; cases h'
theorem Own.unst {F F' : Fx} (hK : F'.K = F.K) (h0 : ∀ a, Nn F.H0 a → Nn F'.H0 a) {H : Hp} {R : Reg} {a : Addr} {d : D} {n : Bool} (w : Own F H R a d n) (nm : ¬ F'.mx a) (e : d.nost = true) : Own F' H R a d n := by
  refine ⟨w.nr, nm, h0 _ w.n0, ?_⟩
  have q := w.at_
  cases d with
  | lst ds => obtain ⟨vs, h, r⟩ := q; exact ⟨vs, h, r.unst hK h0 (by simpa [D.nost] using e)⟩
  | dct ds =>
    rcases q with ⟨vs, h, r⟩ | ⟨vs, h, r⟩
    · exact .inl ⟨vs, h, r.unst hK h0 (by simpa [D.nost] using e)⟩
    · exact .inr ⟨vs, h, r.unst hK h0 (by simpa [D.nost] using e)⟩
  | _ => exact q.elim
/-- the stream as it is laid -/
def Laid (H : Hp) (a b : Addr) : Prop := a ≠ b ∧ ∃ xs : List Int, H a = some (.lst [.ref b, .int 0, .int 0, .int 19]) ∧ H b = some (.lst (xs.map V.int))
/-- an expression that lays a stream -/
def DStrm (X : Cx) (E : XK) (e : Expr) (f : Ro → XQT → Prop) : Prop := ∃ t : TE, PE X e t ∧ ∀ F B R H σ ρ α XQ (K : VK), F.K = X.K → XLink F E XQ → B ≤ F.L → StOk F B R H σ ρ α → f ρ XQ →
  (∀ a b R' H', Ext F R H R' H' → HpOk F B R' H' → Laid H' a b → ¬ R' a → ¬ R' b → Nn H a → Nn H b → K (.ref a) H') → t σ H K
def XQtop (v : V) : XQT := fun c x u => c = .none ∧ (x = "" ∨ x = "script" ∧ u = v)
section
variable {X : Cx} {E : XK} {c ca cb cc : Nat} {a b e : Expr} {es : List Expr} {fa fb fe : TD} {fs : TDs} {pos p rp : Pos} {x : Str}
theorem strm_in {F : Fx} (hst : F.st = none) {B : Nat} {R : Reg} {H0 H : Hp} {a b : Addr} (o : HpOk F B R H) (hL : Laid H a b) (na : ¬ R a) (nb : ¬ R b) (za : Nn F.H0 a) (zb : Nn F.H0 b) : HpOk ⟨F.K, F.H0, F.R0, some (a, b), F.L⟩ B R H := by
  obtain ⟨ne, xs, h1, h2⟩ := hL
  have nm : ∀ x, ¬ F.mx x := fun x ⟨p, e, _⟩ => by rw [hst] at e; cases e
  refine ⟨fun p e => ?_, fun x r => ⟨fun ⟨p, e, h⟩ => ?_, (o.good x r).2⟩, fun x u m e nt => o.ent x u (nm x) e nt, o.ent2, o.reg0, o.tab, o.lim⟩
  · cases e
    exact ⟨ne, xs, 0, 0, 19, h1, h2, by decide, by decide, by omega, by decide, by decide⟩
  · cases e
    rcases h with h | h <;> subst h
    · exact na r
    · exact nb r
theorem strm_out {F : Fx} (hst : F.st = none) {B : Nat} {R : Reg} {H : Hp} {a b : Addr} (o : HpOk ⟨F.K, F.H0, F.R0, some (a, b), F.L⟩ B R H) (za : Nn F.H0 a) (zb : Nn F.H0 b) : HpOk F B R H := by
  have nm : ∀ x, ¬ F.mx x := fun x ⟨p, e, _⟩ => by rw [hst] at e; cases e
  refine ⟨fun p e => (by rw [hst] at e; cases e), fun x r => ⟨nm x, (o.good x r).2⟩, fun x u m e nt => o.ent x u (fun ⟨p, ep, h⟩ => ?_) e nt, o.ent2, o.reg0, o.tab, o.lim⟩
  cases ep
  rcases h with h | h <;> subst h
  · exact za u e nt
  · exact zb u e nt
/-- x = (a new stream); what comes behind draws from it -/
theorem dss_strm {tg : Expr} {i : Nat} {fS : Ro → XQT → Prop} {rest : List Stmt} {gb : TDS} (he : DStrm X E e fS) (hg : PG X tg (gName i)) (ps : ∀ te t, PE X e te → PG X tg t → PS X (.Assign [tg] e pos) (tAsg te t)) (hr : DSs X E c rest gb) :
    DSs X E c (.Assign [tg] e pos :: rest) (fun N ρ XQ => XQ .none "" .non ∧ fS ρ XQ ∧ gb { nx := fun ρ' => N.nx (clr ρ'), rt := fun r => r.d.nost = true ∧ N.rt r, bk := fun ρ' => N.bk (clr ρ'), ct := fun ρ' => N.ct (clr ρ') } (ρ.set i (.va ⟨.strm, true, none⟩)) XQ0) := by
  obtain ⟨t, pt, s⟩ := he
  obtain ⟨t2, p2, s2⟩ := hr
  refine ⟨_, pss_cons (ps t _ pt hg) p2, fun F B R H σ ρ α XQ N K hK hX hB S ⟨hx, hf, h⟩ k => ?_⟩
  have hst := (hX.1 _ _ hx).1 rfl
  refine s F B R H σ ρ α XQ _ hK hX (by omega) S hf fun a b R' H' e1 o1 hL na nb za zb => ?_
  have za0 := S.hp.ent2 a za
  have zb0 := S.hp.ent2 b zb
  have o2 := strm_in (H0 := H) hst o1 hL na nb za0 zb0
  have S1 := S.ext e1 o1
  have mv : ∀ m, Mv F R' H' ⟨F.K, F.H0, F.R0, some (a, b), F.L⟩ R' H' m m := fun m => ⟨rfl, fun p z => (by rw [hst] at z; cases z), fun _ _ r h _ => ⟨r, h⟩, fun _ _ h => h, fun z => ⟨z, fun _ _ _ _ w => w⟩⟩
  have own_ne : ∀ j d n, ρ[j]? = some (.ow d n) → α j ≠ a ∧ α j ≠ b := fun j d n hj => by
    obtain ⟨o, ho, nt⟩ := (S.ow j d n hj).2.some
    exact ⟨fun ej => za o (ej ▸ ho) nt, fun ej => zb o (ej ▸ ho) nt⟩
  have S2 : StOk ⟨F.K, F.H0, F.R0, some (a, b), F.L⟩ B R' H' σ ρ α := ⟨o2, S1.len, fun j y hj => by
      obtain ⟨v, hv, r⟩ := S1.va j y hj
      exact ⟨v, hv, r.1.mv (mv _), r.2⟩, fun j d n hj => by
      obtain ⟨ej, w⟩ := S1.ow j d n hj
      refine ⟨ej, w.nr, fun ⟨p, ep, hp⟩ => ?_, w.n0, ?_⟩
      · cases ep
        obtain ⟨n1, n2⟩ := own_ne j d n hj
        exact hp.elim n1 n2
      · have q := w.at_
        cases d with
        | lst ds => obtain ⟨vs, h, r⟩ := q; exact ⟨vs, h, r.mv (mv _)⟩
        | dct ds =>
          rcases q with ⟨vs, h, r⟩ | ⟨vs, h, r⟩
          · exact .inl ⟨vs, h, r.mv (mv _)⟩
          · exact .inr ⟨vs, h, r.mv (mv _)⟩
        | _ => exact q.elim, S1.dis⟩
  have S3 := S2.setva i (x := ⟨.strm, true, none⟩) (v := .ref a) (.of (.strm (p := (a, b)) rfl))
  refine s2 ⟨F.K, F.H0, F.R0, some (a, b), F.L⟩ B R' H' _ _ α XQ0 _ _ hK xlink0 hB S3 h ?_
  have back : ∀ {R2 H2}, Fz ⟨F.K, F.H0, F.R0, some (a, b), F.L⟩ R' H' R2 H2 → Fz F R H R2 H2 := fun {R2 H2} z => (e1.fz S.hp).trans ⟨z.reg, z.keep, z.tup⟩
  have stb : ∀ {R2 H2 σ2 ρ2 α2}, StOk ⟨F.K, F.H0, F.R0, some (a, b), F.L⟩ (B + c) R2 H2 σ2 ρ2 α2 → StOk F (B + c) R2 H2 σ2 (clr ρ2) α2 := fun {R2 H2 σ2 ρ2 α2} S' =>
    ⟨strm_out hst S'.hp za0 zb0, by unfold clr; rw [List.length_map]; exact S'.len, fun j y hj => by
      obtain ⟨hj, hn⟩ := clr_va hj
      obtain ⟨v, hv, r⟩ := S'.va j y hj
      exact ⟨v, hv, RpD.unst (F := ⟨F.K, F.H0, F.R0, some (a, b), F.L⟩) (F' := F) rfl (fun _ z => z) r.1 hn, r.2⟩, fun j d n hj => by
      obtain ⟨hj, hn⟩ := clr_ow hj
      obtain ⟨ej, w⟩ := S'.ow j d n hj
      exact ⟨ej, Own.unst (F := ⟨F.K, F.H0, F.R0, some (a, b), F.L⟩) (F' := F) rfl (fun _ z => z) w (fun ⟨p, e, _⟩ => by rw [hst] at e; cases e) hn⟩, fun j m d n d' n' hj hm => S'.dis j m d n d' n' (clr_ow hj).1 (clr_ow hm).1⟩
  exact ⟨fun σ' H2 ρ' R2 α' z S' q => k.nx σ' H2 (clr ρ') R2 α' (back z) (stb S') q, fun v y R2 H2 z o r q => k.rt v y R2 H2 (back z) (strm_out hst o za0 zb0) ⟨RpD.unst (F := ⟨F.K, F.H0, F.R0, some (a, b), F.L⟩) (F' := F) rfl (fun _ z => z) r.1 q.1, r.2⟩ q.2, fun σ' H2 ρ' R2 α' z S' q => k.bk σ' H2 (clr ρ') R2 α' (back z) (stb S') q, fun σ' H2 ρ' R2 α' z S' q => k.ct σ' H2 (clr ρ') R2 α' (back z) (stb S') q⟩
end
end DL

set_option Elab.async false
set_option linter.all false
set_option maxRecDepth 100000
set_option maxHeartbeats 4000000
/-! DL, part w: list(script); a def that lays a stream. -/
namespace DL
open PySem PySem.Spec PyProof.Rows L2
theorem rpl_intsW {F : Fx} {H : Hp} {R : Reg} {n : Bool} : ∀ ns : List Int, RpL F H R n (ns.map V.int) (ns.map D.int)
  | [] => .nil
  | i :: ns => .cons (.int i) (rpl_intsW ns)
theorem rpl_intsI {F : Fx} {H : Hp} {R : Reg} {n : Bool} : ∀ {ns : List Int} {us : List V}, RpL F H R n us (ns.map D.int) → us = ns.map V.int
  | [], _, h => by cases h; rfl
  | i :: ns, _, h => by
    cases h with
    | cons a t => cases a; rw [rpl_intsI t]; rfl
section
variable {X : Cx} {E : XK} {c ca cb cc : Nat} {a b e : Expr} {es : List Expr} {fa fb fe : TD} {fs : TDs} {pos p rp : Pos} {x : Str}
/-- list(script), the script as it is known of no class -/
theorem de_scr {p1 : Pos} (hg : Gl X "list") (hm : X.mg "list" = none) (ha : DA X E c [e] fs) (he : starEach [e] X.env = (false, eval e X.env) :: starEach [] X.env := by rfl) (hpl : (backTo pos (starEach [] X.env)).any (·.1) = false := by rfl) :
    DE X E c (.Call (.Name "list" p1) [e] [] pos) (fun ρ XQ Q => fs ρ XQ fun xs => ∃ x a, xs = [x] ∧ x.v = some (.ref a) ∧ XQ .none "script" (.ref a) ∧ ∀ ns : List Int, ns.length ≤ 63 → Q ⟨.lst (ns.map D.int), true, none⟩) := by
  obtain ⟨t, pt, s⟩ := ha
  refine ⟨_, pe_callTy call_list_of hg hm (by decide +kernel) pt (by decide) (by decide) he hpl, fun F B R H σ ρ α XQ Q K hK hX hB S h k => ?_⟩
  refine s F B R H σ ρ α XQ _ _ hK hX hB S h fun vs xs R1 H1 e1 o1 r1 ⟨x, a, ex, ev, hx, q⟩ => ?_
  subst ex
  cases r1 with
  | @cons _ v _ _ r1 rn =>
  cases rn
  have hv : V.ref a = v := r1.2 _ ev
  subst hv
  obtain ⟨hs, a', ns, ea, sq, l⟩ := (hX.1 _ _ hx).2 rfl
  cases ea
  have sq1 : SqF X.K H1 a (ns.map V.int) := hK ▸ sq.keep fun o u h => o1.ent a _ (fun ⟨p, ep, _⟩ => by rw [hs] at ep; cases ep) h .frz
  refine ⟨a, ns.map V.int, rfl, .inl sq1.sql, fun q0 hq => ?_⟩
  obtain ⟨e, o, r⟩ := new_lst (n := true) o1 hq (rpl_intsW ns)
  exact k _ ⟨.lst (ns.map D.int), true, none⟩ _ _ (e1.trans e) o (.of r) (q ns l)
/-- a def that lays a stream of a list's items -/
def spLay : List V → Hp → VK → XK → Prop := fun vs H Q _ => vs.length = 1 ∧ ∃ a xs, vs = [.ref a] ∧ H a = some (.lst xs) ∧ xs.length ≤ 1000 ∧ ∀ p q, H p = none → (upd H p (.lst xs)) q = none → Q (.ref q) (upd (upd H p (.lst xs)) q (.lst [.ref p, .int 0, .int 0, .int 19]))
theorem dstrm_call {k : Nat} {f : Addr} {fd : FuncData} {ps : List Str} (F : FnOk X.prog X.w X.K X.mg X.base (L2.CX X.prog X.w) k f fd ps spLay) (hr : Room k X.A) (hg : Gl X x) (hm : X.mg x = some (.ref f)) (hk : PySem.W.keepIn X.K (.ref f) = true) (hb : Binds X.K fd ps [])
    (hx : Passes (L2.CX X.prog X.w) X E) (hn : [e].length = ps.length) (ha : DA X E 0 [e] fs) (hdb : (x == ("__debug__" : Str)) = false := by decide) (he : starEach [e] X.env = (false, eval e X.env) :: starEach [] X.env := by rfl) (hpl : (backTo pos (starEach [] X.env)).any (·.1) = false := by rfl) :
    DStrm X E (.Call (.Name x p) [e] [] pos) (fun ρ XQ => fs ρ XQ fun xs => ∃ (y : Dv) (ns : List Int), xs = [y] ∧ y.d = .lst (ns.map D.int) ∧ ns.length ≤ 1000) := by
  obtain ⟨t, pt, s⟩ := ha
  refine ⟨_, pe_call F hr hg hm hk hb .nil hx pt hdb he hpl, fun F B R H σ ρ α XQ K hK hX hB S h k => ?_⟩
  refine s F B R H σ ρ α XQ _ _ hK hX hB S h fun vs xs R1 H1 e1 o1 r1 ⟨y, ns, ex, ed, l⟩ => ?_
  rw [List.append_nil]
  subst ex
  cases r1 with
  | @cons _ v _ _ r1 rn =>
  cases rn
  obtain ⟨d, n, vo⟩ := y
  have ed : d = .lst (ns.map D.int) := ed
  subst ed
  obtain ⟨a, us, rfl, ha, la⟩ := r1.lstL rfl
  have eu := rpl_intsI la
  subst eu
  refine ⟨rfl, a, ns.map V.int, rfl, ha, by rw [List.length_map]; exact l, fun p q hp hq => ?_⟩
  have e2 : Ext F R1 H1 R1 (upd H1 p (.lst (ns.map V.int))) := .new0 hp
  have o2 := o1.new0 hp (.lst (xs := ns.map V.int))
  have e3 : Ext F R1 _ R1 (upd (upd H1 p (.lst (ns.map V.int))) q (.lst [.ref p, .int 0, .int 0, .int 19])) := .new0 hq
  have ne : q ≠ p := fun z => by
    subst z
    rw [upd_same] at hq; cases hq
  exact k q p R1 _ ((e1.trans e2).trans e3) (o2.new0 hq .lst) ⟨ne, ns, upd_same, by rw [upd_ne (Ne.symm ne)]; exact upd_same⟩ (not_frozen o2 hq) (not_frozen o1 hp) (e1.there q (e2.there q (.of hq))) (e1.there p (.of hp))
/-- two texts of any kind -/
theorem dop_neS : DOp X (compareOp .NotEq) (fun x y Q => ∃ i j, x.d = .str i ∧ y.d = .str j ∧ Q ⟨.bl (!decide (i = j)), true, none⟩) :=
  ⟨_, op_ne, fun F B R H v u x y Q K hK I rx ry ⟨i, j, ex, ey, q⟩ k => by
    obtain ⟨dx, nx, vx⟩ := x
    obtain ⟨dy, ny, vy⟩ := y
    have ex : dx = .str i := ex
    have ey : dy = .str j := ey
    subst ex ey
    have r1 := rx.1; have r2 := ry.1
    cases r1; cases r2
    refine ⟨rfl, ?_⟩
    have e : (!decide (V.str i = V.str j)) = !decide (i = j) := by
      congr 1
      exact decide_eq_decide.mpr ⟨fun z => by cases z; rfl, fun z => by rw [z]⟩
    rw [e]
    exact k _ _ R H .refl I (.of (.bl _)) q⟩
end
end DL

set_option Elab.async false
set_option linter.all false
set_option maxRecDepth 100000
set_option maxHeartbeats 4000000
/-! DL, part x: what the head is asked; from its facts to the law's def. -/
namespace DL
open PySem PySem.Spec PyProof.Rows L2

/-- the class object at C, as an own exception class beneath ValueError has it -/
def isExcO (C : Addr) : Obj → Bool
  | ⟨ty, _, .cls c, sl⟩ => decide (ty = .type "type") && (c.hasDict && (!c.hasDel &&
      ((match sl.toList with
        | [_, _, _, _, some (.builtin n), _] => decide (n = "ValueError.__new__")
        | _ => false) &&
       (match c.mro with
        | .ref D :: r => decide (D = C) && PySem.HandSPX.refsVE r
        | _ => false))))
  | _ => false
theorem isExcO_ok {C : Addr} {o : Obj} (h : isExcO C o = true) : ∃ nm q N bs bm sn sub ab col dd k0 k1 k2 k3 k5, o = excClassObj nm q C N bs bm true sn sub ab col dd k0 k1 k2 k3 k5 "ValueError.__new__" ∧ PySem.HandSPX.refsVE bm = true := by
  obtain ⟨ty, dd, dt, sl⟩ := o
  cases dt with
  | cls c =>
    obtain ⟨nm, bs, mro, ns, qn, hd, sn, sub, ab, col, del⟩ := c
    obtain ⟨h1, r1⟩ := He.ba h
    obtain ⟨h2, r2⟩ := He.ba r1
    obtain ⟨h3, r3⟩ := He.ba r2
    obtain ⟨h4, h5⟩ := He.ba r3
    clear r1 r2 r3 h
    have e1 := of_decide_eq_true h1
    have e2 : hd = true := h2
    have e3 : del = false := by
      have h3 : (!del) = true := h3
      cases del with
      | false => rfl
      | true => cases h3
    subst e1 e2 e3
    obtain ⟨sl⟩ := sl
    dsimp only at h4 h5
    split at h4
    · rename_i k0 k1 k2 k3 n k5
      have en := of_decide_eq_true h4
      subst en
      split at h5
      · rename_i D r
        obtain ⟨h6, h7⟩ := He.ba h5
        have eD := of_decide_eq_true h6
        subst eD
        exact ⟨_, _, _, _, _, _, _, _, _, _, _, _, _, _, _, rfl, h7⟩
      · cases h5
    · cases h4
  | _ => cases h
/-- an own exception class of one field, as the written part tells it -/
def excB (x fld : Str) (K : PySem.W.Frag) : Bool :=
  let C := He.ga K x
  (match K.lookup C with
   | some o => isExcO C o
   | none => false) &&
  ((He.Fa.meth x "__init__").ok K && ((He.Fa.noat x fld).ok K && ((He.Fa.exm x x true).ok K && (L2.xfB K C && (He.eqO (PySem.W.findIn K (.ref C) "__setattr__") (some (some (.builtin "object.__setattr__"))) &&
    (decide (PySem.W.typeIn K (.ref C) = some (.type "type")) && (PySem.W.keepIn K (.ref C) && decide (PySem.W.typeIn K (.ref (He.ma K C "__init__")) = some (.type "function")))))))))
theorem excB_ok {K : PySem.W.Frag} {h : Heap} {mg : Str → Option Value} {x fld : Str} {st : Stmt} {fd : FuncData} (X : K.In h) (G : h.Ns mainGlobals mg) (hg : (He.Fa.glo x).ok K = true) (hb : excB x fld K = true)
    (F : FunD K "__init__" (x ++ ".__init__") (defArgs st) (defBody st) (defScope st) [] [] (He.ma K (He.ga K x) "__init__") fd)
    (hbd : ∀ (kV doc pm : Value) (an : Option Addr) (cdv ct : Value) (us : List Value), us.length = 2 → bindArgs (PySem.W.fnOf "__init__" (x ++ ".__init__") (defArgs st) (defBody st) (defScope st) .none kV doc pm an cdv ct) ⟨us, []⟩ = pure ((["self", fld] : List Str).zip us)) :
    ∃ T : ExT K mg x fld st, T.C = He.ga K x ∧ PySem.W.exmOne K (.ref T.C) (.ref T.C) = some true := by
  obtain ⟨h1, h⟩ := He.ba hb
  obtain ⟨h2, h⟩ := He.ba h
  obtain ⟨h3, h⟩ := He.ba h
  obtain ⟨h4, h⟩ := He.ba h
  obtain ⟨h5, h⟩ := He.ba h
  obtain ⟨h6, h⟩ := He.ba h
  obtain ⟨h7, h⟩ := He.ba h
  obtain ⟨h8, h9⟩ := He.ba h
  have m := He.meth_ok h2
  have xf := L2.xfB_ok h5
  have hc : ∃ nm q N bs bm sn sub ab col dd k0 k1 k2 k3 k5, K.lookup (He.ga K x) = some (excClassObj nm q (He.ga K x) N bs bm true sn sub ab col dd k0 k1 k2 k3 k5 "ValueError.__new__") ∧ PySem.HandSPX.refsVE bm = true := by
    cases e : K.lookup (He.ga K x) with
    | none =>
      rw [e] at h1
      cases h1
    | some o =>
      rw [e] at h1
      obtain ⟨nm, q, N, bs, bm, sn, sub, ab, col, dd, k0, k1, k2, k3, k5, eo, r⟩ := isExcO_ok h1
      exact ⟨nm, q, N, bs, bm, sn, sub, ab, col, dd, k0, k1, k2, k3, k5, congrArg some eo, r⟩
  exact ⟨⟨He.ga K x, He.ma K (He.ga K x) "__init__", fd, ⟨hc, He.eqO_ok h6, xf.exC, of_decide_eq_true h7, h8⟩, xf, He.glo_ok X G hg, He.eqO_ok (He.ba h2).1, of_decide_eq_true h9, He.noat_ok h3, F, F.bindsN hbd⟩, rfl, He.exm_ok h4⟩

/-! ### the hook -/
/-- what the head looks at: all that the top's names reach in n steps, and sys.modules -/
def lookK (n : Nat) (g : Addr → Option Obj) : PySem.W.Frag := He.frT g (sysModules :: He.asD g n)
abbrev SeenT : Type := He.AlD × Bool
def seeH (n : Nat) (fa : List He.Fa) (fn : List He.DefD) (tf : List He.Defn) (ex : PySem.W.Frag → Bool) (g : Addr → Option Obj) : SeenT :=
  (He.obsD fa fn (lookK n g), ((lookK n g).lookup sysModules).isSome && ex (lookK n g) && He.tabsB g tf (lookK n g))
structure Told (fa : List He.Fa) (fn : List He.DefD) (tf : List He.Defn) (ex : PySem.W.Frag → Bool) (h : Heap) (K : PySem.W.Frag) : Prop where
  d : He.SaysD fa fn K
  sm : ∃ o, K.lookup sysModules = some o
  ex : ex K = true
  cd : ∀ p ∈ tf, PySem.W.codeHdIn K (He.cT K p).1 (He.cT K p).2 = true
  no : ∀ p ∈ tf, K.lookup (He.cT K p).2 = none
  em : ∀ p ∈ tf, h.get? (He.cT K p).2 = some { cls := .none, data := .fields #[] }
theorem told_of {n : Nat} {fa : List He.Fa} {fn : List He.DefD} {tf : List He.Defn} {ex : PySem.W.Frag → Bool} {h : Heap} (e : seeH n fa fn tf ex h.get? = (He.valD fn, true)) : Told fa fn tf ex h (lookK n h.get?) := by
  have e1 : He.obsD fa fn (lookK n h.get?) = He.valD fn := congrArg Prod.fst e
  obtain ⟨h12, h3⟩ := He.ba (congrArg Prod.snd e)
  obtain ⟨h1, h2⟩ := He.ba h12
  have tb : ∀ p ∈ tf, PySem.W.codeHdIn (lookK n h.get?) (He.cT (lookK n h.get?) p).1 (He.cT (lookK n h.get?) p).2 = true ∧ ∃ o, h.get? (He.cT (lookK n h.get?) p).2 = some o ∧ He.emptyTab o = true := fun p hp => by
    obtain ⟨a1, a2⟩ := He.ba (List.all_eq_true.mp h3 p hp)
    refine ⟨a1, ?_⟩
    revert a2
    cases h.get? (He.cT (lookK n h.get?) p).2 with
    | none => exact fun z => nomatch z
    | some o => exact fun z => ⟨o, rfl, z⟩
  exact ⟨e1, Option.isSome_iff_exists.mp h1, h2, fun p hp => (tb p hp).1, fun p hp => (let ⟨_, o, q, z⟩ := tb p hp; He.frT_none q z), fun p hp => by
    obtain ⟨_, o, q, z⟩ := tb p hp
    exact q.trans (congrArg some (He.emptyTab_eq z))⟩
def hookH (n : Nat) (fa : List He.Fa) (fn : List He.DefD) (tf : List He.Defn) (ex : PySem.W.Frag → Bool) : PySem.W.Hook where
  α := SeenT
  obs := fun s => seeH n fa fn tf ex s.heap.get?
  val := fun _ => (He.valD fn, true)
  says := fun _ h => ∃ K : PySem.W.Frag, K.In h ∧ Told fa fn tf ex h K
  of := fun _ _ e => ⟨_, He.frT_in, told_of e⟩
  keeps := fun _ _ _ ⟨K, i, t⟩ k => ⟨K, PySem.W.Frag.In.keeps i k, ⟨t.d, t.sm, t.ex, t.cd, t.no, fun p hp => k _ _ (t.em p hp)⟩⟩
theorem seeH_eq {n : Nat} {fa : List He.Fa} {fn : List He.DefD} {tf : List He.Defn} {ex : PySem.W.Frag → Bool} {g : Addr → Option Obj} {s : Shared} (h : ∀ a, g a = s.heap.get? a) : seeH n fa fn tf ex g = (hookH n fa fn tf ex).obs s := congrArg (seeH n fa fn tf ex) (funext h)

/-! ### the law's def -/
theorem lawG_of {P : Program} {w : World} {K : PySem.W.Frag} {mg : Str → Option Value} {fa : List He.Fa} {fn : List He.DefD} {ex : PySem.W.Frag → Bool} {h : Heap} {k cost : Nat} {fL : Addr} {fd : FuncData} {g : DC} (X : K.In h) (t : Told fa fn (lamDefs.map fun d => (d, none)) ex h K) (hk : k ≤ 100) (hc : cost ≤ LIM)
    (hb : ∀ (s : Shared) (u : Value), BindsTo s fd ⟨[u], []⟩ [(("script" : Str), u)])
    (F : ∀ base : Heap, K.In base → base.Ns mainGlobals mg → (∀ d ∈ lamDefs, LamX.TabB base mg (He.codeOf K (d, none)) (He.tabOf K (He.codeOf K (d, none)))) → FnG P w K mg base k fL fd ["script"] cost g)
    (hg : ∀ a Q, Q ⟨.bl true, true, none⟩ → g [.vee (.ref a)] [.ref a] (XQtop (.ref a)) Q) :
    LawG P w K mg 63 fL h ((lamDefs.map fun d => ((d, none) : He.Defn)).map (He.cT K)) := by
  refine ⟨fun p hp => ?_, fun p hp => ?_, fun p hp => ?_, fun base H s a ns KX hns hT e0 hl hbits hH hS => ?_⟩
  · obtain ⟨d, hd, rfl⟩ := List.mem_map.mp hp
    exact t.em d hd
  · obtain ⟨d, hd, rfl⟩ := List.mem_map.mp hp
    exact t.no d hd
  · obtain ⟨d, hd, rfl⟩ := List.mem_map.mp hp
    exact PySem.W.codeHd_of_K X (t.cd d hd)
  · have G := F base KX hns fun d hd => hT (He.cT K (d, none)) (List.mem_map.mpr ⟨_, List.mem_map.mpr ⟨d, hd, rfl⟩, rfl⟩)
    refine G.run callerA [] s H ⟨[.ref a], []⟩ [.ref a] [.ref a] _ _ ?_ rfl e0 (hb s (.ref a)) (.cons rfl .nil) ?_
    · have n1 : (callerA.depth : Nat) = 301 := by decide +kernel
      have n2 : (callerA.units : Nat) = 4 := rfl
      exact ⟨rfl, by rw [n1, show recursionLimit = 1000 from rfl]; omega, by rw [n2, show cLine = 9900 from rfl]; omega⟩
    · refine ⟨rfl, fun _ => False, none, cost, 0, [.vee (.ref a)], XQtop (.ref a), fun r => r.d = .bl true, ⟨fun p e => (nomatch e), fun _ r => False.elim r, fun _ _ _ e _ => e, fun _ e => e, fun _ r => False.elim r, fun p hp => ?_, hc⟩, Nat.le_of_eq (Nat.zero_add _), .cons (.vee _) .nil, hg a _ rfl, ⟨fun x v hx => ?_, fun C f v dx H' hx => ?_⟩, fun v x R' H' _ _ r q => ?_⟩
      · obtain ⟨d, hd, rfl⟩ := List.mem_map.mp hp
        refine ⟨#[], hH (He.cT K (d, none)) (List.mem_map.mpr ⟨_, List.mem_map.mpr ⟨d, hd, rfl⟩, rfl⟩), trivial, fun pos cv z => (nomatch z)⟩
      · obtain ⟨_, hx⟩ := hx
        refine ⟨fun _ => rfl, fun e => ?_⟩
        rcases hx with hx | ⟨_, hv⟩
        · rw [hx] at e; cases e
        · exact ⟨rfl, a, ns, hv, hS, hl⟩
      · cases hx.1
      · obtain ⟨r, _⟩ := r
        have q : x.d = .bl true := q
        rw [q] at r
        cases r
        rfl
end DL

set_option Elab.async false
set_option linter.all false
set_option maxRecDepth 100000
set_option maxHeartbeats 4000000
/-! DL, part t: sorted of ints in a list or a tuple; a tuple or a list turned round. -/
namespace DLX
open PySem PySem.Spec PyProof.Rows L2
section
variable {prog : Program} {w : World} {A : Around} {E : Value → Shared → Prop} {s : Shared}
/-- the items of a tuple, told one behind another -/
theorem collect_tup {l : Addr} {vs : List Value} {Q : List Value → Shared → Prop} (hl : IsTup s.heap l vs.toArray) (h : Q vs { s with heap := (s.heap.push (seqObj "list" #[] 0)).update s.heap.objs.size (Obj.mapSeq (· ++ vs.toArray)) }) (hsz : vs.length ≤ sizeLine) :
    wpAny (model prog w) A (collect (.ref l)) Q E s := by
  obtain ⟨o, ho, hc, n, hd⟩ := id hl
  unfold collect
  refine wpAny_bind (wpAny_runValue (codeAny_builtin entry_proto_collect' ?_))
  show wpAny _ _ (do again (.builtin "list.__iadd__" ⟨[← newList [], .ref l], []⟩)) _ _ s
  refine wpAny_bind (wpAny_newList (wpAny_pure ⟨Code.quiet_builtin _ (by decide +kernel), codeAny_builtin entry_list_iadd' ?_⟩))
  show wpAny _ _ (Builtin.List.listExtendWith (.ref s.heap.objs.size) (.ref l) (.ref s.heap.objs.size)) _ _ { s with heap := s.heap.push (seqObj "list" #[] 0) }
  unfold Builtin.List.listExtendWith
  have ho' : (s.heap.push (seqObj "list" #[] 0)).get? l = some o := Heap.get?_push_of_some _ ho
  refine wpAny_bind (wpAny_typeOf (T := "tuple") ⟨o, ho', hc⟩ ?_)
  rw [if_pos (by
    have ht : (Value.type "tuple" == Value.type "tuple") = true := by rfl
    rw [ht, Bool.or_true])]
  refine wpAny_bind (listItems_at ho' hd ?_)
  refine wpAny_bind (listItems_at (xs := #[]) (n := 0) (Heap.get?_push_size _ rfl) rfl ?_)
  rw [if_neg (by simp)]
  refine wpAny_bind (listUpdate_at (xs := #[]) (n := 0) (Heap.get?_push_size _ rfl) rfl ?_ (Nat.zero_le _) (by show (#[] ++ vs.toArray).size ≤ sizeLine + 1; simp only [Array.size_append, List.size_toArray, List.length_nil]; omega))
  refine wpAny_pure ?_
  show wpAny (model prog w) A (do
      let o ← load s.heap.objs.size
      match o.data with
      | .seq xs _ => pure xs.toList
      | _ => unsupported "internal:collect") Q E { s with heap := (s.heap.push (seqObj "list" #[] 0)).update s.heap.objs.size (Obj.mapSeq (· ++ vs.toArray)) }
  refine wpAny_bind (wpAny_load (get?_update_seq (Heap.get?_push_size _ rfl) _) ?_)
  show wpAny _ _ (pure ((#[] : Array Value) ++ vs.toArray).toList) Q E _
  rw [show ((#[] : Array Value) ++ vs.toArray).toList = vs by simp]
  exact wpAny_pure h
/-- sorted(t) of a tuple of ints -/
theorem sorted_tup {l : Addr} {vs : List Value} {ns : List Int} {Q : Value → Shared → Prop} (hl : IsTup s.heap l vs.toArray) (hz : vs.length ≤ sizeLine) (hi : IntsAre vs ns)
    (h : ∀ out : List Value, SrtO.Srtd SrtO.ltIv out → SrtO.Stb SrtO.ltIv out vs → Q (.ref (s.heap.objs.size + 1)) { s with heap := sortedAll s.heap vs out.toArray }) :
    wpAny (model prog w) A (call (.builtin "sorted") [.ref l]) Q E s := by
  refine Calls.call_function_entry kind_sorted plain_sorted entry_sorted (args_sorted1 _) ?_
  unfold Builtin.«sorted»
  refine wpAny_bind (m := checkCount "sorted" 1 1 _) (wpAny_pure ?_)
  refine wpAny_bind (collect_tup hl ?_ hz)
  refine wpAny_bind (wpAny_newList ?_ hz)
  have hsz : ((s.heap.push (seqObj "list" #[] 0)).update s.heap.objs.size (Obj.mapSeq (· ++ vs.toArray))).objs.size = s.heap.objs.size + 1 := by
    rw [Heap.size_update, size_push']
  have hoL : (((s.heap.push (seqObj "list" #[] 0)).update s.heap.objs.size (Obj.mapSeq (· ++ vs.toArray))).push (seqObj "list" vs.toArray 0)).get? (s.heap.objs.size + 1) = some (seqObj "list" vs.toArray 0) := by
    rw [← hsz]; exact Heap.get?_push_size _ rfl
  show wpAny _ _ _ _ _ { s with heap := ((s.heap.push (seqObj "list" #[] 0)).update s.heap.objs.size (Obj.mapSeq (· ++ vs.toArray))).push (seqObj "list" vs.toArray 0) }
  rw [hsz]
  refine wpAny_bind (wpAny_holding (wpAny_call_entry slot_list_sort ⟨_, hoL, rfl⟩ entry_list_sort (SrtO.list_sort_ord SrtO.swo_int hoL hz (fun h2 => SrtO.ints_sortable hi h2) fun out hs hb => ⟨_, rfl, ?_⟩) (args_list_sort _)))
  exact wpAny_pure ⟨_, rfl, h out hs hb⟩
theorem filterMap_same {α β : Type} {f g : α → Option β} : ∀ {l : List α}, (∀ x ∈ l, f x = g x) → l.filterMap f = l.filterMap g
  | [], _ => rfl
  | a :: l, h => by
    rw [List.filterMap_cons, List.filterMap_cons, h a List.mem_cons_self, filterMap_same fun x hx => h x (List.mem_cons_of_mem _ hx)]
theorem pick_rev (xs : Array Value) : ((List.range xs.size).filterMap fun (k : Nat) => xs[(((xs.size : Int) - 1) + (k : Int) * (-1)).toNat]?).toArray = xs.toList.reverse.toArray := by
  congr 1
  have e : ∀ k ∈ List.range xs.size, xs[(((xs.size : Int) - 1) + (k : Int) * (-1)).toNat]? = (fun k => xs[xs.size - 1 - k]?) k := fun k hk => by
    have := List.mem_range.mp hk
    show xs[_]? = xs[_]?
    congr 1
    omega
  have : ((List.range xs.size).map fun k => xs.size - 1 - k).filterMap (fun x : Nat => xs[x]?) = xs.toList.reverse := by
    rw [PySem.W.krv_range, List.filterMap_reverse, PySem.W.krv_all]
  rw [← this, List.filterMap_map]
  exact filterMap_same e
theorem getItem_tuple_rev {t sl : Addr} {items : Array Value} {vl vu vs : Value} {Q : Value → Shared → Prop} (ht : IsTup s.heap t items) (hs : s.heap.IsSliceOf sl vl vu vs) (pl : IsPart vl none) (pu : IsPart vu none) (ps : IsPart vs (some (-1)))
    (h : Q (.ref s.heap.objs.size) { s with heap := s.heap.push { cls := .type "tuple", data := .seq items.toList.reverse.toArray } }) (hsz : items.size ≤ sizeLine) : wpAny (model prog w) A (getItem (.ref t) (.ref sl)) Q E s := by
  have htake : sizeOk (.seq items.toList.reverse.toArray) := by
    show items.toList.reverse.toArray.size ≤ sizeLine
    rw [List.size_toArray, List.length_reverse, Array.length_toList]
    exact hsz
  obtain ⟨os, hos, hcs, hds⟩ := id hs
  have hTs : s.TypeIs (.ref sl) "slice" := ⟨os, hos, hcs⟩
  unfold getItem
  try with_reducible refine wpAny_holding ?_
  first | refine wpAny_bind (wpAny_pure ?_) | skip
  refine wpAny_bind (wpAny_sequenceKey ht.typeIs (by decide) ?_)
  refine wpAny_bind (wpAny_callSpecial?_slot (name := Str.ofString "__getitem__") ht.typeIs PyProof.Rows.slot_tuple_getitem
    (wpAny_call_entry PyProof.Rows.slot_tuple_getitem ht.typeIs entry_tuple_getitem ?_ (args_tuple_getitem _ _)))
  show wpAny _ _ (Builtin.Tuple.tupleItemsOf (.ref t) >>= _) _ _ s
  refine wpAny_bind (tupleItemsOf_ ht ?_)
  refine wpAny_bind (wpAny_typeOf hTs ?_)
  rw [if_pos (by decide)]
  refine wpAny_bind (m := Builtin.Slice.sliceApplied (.ref sl) (pure (items.size : Int))) ?_
  unfold Builtin.Slice.sliceApplied Builtin.Slice.sliceFields
  refine wpAny_bind (wpAny_bind (wpAny_field hos hds (x := vl) rfl (wpAny_bind (wpAny_field hos hds (x := vu) rfl (wpAny_bind (wpAny_field hos hds (x := vs) rfl (wpAny_pure ?_)))))))
  refine wpAny_bind (HT.slicePart_ ps ?_)
  show wpAny _ _ (if ((-1 : Int) == 0) = true then _ else _) _ _ s
  rw [if_neg (by decide)]
  refine wpAny_bind (HT.slicePart_ pl (wpAny_bind (HT.slicePart_ pu (wpAny_bind (wpAny_pure ?_)))))
  have adj : Builtin.Slice.sliceAdjust none none (-1) (items.size : Int) = ((items.size : Int) - 1, -1) := rfl
  show wpAny _ _ (match Builtin.Slice.sliceAdjust none none (-1) (items.size : Int) with | (lo, hi) => pure (lo, (-1 : Int), Builtin.Slice.slicePlaces lo hi (-1))) _ _ s
  rw [adj]
  have pl : Builtin.Slice.slicePlaces ((items.size : Int) - 1) (-1) (-1) = items.size := by
    unfold Builtin.Slice.slicePlaces
    rw [if_neg (by decide)]
    by_cases hz : (items.size : Int) - 1 > -1
    · rw [if_pos hz, show (- -1 : Int) = 1 by decide, Int.ediv_one]
      omega
    · rw [if_neg hz]
      omega
  show wpAny _ _ (pure ((items.size : Int) - 1, (-1 : Int), Builtin.Slice.slicePlaces ((items.size : Int) - 1) (-1) (-1))) _ _ s
  rw [pl]
  refine wpAny_pure ?_
  have hno : ¬ (((((items.size : Int) - 1) == 0 && (-1 : Int) == 1 && items.size == items.size)) = true) := by
    intro q
    rw [Bool.and_eq_true, Bool.and_eq_true] at q
    exact absurd q.1.2 (by decide)
  show wpAny _ _ (if ((((items.size : Int) - 1) == 0 && (-1 : Int) == 1 && items.size == items.size)) = true then _ else _) _ _ s
  rw [if_neg hno, pick_rev]
  first
    | exact wpAny_bind (m := Builtin.Tuple.tupleExact _) (wpAny_newObj_type (wpAny_pure ⟨_, rfl, wpAny_pure h⟩) htake)
    | exact wpAny_bind (m := Builtin.Tuple.tupleExact _) (wpAny_newObj_type (wpAny_bind (wpAny_pure (wpAny_pure ⟨_, rfl, wpAny_pure h⟩))) htake)
    | exact wpAny_bind (wpAny_bind (m := Builtin.Tuple.tupleExact _) (wpAny_newObj_type (wpAny_pure (wpAny_pure ⟨_, rfl, wpAny_pure h⟩)) htake))
    | exact wpAny_bind (wpAny_bind (m := Builtin.Tuple.tupleExact _) (wpAny_newObj_type (wpAny_pure ⟨_, rfl, wpAny_pure h⟩) htake))
end
end DLX
namespace DL
open PySem PySem.Spec PyProof.Rows L2
section
variable {X : Cx} {E : XK} {c : Nat} {e : Expr} {fe : TD} {x : Str}
def rSortedTI (K : PySem.W.Frag) : List V → Hp → VK → Prop := fun vs H Q => ∃ (a : Addr) (ns : List Int), vs = [V.ref a] ∧ (SqL K H a (ns.map V.int) ∨ SqT K H a (ns.map V.int)) ∧
  ∀ (ns' : List Int) (p : Addr), ns'.Perm ns → ns'.Pairwise (· ≤ ·) → H p = none → Q (.ref p) (upd H p (.lst (ns'.map V.int)))
theorem cr_sortedTI : CallR X (.builtin "sorted") (rSortedTI X.K) := by
  intro pins s σ H vs us Q I r h
  obtain ⟨a, ns, rfl, hs, q⟩ := h
  rcases hs with hs | hs
  · exact cr_sortedI pins s σ H _ us Q I r ⟨a, ns, rfl, hs, q⟩
  obtain ⟨its, rv, hl, hz⟩ := I.tuple hs
  rw [Vals.ref1 r]
  have hi := rv.ints
  refine DLX.sorted_tup hl (by rw [← rv.length]; exact hz) hi fun out h1 h2 => ?_
  obtain ⟨k1, k2, k3⟩ := SrtO.ints_out hi h1 h2
  obtain ⟨ep, he'⟩ := PyProof.Rows.sortedAll_at s.heap its out.toArray
  have hlen : ((out.map SrtO.iv).map V.int).length ≤ sizeLine := by
    rw [List.length_map, k2.length_eq]
    rw [List.length_map] at hz
    exact hz
  exact ⟨.ref _, upd H (s.heap.objs.size + 1) (.lst ((out.map SrtO.iv).map V.int)), I.laid (t' := s.toks) (fun _ _ => PyProof.Rows.sortedAll_old) (Nat.le_succ _) ⟨hlen, out, ep, vals_of_ints k1, he'⟩, rfl, q _ _ k2 k3 (I.hok.fresh (Nat.le_succ _))⟩
theorem rplIntsD {F : Fx} {H : Hp} {R : Reg} {n : Bool} : ∀ ns : List Int, RpL F H R n (ns.map V.int) (ns.map D.int)
  | [] => .nil
  | i :: ns => .cons (.int i) (rplIntsD ns)
theorem rplVints {F : Fx} {H : Hp} {R : Reg} {n : Bool} : ∀ {ns : List Int} {vs : List V}, RpL F H R n vs (ns.map D.int) → vs = ns.map V.int
  | [], _, .nil => rfl
  | i :: ns, _, .cons a t => by
    cases a
    rw [rplVints t]
    rfl
/-- sorted(x), ints -/
theorem dcl_sorted : DCl X (.builtin "sorted") (g1 fun x Q => ∃ ns : List Int, x.d.seq = some (ns.map D.int) ∧ ∀ ns' : List Int, ns'.Perm ns → ns'.Pairwise (· ≤ ·) → Q ⟨.lst (ns'.map D.int), true, none⟩) := dcl1 cr_sortedTI fun F B R H v x Q K hK I r ⟨ns, es, q⟩ k => by
  have fin : ∀ (ns' : List Int) (p : Addr), ns'.Perm ns → ns'.Pairwise (· ≤ ·) → H p = none → K (.ref p) (upd H p (.lst (ns'.map V.int))) := fun ns' p h1 h2 hp => by
    obtain ⟨e, o, r⟩ := new_lst (n := true) I hp (rplIntsD ns')
    exact k _ _ _ _ e o (.of r) (q ns' h1 h2)
  obtain ⟨d, n, vo⟩ := x
  cases d <;> try (cases es; done)
  case lst ds =>
    cases es
    obtain ⟨a, us, rfl, ha, la⟩ := r.lstL rfl
    rw [rplVints la] at ha
    exact ⟨a, ns, rfl, .inl (.of ha), fin⟩
  case tup ds =>
    cases es
    obtain ⟨a, us, rfl, ha, la⟩ := r.tupL rfl
    rw [rplVints la] at ha
    exact ⟨a, ns, rfl, .inr (hK ▸ ha), fin⟩
def tRevS (K : PySem.W.Frag) (te : TE) : TE := fun σ H Q => te σ H fun x H1 => ∃ a xs, x = .ref a ∧ ((SqL K H1 a xs ∧ ∀ p, H1 p = none → Q (.ref p) (upd H1 p (.lst xs.reverse))) ∨ (SqT K H1 a xs ∧ ∀ p, H1 p = none → Q (.ref p) (upd H1 p (.tup xs.reverse))))
theorem pe_revS {te : TE} {k : Nat} {p1 p2 p3 pos : Pos} (he : PE X e te) : PE X (.Subscript e (.Slice none none (some (.UnaryOp .USub (.Constant (.int 1) k p1) p2)) p3) pos) (tRevS X.K te) := by
  refine ⟨fun pins s σ H Q I h => ?_⟩
  refine Subscript_ (thn (he.run pins s σ H _ I h) fun v s1 ⟨x, H1, I1, r1, q1⟩ => ?_)
  obtain ⟨a, xs, ex, q⟩ := q1
  subst ex
  cases r1
  have hst : PO X (some (.UnaryOp .USub (.Constant (.int 1) k p1) p2)) (tPart (tUn (rU fun i => .int (-i)) (tC (.int 1)))) := po_some (pe_un un_neg pe_int)
  refine wpAny_Slice (thn (po_none.run pins s1 σ H1 (fun o H2 => o = none ∧ H2 = H1) I1 ⟨rfl, rfl⟩) fun vl s2 ⟨l, H2, I2, pl, el, e2⟩ => ?_)
  subst el e2
  refine thn (po_none.run pins s2 σ H2 (fun o H3 => o = none ∧ H3 = H2) I2 ⟨rfl, rfl⟩) fun vu s3 ⟨u, H3, I3, pu, eu, e3⟩ => ?_
  subst eu e3
  refine thn (hst.run pins s3 σ H3 (fun o H4 => o = some (-1) ∧ H4 = H3) I3 ⟨1, rfl, -1, rfl, rfl, rfl⟩) fun vs s4 ⟨o, H4, I4, ps, eo, e4⟩ => ?_
  subst eo e4
  have I5 : Inv X pins σ H4 { s4 with heap := s4.heap.push { cls := .type "slice", data := .fields #[vl, vu, vs] } } := I4.kept (t' := s4.toks) fun b ob q => Heap.get?_push_of_some _ q
  show wpAny (model X.prog X.w) X.A (subscriptTail e (.Slice none none (some (.UnaryOp .USub (.Constant (.int 1) k p1) p2)) p3) (.ref a) (.ref s4.heap.objs.size)) (EP X pins σ Q) X.xe { s4 with heap := s4.heap.push { cls := .type "slice", data := .fields #[vl, vu, vs] } }
  rcases q with ⟨hx, q⟩ | ⟨hx, q⟩
  · obtain ⟨its, r, ht, hz⟩ := I5.list hx
    have hlen := r.length
    refine tail_any (ops := [.ref a, .ref s4.heap.objs.size]) ht.isList.typeIs (PySem.slot_list_getitem.lookup) ?_ (by with_unfolding_all rfl)
    refine wpAny_getItem_list_slice ht.isList (Heap.IsSliceOf.new _ vl vu vs) pl pu ps (by decide) ?_ (by rw [List.size_toArray]; omega)
    rw [PySem.W.krv_pick]
    refine ⟨.ref _, _, I5.laid (t' := s4.toks) (o := .lst xs.reverse) (fun b ob q => Heap.get?_push_of_some _ q) (Nat.le_refl _) ?_, rfl, q _ (I5.hok.fresh (Nat.le_refl _))⟩
    exact ⟨by rw [List.length_reverse]; exact hz, _, 0, r.reverse, Heap.get?_push_size _ rfl⟩
  · obtain ⟨its, r, ht, hz⟩ := I5.tuple hx
    have hlen := r.length
    refine tail_any (ops := [.ref a, .ref s4.heap.objs.size]) ht.typeIs (PyProof.Rows.slot_tuple_getitem.lookup) ?_ (by with_unfolding_all rfl)
    refine DLX.getItem_tuple_rev ht (Heap.IsSliceOf.new _ vl vu vs) pl pu ps ?_ (by rw [List.size_toArray]; omega)
    refine ⟨.ref _, _, I5.laid (t' := s4.toks) (o := .tup xs.reverse) (fun b ob q => Heap.get?_push_of_some _ q) (Nat.le_refl _) ?_, rfl, q _ (I5.hok.fresh (Nat.le_refl _))⟩
    exact ⟨by rw [List.length_reverse]; exact hz, _, r.reverse, IsTup.new _ _⟩
/-- x[::-1] -/
theorem de_rev {k : Nat} {p1 p2 p3 pos : Pos} (he : DE X E c e fe) : DE X E c (.Subscript e (.Slice none none (some (.UnaryOp .USub (.Constant (.int 1) k p1) p2)) p3) pos) (fun ρ XQ Q => fe ρ XQ fun x => ∃ ds, x.d.seq = some ds ∧ Q ⟨x.d.like ds.reverse, x.fr, none⟩) := by
  obtain ⟨t, pt, s⟩ := he
  refine ⟨_, pe_revS pt, fun F B R H σ ρ α XQ Q K hK hX hB S h k => ?_⟩
  refine s F B R H σ ρ α XQ _ _ hK hX hB S h fun v x R1 H1 e1 o1 r1 ⟨ds, es, q⟩ => ?_
  obtain ⟨d, n, vo⟩ := x
  cases d <;> try (cases es; done)
  case lst ds =>
    cases es
    obtain ⟨a, us, rfl, ha, la⟩ := r1.lstL rfl
    refine ⟨a, us, rfl, .inl ⟨.of ha, fun p hp => ?_⟩⟩
    obtain ⟨e2, o2, r2⟩ := new_lst o1 hp la.rev
    exact k _ _ _ _ (e1.trans e2) o2 (.of r2) q
  case tup ds =>
    cases es
    obtain ⟨a, us, rfl, ha, la⟩ := r1.tupL rfl
    refine ⟨a, us, rfl, .inr ⟨hK ▸ ha, fun p hp => ?_⟩⟩
    obtain ⟨e2, o2, r2⟩ := new_tup o1 hp la.rev
    exact k _ _ _ _ (e1.trans e2) o2 (.of r2) q
end
end DL
namespace DL
open PySem PySem.Spec PyProof.Rows L2 LiI
section
variable {X : Cx} {E : XK} {c : Nat} {e : Expr} {fe : TD} {te : TE} {x : Str} {p apos cpos pos : Pos}
/-- list(d.items()), d with plain keys, or empty -/
def rItems2 : V → Hp → VK → Prop := fun x H Q => ∃ (d : Addr) (kvs : List (Key × V)), x = .ref d ∧ (H d = some (.dK kvs) ∨ (kvs = [] ∧ H d = some (.dT []))) ∧
  ∀ (H' : Hp) (p : Addr) (ts : List Addr), (∀ b o, H b = some o → H' b = some o) → H p = none → (∀ t ∈ ts, H t = none) → p ∉ ts → H' p = some (.lst (ts.map V.ref)) → Paired (fun (t : Addr) (q : Key × V) => H' t = some (.tup [kV q.1, q.2])) ts kvs → Q (.ref p) H'
theorem pe_items2 (hc : X.calm = true) (he : PE X e te) (hg : Gl X "list") (hm : X.mg "list" = none) (hbase : attributeBase e "items" X.env (eval e X.env) = eval e X.env := by rfl) (hline : (apos.endLine == cpos.line) = true := by rfl)
    (hs : starEach [.Call (.Attribute e "items" apos) [] [] cpos] X.env = (false, eval (.Call (.Attribute e "items" apos) [] [] cpos) X.env) :: starEach [] X.env := by rfl) :
    PE X (.Call (.Name "list" p) [.Call (.Attribute e "items" apos) [] [] cpos] [] pos) (fun σ H Q => te σ H fun x H1 => rItems2 x H1 Q) := by
  refine ⟨fun pins s σ H Q I hq => ?_⟩
  refine wpAny_Call_Name_kw (ld_blt I hg hm (show bootBuiltins "list" = some (.type "list") from by decide +kernel) ?_)
  refine PyProof.Rows.callWith_type1 ?_ hs rfl
  rw [hs]
  show wpAny _ _ (spliced ((false, eval (.Call (.Attribute e "items" apos) [] [] cpos) X.env) :: backTo pos (starEach [] X.env))) _ _ s
  refine Calls.spliced_cons ?_
  refine wpAny_Call_method (T := "dict") (id := "dict.items") hbase rfl hline F.plainAttrs_dict F.slot_dict_items F.type_dict_items (thn (he.run pins s σ H _ I hq) fun u s1 ⟨x, H1, I1, rx, d, kvs, ex, hd, q⟩ => ?_)
  subst ex
  obtain rfl : u = Value.ref d := rx
  obtain ⟨hz, hs0, vs, kv, hdo⟩ : kvs.length ≤ sizeLine ∧ (d == sysModules) = false ∧ ∃ vs, KV kvs vs ∧ s1.heap.DictOf (mixKind X.prog X.w) d vs := by
    rcases hd with hd | ⟨rfl, hd⟩
    · exact I1.hok d _ hd
    · obtain ⟨hz, hs0, xs, hp, o, es, ep, ho, hx, hdd, hes, _⟩ := I1.hok d _ hd
      cases hp
      have e0 : es = #[] := Array.toList_eq_nil_iff.mp hes
      subst e0
      exact ⟨hz, hs0, [], .nil, o, #[], ep, ho, hx, hdd, fun i hi => absurd hi (by simp), .nil, List.nodup_nil⟩
  obtain ⟨ep, hat⟩ := hdo.dictAt
  have lk : kvs.length = vs.length := Paired.length kv
  have I2 : Inv X pins σ H1 { s1 with heap := s1.heap.push { cls := .type "dict_items", data := .fields #[.ref d] } } := I1.kept (t' := s1.toks) fun b ob q => Heap.get?_push_of_some _ q
  refine ⟨hdo.typeIs, hdo.mapOf.noDict, ?_⟩
  show wpAny _ _ (callWith cpos (.builtin "dict.items") [.ref d] [] []) _ X.xe s1
  refine method_meetsIn F.slot_dict_items F.entry_dict_items rfl (PySem.evalArgs_none ⟨rfl, hdo.typeIs, F.args_dict_items_1 _, _, meets_dict_items (mixKind X.prog X.w) d hs0, ⟨vs, hdo⟩, ?_⟩)
  refine Calls.spliced_nil ?_
  refine PySem.W.kdx_call (knd := mixKind X.prog X.w) (kvs := vs) (ep := ep) (I1.ok.hd hc) ⟨_, Heap.get?_push_size _ rfl, rfl, rfl⟩ (hat.push _) (by omega) fun h' tk acc c as hk hS hl hG hacc => ?_
  obtain ⟨H', k1, k2, k3, k4, k5, k6, J⟩ := items_laid (tk := tk) I2 hz kv hk hS hl hG hacc
  exact ⟨.ref _, H', J, rfl, q H' _ as k1 k2 k3 k4 k5 k6⟩
theorem ext_same {F : Fx} {B : Nat} {R R' : Reg} {H H' : Hp} (I : HpOk F B R H) (k : ∀ b o, H b = some o → H' b = some o) (hR : ∀ a, R a → R' a) (hN : ∀ a, R' a → R a ∨ (H a = none ∧ ∃ o, H' a = some o ∧ NoTbl o)) : Ext F R H R' H' ∧ HpOk F B R' H' := by
  have mxn : ∀ a, H a = none → ¬ F.mx a := fun a h => mx_none I.inv h
  refine ⟨⟨hR, fun a o _ h _ => k a o h, fun a r => (hN a r).elim .inl fun z => .inr (.of z.1), fun a h o e => h o (k a o e)⟩, ⟨keep_inv k I.inv, fun a r => ?_, fun a o m h nt => k a o (I.ent a o m h nt), fun a h => I.ent2 a (keep_nn k h), fun a r => ?_, I.tab.ext k, I.lim⟩⟩
  · rcases hN a r with r | ⟨z, o, ho, nt⟩
    · obtain ⟨m, o, h, nt⟩ := I.good a r
      exact ⟨m, o, k a o h, nt⟩
    · exact ⟨mxn a z, o, ho, nt⟩
  · rcases hN a r with r | ⟨z, _⟩
    · exact I.reg0 a r
    · exact .inr (I.ent2 a (.of z))
theorem rpk_pairs {F : Fx} {B : Nat} {R : Reg} {H H' : Hp} (I : HpOk F B R H) (e : Ext F R H R H') {n : Bool} : ∀ {kvs : List (Key × V)} {ds : List (D × D)} {ts : List Addr}, RpK F H R n kvs ds → Paired (fun (t : Addr) (q : Key × V) => H' t = some (.tup [kV q.1, q.2])) ts kvs → RpL F H' R n (ts.map V.ref) (ds.map fun q => .tup [q.1, q.2])
  | _, _, _, .nil, .nil => .nil
  | _, _, _, .consI a t, .cons h r => .cons (.tup (.of h) (.cons (.int _) (.cons (a.ext I e) .nil))) (rpk_pairs I e t r)
  | _, _, _, .consS a t, .cons h r => .cons (.tup (.of h) (.cons (.str _) (.cons (a.ext I e) .nil))) (rpk_pairs I e t r)
/-- list(e.items()); a dict with keys that are tuples: the empty one alone -/
theorem de_items (hc : X.calm = true) (hg : Gl X "list") (hm : X.mg "list" = none) (he : DE X E c e fe) (hbase : attributeBase e "items" X.env (eval e X.env) = eval e X.env := by rfl) (hline : (apos.endLine == cpos.line) = true := by rfl)
    (hs : starEach [.Call (.Attribute e "items" apos) [] [] cpos] X.env = (false, eval (.Call (.Attribute e "items" apos) [] [] cpos) X.env) :: starEach [] X.env := by rfl) :
    DE X E c (.Call (.Name "list" p) [.Call (.Attribute e "items" apos) [] [] cpos] [] pos) (fun ρ XQ Q => fe ρ XQ fun x => ∃ kvs, x.d = .dct kvs ∧ (∀ q ∈ kvs, ∀ ks, q.1 ≠ .tup ks) ∧ Q ⟨.lst (kvs.map fun q => .tup [q.1, q.2]), x.fr, none⟩) := by
  obtain ⟨t, pt, s⟩ := he
  refine ⟨_, pe_items2 hc pt hg hm hbase hline hs, fun F B R H σ ρ α XQ Q K hK hX hB S h k => ?_⟩
  refine s F B R H σ ρ α XQ _ _ hK hX hB S h fun v x R1 H1 e1 o1 r1 ⟨kvs, ed, hk, q⟩ => ?_
  have fin : ∀ (l : List (Key × V)), RpK F H1 R1 x.fr l kvs → ∀ (H' : Hp) (p : Addr) (ts : List Addr), (∀ b o, H1 b = some o → H' b = some o) → H1 p = none → (∀ t ∈ ts, H1 t = none) → p ∉ ts → H' p = some (.lst (ts.map V.ref)) → Paired (fun (t : Addr) (q : Key × V) => H' t = some (.tup [kV q.1, q.2])) ts l → K (.ref p) H' := fun l rl H' p ts k1 hp _ _ hl hts => by
    obtain ⟨e2, o2⟩ := ext_same (R' := R1.add p) o1 k1 (fun _ r => .inl r) fun a r => r.elim .inl fun z => .inr (by subst z; exact ⟨hp, _, hl, .lst⟩)
    obtain ⟨e3, o3⟩ := ext_same (R' := R1) o1 k1 (fun _ r => r) fun a r => .inl r
    have r3 := rpk_pairs o1 e3 rl hts
    have mv : Mv F R1 H' F (R1.add p) H' x.fr x.fr := ⟨rfl, fun _ z => z, fun _ _ r h _ => ⟨.inl r, h⟩, fun _ _ h => h, fun z => ⟨z, fun _ _ _ _ q => q⟩⟩
    exact k (.ref p) ⟨.lst (kvs.map fun q => .tup [q.1, q.2]), x.fr, none⟩ (R1.add p) H' (e1.trans e2) o2 (.of (.lst hl (.inr rfl) (fun _ => o1.ent2 p (.of hp)) (r3.mv mv))) q
  have rf := r1.fr
  rw [ed] at rf
  generalize x.fr = n at rf fin
  cases rf with
  | dK ha _ _ rl => exact ⟨_, _, rfl, .inl ha, fin _ rl⟩
  | dT ha _ _ rl =>
    cases rl with
    | nil => exact ⟨_, [], rfl, .inr ⟨rfl, ha⟩, fin [] .nil⟩
    | cons => exact absurd rfl (hk _ List.mem_cons_self _)
end
end DL
namespace DL
open PySem PySem.Spec PyProof.Rows L2
theorem gIx_of {a d : D} {n n' : Bool} {v v' : Option V} {i : Int} {ds : List D} {Q : Dv → Prop} (e : a.seq = some ds) (h : atI ds i = some d) : gIx ⟨a, n, v⟩ ⟨.int i, n', v'⟩ Q = Q ⟨d, Dv.fr ⟨a, n, v⟩, none⟩ := by
  rw [gIx_seq (x := ⟨a, n, v⟩) (y := ⟨.int i, n', v'⟩) e rfl, h]
  simp
theorem gLen_of {a : D} {n : Bool} {v : Option V} {ds : List D} {Q : Dv → Prop} (e : a.seq = some ds) : gLen ⟨a, n, v⟩ Q = Q ⟨.int ds.length, true, none⟩ := gLen_seq e
theorem gCall1 {g : DC} {ρ : Ro} {XQ : XQT} {a : D} {n : Bool} {v : Option V} {Q : Dv → Prop} (h : ∀ vs, g [a] vs XQ fun r => Q { r with v := none }) : gCall g ρ XQ [⟨a, n, v⟩] Q := fun vs _ => h vs
end DL
namespace DL
open PySem PySem.Spec PyProof.Rows L2
theorem gI_of {C : Int → Int → Prop} {f : Int → Int → D} {i j : Int} {n n' : Bool} {v v' : Option V} {Q : Dv → Prop} : gI C f ⟨.int i, n, v⟩ ⟨.int j, n', v'⟩ Q = (C i j ∧ Q ⟨f i j, true, none⟩) := by
  simp [gI]
theorem bl_of {b : Bool} {Q : Bool → Prop} : (∃ c, D.bl b = D.bl c ∧ Q c) = Q b := by simp
theorem g1_of {g : Dv → (Dv → Prop) → Prop} {x : Dv} {Q : Dv → Prop} : g1 g [x] Q = g x Q := rfl
end DL
namespace DL
open PySem PySem.Spec PyProof.Rows L2
theorem g1_tup {a : D} {n : Bool} {v : Option V} {l : List D} {Q : Dv → Prop} (e : a.seq = some l) (h : Q ⟨.tup l, Dv.fr ⟨a, n, v⟩, none⟩) : g1 (fun x Q => match x.d with | .lst ds => Q ⟨.tup ds, x.fr, none⟩ | .tup ds => Q ⟨.tup ds, x.fr, none⟩ | _ => False) [⟨a, n, v⟩] Q := by
  cases a <;> first | (cases e; done) | (cases e; exact h)
theorem g1_list {a : D} {n : Bool} {v : Option V} {l : List D} {Q : Dv → Prop} (e : a.seq = some l) (h : Q ⟨.lst l, Dv.fr ⟨a, n, v⟩, none⟩) : g1 (fun x Q => match x.d with | .lst ds => Q ⟨.lst ds, x.fr, none⟩ | .tup ds => Q ⟨.lst ds, x.fr, none⟩ | _ => False) [⟨a, n, v⟩] Q := by
  cases a <;> first | (cases e; done) | (cases e; exact h)
end DL
namespace DL
open PySem PySem.Spec PyProof.Rows L2
theorem isa_seq {d : D} (h : d.good = true) : (["list", "tuple"].any fun T => D.isa T d) = d.seq.isSome := by
  cases d <;> first | rfl | (simp [D.good] at h)
theorem gEq_int {b : Bool} {i j : Int} {n n' : Bool} {v v' : Option V} {Q : Dv → Prop} : gEq b ⟨.int i, n, v⟩ ⟨.int j, n', v'⟩ Q = Q ⟨.bl (if b then !(i == j) else i == j), true, none⟩ := by
  simp [gEq, D.shp, D.pln, D.dep, D.eqv]
theorem isa_int (d : D) : D.isa "int" d = (match d with | .int _ => true | .bl _ => true | _ => false) := by
  cases d <;> rfl
theorem isa_bool (d : D) : D.isa "bool" d = (match d with | .bl _ => true | _ => false) := by
  cases d <;> rfl
end DL
namespace DL
open PySem PySem.Spec PyProof.Rows L2
/-- a loop, turn by turn -/
theorem for_idx {gt : TDG} {gb : TDS} {N : DEnds} {XQ : XQT} (Inv : Nat → Ro → Prop) : ∀ (xs : List Dv) (n : Nat) (ρ : Ro), Inv n ρ →
    (∀ i x, xs[i]? = some x → ∀ ρ, Inv (n + i) ρ → ∀ K : Ro → Prop, (∀ ρ', Inv (n + i + 1) ρ' → K ρ') → gt x ρ fun ρ' => gb { nx := K, rt := N.rt, bk := N.nx, ct := K } ρ' XQ) → (∀ ρ, Inv (n + xs.length) ρ → N.nx ρ) → forGo gt gb N XQ xs ρ
  | [], n, ρ, h, _, e => e ρ h
  | x :: xs, n, ρ, h, s, e => by
    refine s 0 x rfl ρ h (fun ρ' => forGo gt gb N XQ xs ρ') fun ρ' h' => ?_
    have e0 : n + (x :: xs).length = n + 1 + xs.length := by rw [List.length_cons]; omega
    refine for_idx Inv xs (n + 1) ρ' h' (fun i y hy ρ2 h2 K k => ?_) fun ρ2 h2 => e ρ2 (by rw [e0]; exact h2)
    have e1 : n + (i + 1) = n + 1 + i := by omega
    exact s (i + 1) y (by simpa using hy) ρ2 (by rw [e1]; exact h2) K fun ρ3 h3 => k ρ3 (by rw [e1] at h3; exact h3)
theorem like_good {a : D} {ds : List D} (h : a.good = true) (hx : ∀ x ∈ ds, x.good = true) (hl : ds.length ≤ 100000) : (a.like ds).good = true := by
  unfold D.like
  split <;> simp [D.good, goodL_of hx, hl]
theorem gAdd_int {i j : Int} {n n' : Bool} {v v' : Option V} {Q : Dv → Prop} : gAdd ⟨.int i, n, v⟩ ⟨.int j, n', v'⟩ Q = Q ⟨.int (i + j), true, none⟩ := rfl
end DL
namespace DL
open PySem PySem.Spec PyProof.Rows L2
theorem fnd_none {P : Program} {w : World} {K : PySem.W.Frag} {mg : Str → Option Value} {base : Heap} {k cost : Nat} {f : Addr} {fd : FuncData} {ps : List Str} {g : DC} (h : ∀ ds vs XQ Q, ¬ g ds vs XQ Q) : FnD P w K mg base k f fd ps cost g :=
  ⟨fun vs H Q E h => h.1, fun A outer s H args us vs Q E _ _ _ _ ⟨_, R, st, L, B, ds, XQ, QD, _, _, _, q, _⟩ => (h ds vs XQ QD q).elim⟩
/-- draws within a recursion -/
def costL : Nat → Nat
  | 0 => 0
  | k + 1 => BIG * costL k + 10
def cost0 : Nat → Nat := fun _ => 0
end DL
namespace DL
open PySem PySem.Spec PyProof.Rows L2
theorem rgD_len {lo : Int} {n : Nat} : (rgD lo n).length = n := by simp [rgD]
theorem rgD_get {lo : Int} {n i : Nat} {x : Dv} (h : (rgD lo n)[i]? = some x) : i < n ∧ x = ⟨.int (lo + i), true, none⟩ := by
  have hl := (List.getElem?_eq_some_iff.mp h).1
  rw [rgD_len] at hl
  refine ⟨hl, ?_⟩
  unfold rgD at h
  rw [List.getElem?_map, List.getElem?_range hl] at h
  exact (Option.some.inj h).symm
theorem gEq_bl {b : Bool} {i j : Bool} {n n' : Bool} {v v' : Option V} {Q : Dv → Prop} : gEq b ⟨.bl i, n, v⟩ ⟨.bl j, n', v'⟩ Q = Q ⟨.bl (if b then !(i == j) else i == j), true, none⟩ := by
  simp [gEq, D.shp, D.pln, D.dep, D.eqv]
theorem gEq_str {b : Bool} {i j : Str} {n n' : Bool} {v v' : Option V} {Q : Dv → Prop} (hi : PyData.strOk i = true) (hj : PyData.strOk j = true) : gEq b ⟨.str i, n, v⟩ ⟨.str j, n', v'⟩ Q = Q ⟨.bl (if b then !(i == j) else i == j), true, none⟩ := by
  simp [gEq, D.shp, D.pln, D.dep, D.eqv, hi, hj]
mutual
/-- dicts: empty ones alone -/
def D.smp : D → Bool
  | .lst xs => D.smpL xs
  | .tup xs => D.smpL xs
  | .dct kvs => kvs.isEmpty
  | _ => true
def D.smpL : List D → Bool
  | [] => true
  | x :: xs => D.smp x && D.smpL xs
end
theorem smpL_mem : ∀ {xs : List D}, D.smpL xs = true → ∀ x ∈ xs, x.smp = true
  | [], _, _, h => by cases h
  | y :: ys, h, x, hx => by
    simp only [D.smpL, Bool.and_eq_true] at h
    rcases List.mem_cons.mp hx with rfl | hx
    · exact h.1
    · exact smpL_mem h.2 x hx
theorem smpL_of : ∀ {xs : List D}, (∀ x ∈ xs, x.smp = true) → D.smpL xs = true
  | [], _ => rfl
  | y :: ys, h => by
    simp only [D.smpL, Bool.and_eq_true]
    exact ⟨h y List.mem_cons_self, smpL_of fun x hx => h x (List.mem_cons_of_mem _ hx)⟩
mutual
/-- how deep a comparison goes -/
def D.rnk : D → Nat
  | .lst xs => D.rnkL xs + 1
  | .tup xs => D.rnkL xs + 1
  | .dct _ => 2
  | _ => 0
def D.rnkL : List D → Nat
  | [] => 0
  | x :: xs => max (D.rnk x) (D.rnkL xs)
end
theorem rnkL_mem : ∀ {xs : List D} {k : Nat}, D.rnkL xs < k → ∀ x ∈ xs, x.rnk < k
  | [], _, _, _, h => by cases h
  | y :: ys, k, h, x, hx => by
    simp only [D.rnkL] at h
    rcases List.mem_cons.mp hx with rfl | hx
    · omega
    · exact rnkL_mem (by omega) x hx
theorem rnkL_of : ∀ {xs : List D} {k : Nat}, (∀ x ∈ xs, x.rnk ≤ k) → D.rnkL xs ≤ k
  | [], _, _ => Nat.zero_le _
  | y :: ys, k, h => by
    simp only [D.rnkL]
    have h1 := h y List.mem_cons_self
    have h2 := rnkL_of (xs := ys) (k := k) fun x hx => h x (List.mem_cons_of_mem _ hx)
    omega
theorem seq_rnk {d : D} {xs : List D} (e : d.seq = some xs) : d.rnk = D.rnkL xs + 1 := by
  cases d <;> first | (cases e; rfl) | (cases e; done)
theorem seq_smp {d : D} {xs : List D} (e : d.seq = some xs) : d.smp = D.smpL xs := by
  cases d <;> first | (cases e; rfl) | (cases e; done)
end DL
namespace DL
open PySem PySem.Spec PyProof.Rows L2
/-- a range: it stays walkable whatever is frozen -/
def DIr (X : Cx) (E : XK) (c : Nat) (tg iter : Expr) (f : TDs) : Prop := ∃ wi : TI, PI X tg iter wi ∧ ∀ F B R H σ ρ α XQ Q (K : It → Hp → Prop), F.K = X.K → XLink F E XQ → B + c ≤ F.L → StOk F B R H σ ρ α → f ρ XQ Q →
  (∀ J xs R' H', Ext F R H R' H' → HpOk F (B + c) R' H' → Q xs → (∀ R2, Walks F R2 H' J xs) → K J H') → wi σ H K
section
variable {X : Cx} {E : XK} {c ca cb cc ci : Nat} {a b e tg iter : Expr} {es : List Expr} {fa fb fe : TD} {fi : TDs} {fs : TDs} {pos p : Pos} {x : Str}
theorem dir_range1 {p2 : Pos} (hg : Gl X "range") (hm : X.mg "range" = none) (ha : DA X E c [a] fs) (hs : starEach [a] X.env = [(false, eval a X.env)] := by rfl) :
    DIr X E c tg (.Call (.Name "range" p) [a] [] p2) (fun ρ XQ Q => fs ρ XQ fun xs => match xs with | [x] => (match x.d with | .int j => -(2 ^ 62) ≤ j ∧ j < 2 ^ 62 ∧ Q (rgD 0 j.toNat) | _ => False) | _ => False) := by
  obtain ⟨t, pt, s⟩ := ha
  refine ⟨_, pi_range1 hg hm pt hs, fun F B R H σ ρ α XQ Q K hK hX hB S h k => ?_⟩
  refine s F B R H σ ρ α XQ _ _ hK hX hB S h fun vs xs R' H' e' o' r' q' => ?_
  match xs, vs, r', q' with
  | [⟨d, n, vo⟩], [v], .cons r1 .nil, q' =>
    cases d <;> try exact q'.elim
    have r2 := r1.1
    cases r2
    exact ⟨_, rfl, q'.1, q'.2.1, k _ _ R' H' e' o' q'.2.2 fun _ => walks_range⟩
theorem dir_range2 {p2 : Pos} (hg : Gl X "range") (hm : X.mg "range" = none) (ha : DA X E c [a, b] fs) (hs : starEach [a, b] X.env = [(false, eval a X.env), (false, eval b X.env)] := by rfl) (hs2 : starEach [b] X.env = [(false, eval b X.env)] := by rfl) :
    DIr X E c tg (.Call (.Name "range" p) [a, b] [] p2) (fun ρ XQ Q => fs ρ XQ fun xs => match xs with | [x, y] => (match x.d, y.d with | .int i, .int j => (-(2 ^ 62) ≤ i ∧ i < 2 ^ 62 ∧ -(2 ^ 62) ≤ j ∧ j < 2 ^ 62) ∧ Q (rgD i (j - i).toNat) | _, _ => False) | _ => False) := by
  obtain ⟨t, pt, s⟩ := ha
  refine ⟨_, pi_range2 hg hm pt hs hs2, fun F B R H σ ρ α XQ Q K hK hX hB S h k => ?_⟩
  refine s F B R H σ ρ α XQ _ _ hK hX hB S h fun vs xs R' H' e' o' r' q' => ?_
  match xs, vs, r', q' with
  | [⟨d, n, vo⟩, ⟨d2, n2, vo2⟩], [v, u], .cons r1 (.cons r2 .nil), q' =>
    cases d <;> cases d2 <;> try exact q'.elim
    have z1 := r1.1
    have z2 := r2.1
    cases z1; cases z2
    exact ⟨_, _, rfl, q'.1, k _ _ R' H' e' o' q'.2 fun _ => walks_range⟩
/-- for over a range whose bounds read own slots: these are own again behind the bounds -/
theorem ds_forR (l : List Nat) {l2 : List Nat} {body : List Stmt} {gt : TDG} {gb : TDS} (hp : PassesOwn (model X.prog X.w) X.A X.env X.xe) (hc : X.calm = true) (hi : DIr X E ci tg iter fi) (hg : DG X l2 tg gt) (hb : DSs X E cb body gb)
    (hs : ∀ x, foldedSetIterable iter X.env x = pure x := by intro _; rfl) :
    DS X E (ci + BIG * cb) (.For tg iter body [] pos) (fun N ρ XQ => fi (frz l ρ) XQ fun xs => (cb = 0 ∨ xs.length ≤ BIG) ∧ forGo gt gb N XQ xs ρ) := by
  obtain ⟨wi, pi, si⟩ := hi
  obtain ⟨tt, pt, st⟩ := hg
  obtain ⟨tb, pb, sb⟩ := hb
  refine ⟨_, ps_for hp hc pi pt pb hs, fun F B R H σ ρ α XQ N K hK hX hB S h k => ?_⟩
  obtain ⟨R1, S1, h1⟩ := S.frzs l
  refine si F B R1 H σ (frz l ρ) α XQ _ _ hK hX (by omega) S1 h fun J xs R0 H2 e2 o2 ⟨hz, q⟩ w0 => ?_
  obtain ⟨S2, z2⟩ := S.back h1 e2 o2
  generalize (fun a => R0 a ∧ (R a ∨ Nn H a)) = R2 at S2 z2
  have w := w0 R2
  have le : ∀ i, i ≤ xs.length → i * cb ≤ BIG * cb := fun i hi => by
    rcases hz with hz | hz
    · rw [hz]; simp
    · exact Nat.mul_le_mul_right _ (Nat.le_trans hi hz)
  refine ⟨fun i m σ' H' => m = xs.length - i ∧ i ≤ xs.length ∧ ∃ R' ρ' α', Fz F R2 H2 R' H' ∧ StOk F (B + ci + i * cb) R' H' σ' ρ' α' ∧ forGo gt gb N XQ (xs.drop i) ρ', ⟨_, rfl, Nat.zero_le _, R2, ρ, α, .refl, by simpa using S2, by simpa using q⟩, ?_⟩
  rintro i m σ' H' ⟨rfl, hi, R', ρ', α', z, S', q⟩
  by_cases hlt : i < xs.length
  · refine .inr ?_
    have hx : xs[i]? = some xs[i] := by simp [hlt]
    obtain ⟨go, yl⟩ := (w i _ R' H' z S'.hp).2 _ hx
    rw [List.drop_eq_getElem_cons hlt] at q
    refine ⟨go, fun σ2 H2' => ∃ R'' ρ'' α'', Fz F R2 H2 R'' H2' ∧ StOk F (B + ci + (i + 1) * cb) R'' H2' σ2 ρ'' α'' ∧ forGo gt gb N XQ (xs.drop (i + 1)) ρ'', fun σ2 H2' q2 => ⟨_, by omega, rfl, hlt, q2⟩, fun v H'' y => ?_⟩
    obtain ⟨R'', ex, ox, rx⟩ := yl v H'' y
    have z3 := z.trans (ex.fz S'.hp)
    refine st F _ R'' H'' σ' ρ' α' v _ _ _ hK (S'.ext ex ox) rx q fun σ3 ρ3 S3 _ q3 => ?_
    have e1 : B + ci + (i + 1) * cb = B + ci + i * cb + cb := by rw [Nat.add_mul, Nat.one_mul]; omega
    have e3 : B + ci + (i + 1) * cb ≤ B + (ci + BIG * cb) := by have := le (i + 1) hlt; omega
    have kk : EndsOk F (B + ci + i * cb + cb) R'' H'' N K := (k.fz (z2.trans z3)).mono (by omega)
    refine sb F _ R'' H'' σ3 ρ3 α' XQ _ _ hK hX (by omega) S3 q3 ⟨fun σ4 H4 ρ4 R4 α4 z4 S4 q4 => ⟨R4, ρ4, α4, z3.trans z4, by rw [e1]; exact S4, q4⟩, kk.rt, kk.nx, fun σ4 H4 ρ4 R4 α4 z4 S4 q4 => ⟨R4, ρ4, α4, z3.trans z4, by rw [e1]; exact S4, q4⟩⟩
  · have hl : i = xs.length := by omega
    refine .inl ⟨(w i _ R' H' z S'.hp).1 hl, ?_⟩
    rw [hl, List.drop_length] at q
    exact k.nx σ' H' ρ' R' α' (z2.trans z) (S'.mono (by have := le i hi; omega)) q
end
end DL
namespace DL
open PySem PySem.Spec PyProof.Rows L2
/-- each item gives something that stands in a relation to it -/
theorem lc_rel {gt : TDG} {ft : TDt} {fe : TD} {ρw : Ro} {Q : Dv → Prop} (Rl : Dv → D → Prop) : ∀ {xs : List Dv} {acc : List D} {n : Bool},
    (∀ x ∈ xs, ∀ (K1 : Dv → Prop) (K0 : Prop), (∀ d m v, Rl x d → K1 ⟨d, m, v⟩) → lcStep gt ft fe ρw x K1 K0) → (∀ ys m, Paired Rl xs ys → Q ⟨.lst (acc ++ ys), m, none⟩) → lcGo gt ft fe ρw Q xs acc n
  | [], acc, n, _, q => by
    have := q [] n .nil
    rwa [List.append_nil] at this
  | x :: xs, acc, n, h, q => by
    rw [lcGo_cons]
    refine h x List.mem_cons_self _ _ fun d m v r => ?_
    refine lc_rel Rl (fun y hy => h y (List.mem_cons_of_mem _ hy)) fun ys m' hp => ?_
    have := q (d :: ys) m' (.cons r hp)
    rwa [show acc ++ d :: ys = acc ++ [d] ++ ys by simp] at this
theorem lc_rel0 {gt : TDG} {ft : TDt} {fe : TD} {ρw : Ro} {Q : Dv → Prop} (Rl : Dv → D → Prop) {xs : List Dv} {n : Bool}
    (h : ∀ x ∈ xs, ∀ (K1 : Dv → Prop) (K0 : Prop), (∀ d m v, Rl x d → K1 ⟨d, m, v⟩) → lcStep gt ft fe ρw x K1 K0) (q : ∀ ys m, Paired Rl xs ys → Q ⟨.lst ys, m, none⟩) : lcGo gt ft fe ρw Q xs [] n :=
  lc_rel Rl h fun ys m hp => by simpa using q ys m hp
end DL
namespace DL
open PySem PySem.Spec PyProof.Rows L2
theorem g2I_int {f : Int → Int → Int} {i j : Int} {n n' : Bool} {v v' : Option V} {Q : Dv → Prop} : g2I f [⟨.int i, n, v⟩, ⟨.int j, n', v'⟩] Q = Q ⟨.int (f i j), true, none⟩ := rfl
end DL
namespace DL
open PySem PySem.Spec PyProof.Rows L2
theorem gIntOf {i : Int} {n : Bool} {v : Option V} {Q : Dv → Prop} : g1 (fun x Q => match x.d with | .int i => Q ⟨.int i, true, none⟩ | .bl b => Q ⟨.int (if b then 1 else 0), true, none⟩ | _ => False) [⟨.int i, n, v⟩] Q = Q ⟨.int i, true, none⟩ := rfl
end DL
namespace DL
open PySem PySem.Spec PyProof.Rows L2
theorem scaL_ints : ∀ is : List Int, D.scaL (is.map D.int) = true
  | [] => rfl
  | i :: is => by simp [D.scaL, D.sca, scaL_ints is]
theorem isIn_ints {i : Int} : ∀ is : List Int, D.isIn (.int i) (is.map D.int) = decide (i ∈ is)
  | [] => rfl
  | j :: is => by
    show (D.eqv (.int j) (.int i) || D.isIn (.int i) (is.map D.int)) = decide (i ∈ j :: is)
    rw [isIn_ints is, Bool.eq_iff_iff]
    simp only [Bool.or_eq_true, decide_eq_true_eq, List.mem_cons, D.eqv, beq_iff_eq]
    exact ⟨fun h => h.elim (fun h => .inl h.symm) .inr, fun h => h.elim (fun h => .inl h.symm) .inr⟩
theorem gIn_ints {b : Bool} {i : Int} {is : List Int} {n n' : Bool} {v v' : Option V} {Q : Dv → Prop} : gIn b ⟨.int i, n, v⟩ ⟨.tup (is.map D.int), n', v'⟩ Q = Q ⟨.bl (if b then !decide (i ∈ is) else decide (i ∈ is)), true, none⟩ := by
  unfold gIn
  simp only [D.sca, scaL_ints, true_and, isIn_ints]
end DL
namespace DL
open PySem PySem.Spec PyProof.Rows L2
section
variable {X : Cx} {E : XK} {c ca cb cc ci ct ce : Nat} {a b e tg iter elt : Expr} {es : List Expr} {fa fb fe : TD} {fi : TDs} {fs : TDs} {ft : TDt} {pos p : Pos} {x : Str}
/-- x = [..], x's own from now on -/
theorem ds_setLcO (lf : List Nat) {i : Nat} {y : Str} {py spos : Pos} {scope : Scope} {own : List (Str × Nat)} {l : List Nat} {gt : TDG} (hc : X.calm = true) (hN : X.N.Nodup) (hy : X.N[i]? = some y) (hyl : X.env.scope.names.lookup y = some .local) {ifs : List Expr}
    (hsw : swapsWith (.ListComp elt [⟨tg, iter, ifs, 0⟩] scope pos) (some (.Name y py)) spos.line X.env = pure true) (hi : DI X E ci tg iter fi) (ok : BlkOk X.N X.env.scope scope own)
    (hg : ∀ s H C cl fp, DG (X.blk s H scope (compEnvC scope cl C X.env) fp) l tg gt) (ht : ∀ s H C cl fp, DTs (X.blk s H scope (compEnvC scope cl C X.env) fp) E0 ct ifs ft) (he : ∀ s H C cl fp, DE (X.blk s H scope (compEnvC scope cl C X.env) fp) E0 ce elt fe)
    (hl : ∀ i ∈ l, i ∈ own.map (·.2)) (hs : ∀ x, foldedSetIterable iter X.env x = pure x := by intro _; rfl) :
    DS X E (ci + BIG * (ct + ce)) (.Assign [.Name y py] (.ListComp elt [⟨tg, iter, ifs, 0⟩] scope pos) spos) (fun N ρ XQ => fi (frz lf ρ) XQ fun xs => xs.length ≤ BIG ∧ lcGo gt ft fe (wipeR (frz lf ρ) (own.map (·.2))) (fun x => N.nx ((frz lf ρ).set i (.ow x.d x.n))) xs [] true) := by
  obtain ⟨wi, pi, si⟩ := hi
  have hG : ∃ g : TG, (∀ s H C cl fp, PG (X.blk s H scope (compEnvC scope cl C X.env) fp) tg g) ∧ ∀ F B R H σ ρ α v x Q (K : L2.St → Hp → Prop), F.K = X.K → StOk F B R H σ ρ α → Rp F H R x v → gt x ρ Q → (∀ σ' ρ', StOk F B R H σ' ρ' α → SetOnly l σ σ' → Q ρ' → K σ' H) → g v σ H K :=
    ⟨fun v σ H Q => ∀ s H0 C cl fp, (hg s H0 C cl fp).choose v σ H Q, fun s H C cl fp => ⟨fun pins s' σ H' v u Q I r q => (hg s H C cl fp).choose_spec.1.run pins s' σ H' v u Q I r (q s H C cl fp)⟩,
      fun F B R H σ ρ α v x Q K hK S r q k s H0 C cl fp => (hg s H0 C cl fp).choose_spec.2 F B R H σ ρ α v x Q K hK S r q k⟩
  have hT : ∃ tt : TT, (∀ s H C cl fp, PTs (X.blk s H scope (compEnvC scope cl C X.env) fp) ifs tt) ∧ ∀ F B R H σ ρ α XQ Q (K : Bool → Hp → Prop), F.K = X.K → XLink F E0 XQ → B + ct ≤ F.L → StOk F B R H σ ρ α → ft ρ XQ Q → (∀ b R' H', Ext F R H R' H' → HpOk F (B + ct) R' H' → Q b → K b H') → tt σ H K :=
    ⟨fun σ H Q => ∀ s H0 C cl fp, (ht s H0 C cl fp).choose σ H Q, fun s H C cl fp => ⟨fun pins s' σ H' Q I q => (ht s H C cl fp).choose_spec.1.run pins s' σ H' Q I (q s H C cl fp)⟩,
      fun F B R H σ ρ α XQ Q K hK hX hB S q k s H0 C cl fp => (ht s H0 C cl fp).choose_spec.2 F B R H σ ρ α XQ Q K hK hX hB S q k⟩
  have hE : ∃ te : TE, (∀ s H C cl fp, PE (X.blk s H scope (compEnvC scope cl C X.env) fp) elt te) ∧ ∀ F B R H σ ρ α XQ Q (K : VK), F.K = X.K → XLink F E0 XQ → B + ce ≤ F.L → StOk F B R H σ ρ α → fe ρ XQ Q → (∀ v x R' H', Ext F R H R' H' → HpOk F (B + ce) R' H' → Rp F H' R' x v → Q x → K v H') → te σ H K :=
    ⟨fun σ H Q => ∀ s H0 C cl fp, (he s H0 C cl fp).choose σ H Q, fun s H C cl fp => ⟨fun pins s' σ H' Q I q => (he s H C cl fp).choose_spec.1.run pins s' σ H' Q I (q s H C cl fp)⟩,
      fun F B R H σ ρ α XQ Q K hK hX hB S q k s H0 C cl fp => (he s H0 C cl fp).choose_spec.2 F B R H σ ρ α XQ Q K hK hX hB S q k⟩
  obtain ⟨g, pg, sg⟩ := hG
  obtain ⟨tt, pt, st⟩ := hT
  obtain ⟨te, pe, se⟩ := hE
  refine ⟨_, ps_setLc hc hN hy hyl hsw pi ok pg pt pe hs, fun F B R H σ ρ α XQ N K hK hX hB S h k => ?_⟩
  obtain ⟨R1, S1, h1⟩ := S.frzs lf
  refine dn_lc_of si sg st se hl F B R1 H σ (frz lf ρ) α XQ _ _ hK hX hB S1 h fun a d n R' H' e' o' w hn q => ?_
  have z : Fz F R H R1 H := ⟨h1, fun _ _ _ h _ => h, fun _ _ h => h⟩
  exact k.nx _ H' _ R' (fun j => if j = i then a else α j) (z.trans (e'.fz S1.hp)) ((S1.ext e' o').seto w fun j d n hj ej => by
    obtain ⟨o, ho, nt⟩ := (S1.ow j d n hj).2.some
    exact hn o (ej ▸ ho) nt) q
end
end DL
namespace DL
open PySem PySem.Spec PyProof.Rows L2
theorem gAdd_lst {xs ys : List D} {n n' : Bool} {v v' : Option V} {Q : Dv → Prop} : gAdd ⟨.lst xs, n, v⟩ ⟨.lst ys, n', v'⟩ Q = (xs.length + ys.length ≤ BIG ∧ Q ⟨.lst (xs ++ ys), Dv.fr ⟨.lst xs, n, v⟩ && Dv.fr ⟨.lst ys, n', v'⟩, none⟩) := rfl
theorem gAdd_tup {xs ys : List D} {n n' : Bool} {v v' : Option V} {Q : Dv → Prop} : gAdd ⟨.tup xs, n, v⟩ ⟨.tup ys, n', v'⟩ Q = (xs.length + ys.length ≤ BIG ∧ Q ⟨.tup (xs ++ ys), Dv.fr ⟨.tup xs, n, v⟩ && Dv.fr ⟨.tup ys, n', v'⟩, none⟩) := rfl
theorem cutL_len {α : Type} (xs : List α) (lo hi : Option Int) : (cutL xs lo hi).length ≤ xs.length := by
  unfold cutL
  rw [List.length_take, List.length_drop]
  omega
end DL
namespace DL
open PySem PySem.Spec PyProof.Rows L2
theorem plnL_ints : ∀ is : List Int, D.plnL (is.map D.int) = true
  | [] => rfl
  | i :: is => by
    show (D.pln (.int i) && D.plnL (is.map D.int)) = true
    rw [plnL_ints is]
    rfl
theorem depL_ints : ∀ is : List Int, D.depL (is.map D.int) = 0
  | [] => rfl
  | i :: is => by
    show max (D.dep (.int i)) (D.depL (is.map D.int)) = 0
    rw [depL_ints is]
    rfl
theorem shp_tupInts (is : List Int) : (D.tup (is.map D.int)).shp = true := by
  unfold D.shp
  simp only [D.pln, plnL_ints, D.dep, depL_ints, Bool.true_and]
  decide
theorem gEq_nil {b : Bool} {is : List Int} {n n' : Bool} {v v' : Option V} {Q : Dv → Prop} : gEq b ⟨.tup (is.map D.int), n, v⟩ ⟨.tup [], n', v'⟩ Q = Q ⟨.bl (if b then !is.isEmpty else is.isEmpty), true, none⟩ := by
  unfold gEq
  rw [show (⟨.tup (is.map D.int), n, v⟩ : Dv).d.shp = true from shp_tupInts is]
  have : D.eqv (.tup (is.map D.int)) (.tup []) = is.isEmpty := by cases is <;> rfl
  simp only [this, true_and]
  have h2 : (D.tup []).shp = true := by decide
  simp only [h2, true_and]
end DL
namespace DL
open PySem PySem.Spec PyProof.Rows L2
theorem gIn_str2 {i a b : Str} {n n' : Bool} {v v' va vb : Option V} {na nb : Bool} {fl : Bool} {Q : Dv → Prop}   : gIn false ⟨.str i, n, v⟩ ⟨.tup (List.map (fun x : Dv => x.d) [⟨.str a, na, va⟩, ⟨.str b, nb, vb⟩]), fl, v'⟩ Q = Q ⟨.bl (a == i || b == i), true, none⟩ := by
  simp [gIn, D.sca, D.scaL, D.isIn, D.eqv]
end DL

set_option Elab.async false
set_option linter.all false
namespace DL
open PySem PySem.Spec PyProof.Rows L2
/-- plain small data: rank and width -/
inductive Nic : Nat → Nat → D → Prop
  | int {i : Int} : i.natAbs ≤ 10 ^ 30 → Nic 0 1921 (.int i)
  | bl {b : Bool} : Nic 0 1921 (.bl b)
  | non : Nic 0 1921 .non
  | str {s : Str} : PyData.strOk s = true → s.length ≤ 100 → Nic 0 1921 (.str s)
  | dct : Nic 2 1921 (.dct [])
  | tup {k w l : Nat} {xs : List D} : xs.length ≤ l → l ≤ 1000 → (∀ x ∈ xs, Nic k w x) → Nic (k + 1) (l * (w + 2) + 3) (.tup xs)
  | lst {k w l : Nat} {xs : List D} : xs.length ≤ l → l ≤ 1000 → (∀ x ∈ xs, Nic k w x) → Nic (k + 1) (l * (w + 2) + 3) (.lst xs)
  | mono {k w k' w' : Nat} {x : D} : Nic k w x → k ≤ k' → w ≤ w' → Nic k' w' x
theorem rnkL_le : ∀ {xs : List D} {k : Nat}, (∀ x ∈ xs, x.rnk ≤ k) → D.rnkL xs ≤ k
  | [], _, _ => Nat.zero_le _
  | y :: ys, k, h => by
    simp only [D.rnkL]
    exact Nat.max_le.mpr ⟨h y (by simp), rnkL_le fun x hx => h x (by simp [hx])⟩
theorem depL_le : ∀ {xs : List D} {k : Nat}, (∀ x ∈ xs, x.dep ≤ k) → D.depL xs ≤ k
  | [], _, _ => Nat.zero_le _
  | y :: ys, k, h => by
    simp only [D.depL]
    exact Nat.max_le.mpr ⟨h y (by simp), depL_le fun x hx => h x (by simp [hx])⟩
theorem widL_le : ∀ {xs : List D} {w : Nat}, (∀ x ∈ xs, x.wid ≤ w) → D.widL xs ≤ xs.length * (w + 2)
  | [], _, _ => Nat.zero_le _
  | y :: ys, w, h => by
    have h1 := h y (by simp)
    have h2 := widL_le (xs := ys) (w := w) fun x hx => h x (by simp [hx])
    simp only [D.widL, List.length_cons]
    rw [Nat.succ_mul]
    omega
theorem shwL_of : ∀ {xs : List D}, (∀ x ∈ xs, x.shw = true) → D.shwL xs = true
  | [], _ => rfl
  | y :: ys, h => by
    simp only [D.shwL, Bool.and_eq_true]
    exact ⟨h y (by simp), shwL_of fun x hx => h x (by simp [hx])⟩
theorem Nic.all {k w : Nat} {x : D} (h : Nic k w x) : x.good = true ∧ x.smp = true ∧ x.shw = true ∧ x.rnk ≤ k ∧ x.dep ≤ k ∧ x.wid ≤ w := by
  induction h with
  | @int i h =>
    refine ⟨rfl, rfl, ?_, Nat.le_refl _, Nat.le_refl _, Nat.le_refl _⟩
    simp only [D.shw, decide_eq_true_eq]
    have h2 : i.natAbs < 2 ^ 1919 := Nat.lt_of_le_of_lt h (by decide +kernel)
    by_cases h0 : i.natAbs = 0
    · rw [h0]; decide
    · exact Nat.lt_trans ((Nat.log2_lt h0).mpr h2) (by decide)
  | bl => exact ⟨rfl, rfl, rfl, Nat.le_refl _, Nat.le_refl _, by simp [D.wid]⟩
  | non => exact ⟨rfl, rfl, rfl, Nat.le_refl _, Nat.le_refl _, by simp [D.wid]⟩
  | str h l =>
    refine ⟨?_, rfl, h, Nat.le_refl _, Nat.le_refl _, ?_⟩
    · simp only [D.good, h, Bool.true_and, decide_eq_true_eq]
      omega
    · simp only [D.wid]
      omega
  | dct => exact ⟨rfl, rfl, rfl, by simp [D.rnk], by simp [D.dep], by simp [D.wid]⟩
  | @tup k w l xs h1 h2 h3 ih =>
    refine ⟨?_, ?_, ?_, ?_, ?_, ?_⟩
    · simp only [D.good, Bool.and_eq_true, decide_eq_true_eq]
      exact ⟨goodL_of fun x hx => (ih x hx).1, by omega⟩
    · exact smpL_of fun x hx => (ih x hx).2.1
    · exact shwL_of fun x hx => (ih x hx).2.2.1
    · exact Nat.succ_le_succ (rnkL_le fun x hx => (ih x hx).2.2.2.1)
    · exact Nat.succ_le_succ (depL_le fun x hx => (ih x hx).2.2.2.2.1)
    · have := widL_le fun x hx => (ih x hx).2.2.2.2.2
      have := Nat.mul_le_mul_right (w + 2) h1
      simp only [D.wid]
      omega
  | @lst k w l xs h1 h2 h3 ih =>
    refine ⟨?_, ?_, ?_, ?_, ?_, ?_⟩
    · simp only [D.good, Bool.and_eq_true, decide_eq_true_eq]
      exact ⟨goodL_of fun x hx => (ih x hx).1, by omega⟩
    · exact smpL_of fun x hx => (ih x hx).2.1
    · exact shwL_of fun x hx => (ih x hx).2.2.1
    · exact Nat.succ_le_succ (rnkL_le fun x hx => (ih x hx).2.2.2.1)
    · exact Nat.succ_le_succ (depL_le fun x hx => (ih x hx).2.2.2.2.1)
    · have := widL_le fun x hx => (ih x hx).2.2.2.2.2
      have := Nat.mul_le_mul_right (w + 2) h1
      simp only [D.wid]
      omega
  | mono _ h1 h2 ih =>
    obtain ⟨a, b, c, d, e, f⟩ := ih
    exact ⟨a, b, c, by omega, by omega, by omega⟩
end DL

set_option Elab.async false
set_option linter.all false
set_option maxRecDepth 100000
set_option maxHeartbeats 4000000
namespace My
open PySem PySem.Spec PyProof.Rows L2 DL
def top (i : Nat) : Stmt := PySem.Challenge.pw_postriders_k39_whole_numberings_and_stat.main.body.getD i (.Pass ⟨0, 0, 0, 0⟩)
abbrev s_is_list : Stmt := top 1
abbrev s_is_whole : Stmt := top 2
abbrev s_is_number : Stmt := top 3
abbrev s_is_row : Stmt := top 4
abbrev s_is_numbering : Stmt := top 10
abbrev s_check_numbering : Stmt := top 11
abbrev s_is_rising : Stmt := top 12
abbrev s_is_ride : Stmt := top 13
abbrev s_as_state : Stmt := top 14
abbrev s_is_state : Stmt := top 15
abbrev s__law_stream : Stmt := top 17
abbrev s__law_draw : Stmt := top 18
abbrev s__law_pick : Stmt := top 19
abbrev s__law_mixed : Stmt := top 20
abbrev s__law_same : Stmt := top 21
abbrev s__law_loose : Stmt := top 22
abbrev s__law_numbering : Stmt := top 23
abbrev s__law_place : Stmt := top 24
abbrev s__law_steps : Stmt := top 25
abbrev s__law_behind : Stmt := top 26
abbrev s__law_walked : Stmt := top 27
abbrev s__law_is_numbering : Stmt := top 28
abbrev s__law_are_numbers : Stmt := top 29
abbrev s__law_is_state : Stmt := top 30
abbrev s__law_met : Stmt := top 31
abbrev s__law_numberings : Stmt := top 32
abbrev s__law_states : Stmt := top 33
abbrev s_law : Stmt := top 34
abbrev s_BadNumbering___init__ : Stmt := inClass (top 8) 0
structure FnT (K : PySem.W.Frag) (mg : Str → Option Value) (x : Str) (st : Stmt) (ps : List Str) where
  f : Addr
  fd : FuncData
  ok : FunD K x x (defArgs st) (defBody st) (defScope st) [] [] f fd
  g : mg x = some (.ref f)
  b : Binds K fd ps []
structure Txt (K : PySem.W.Frag) (mg : Str → Option Value) where
  n_ValueError : mg "ValueError" = none
  n_abs : mg "abs" = none
  n_all : mg "all" = none
  n_any : mg "any" = none
  n_bool : mg "bool" = none
  n_dict : mg "dict" = none
  n_enumerate : mg "enumerate" = none
  n_int : mg "int" = none
  n_isinstance : mg "isinstance" = none
  n_len : mg "len" = none
  n_list : mg "list" = none
  n_max : mg "max" = none
  n_min : mg "min" = none
  n_range : mg "range" = none
  n_repr : mg "repr" = none
  n_sorted : mg "sorted" = none
  n_str : mg "str" = none
  n_tuple : mg "tuple" = none
  n_zip : mg "zip" = none
  f_is_list : FnT K mg "is_list" s_is_list ["thing"]
  f_is_whole : FnT K mg "is_whole" s_is_whole ["thing"]
  f_is_number : FnT K mg "is_number" s_is_number ["thing"]
  f_is_row : FnT K mg "is_row" s_is_row ["thing", "many"]
  f_is_numbering : FnT K mg "is_numbering" s_is_numbering ["thing"]
  f_check_numbering : FnT K mg "check_numbering" s_check_numbering ["numbering"]
  f_is_rising : FnT K mg "is_rising" s_is_rising ["things"]
  f_is_ride : FnT K mg "is_ride" s_is_ride ["numbering", "thing"]
  f_as_state : FnT K mg "as_state" s_as_state ["numbering", "thing"]
  f_is_state : FnT K mg "is_state" s_is_state ["numbering", "thing"]
  f__law_stream : FnT K mg "_law_stream" s__law_stream ["script"]
  f__law_draw : FnT K mg "_law_draw" s__law_draw ["stream", "many"]
  f__law_pick : FnT K mg "_law_pick" s__law_pick ["stream", "things"]
  f__law_mixed : FnT K mg "_law_mixed" s__law_mixed ["stream", "things"]
  f__law_same : FnT K mg "_law_same" s__law_same ["found", "due"]
  f__law_loose : FnT K mg "_law_loose" s__law_loose ["stream", "thing"]
  f__law_numbering : FnT K mg "_law_numbering" s__law_numbering ["stream", "most"]
  f__law_place : FnT K mg "_law_place" s__law_place ["numbering", "state", "letter"]
  f__law_steps : FnT K mg "_law_steps" s__law_steps ["numbering", "state"]
  f__law_behind : FnT K mg "_law_behind" s__law_behind ["numbering", "state", "step"]
  f__law_walked : FnT K mg "_law_walked" s__law_walked ["stream", "numbering", "many"]
  f__law_is_numbering : FnT K mg "_law_is_numbering" s__law_is_numbering ["thing"]
  f__law_are_numbers : FnT K mg "_law_are_numbers" s__law_are_numbers ["things", "least", "most"]
  f__law_is_state : FnT K mg "_law_is_state" s__law_is_state ["numbering", "thing"]
  f__law_met : FnT K mg "_law_met" s__law_met ["ask"]
  f__law_numberings : FnT K mg "_law_numberings" s__law_numberings ["stream", "numbering"]
  f__law_states : FnT K mg "_law_states" s__law_states ["stream", "numbering"]
  f_law : FnT K mg "law" s_law ["script"]
  e_BadNumbering : ExT K mg "BadNumbering" "numbering" s_BadNumbering___init__
/-! ### the plain side -/
def isWhole : D → Bool
  | .int _ => true
  | _ => false
theorem isWhole_int {d : D} (h : isWhole d = true) : ∃ i, d = .int i := by
  cases d <;> first | exact ⟨_, rfl⟩ | (simp [isWhole] at h)
def isNumber : D → Bool
  | .int i => decide (0 ≤ i)
  | _ => false
def isList (d : D) : Bool := d.seq.isSome
def isRow (d : D) (n : Int) : Bool := match d.seq with
  | some xs => (xs.length : Int) == n
  | none => false
def isNumbering (d : D) : Bool := match d.seq with
  | some [.int s, .int w, .int k, .int p, .int u] => decide (1 < s ∧ 0 < w ∧ 0 < k ∧ k ≤ w ∧ 0 ≤ p ∧ 0 < u)
  | _ => false

def rising : List Int → Bool
  | a :: b :: r => decide (a < b) && rising (b :: r)
  | _ => true
def risePair : D → Bool
  | .tup [.int a, .int b] => decide (a < b)
  | _ => false
theorem rise_all {n : Bool} : ∀ xs : List Int, (zipD n (xs.map D.int) ((xs.map D.int).drop 1)).all (fun x => risePair x.d) = rising xs
  | [] => rfl
  | [a] => rfl
  | a :: b :: r => by
    have ih := rise_all (n := n) (b :: r)
    simp only [List.map_cons, List.drop_succ_cons, List.drop_zero, zipD, List.all_cons, rising, risePair] at ih ⊢
    rw [ih]

section
variable {P : Program} {w : World} {K : PySem.W.Frag} {mg : Str → Option Value} {base : Heap}
theorem sc_is_list : FnScope ["thing"] ["thing"] (defScope s_is_list) := ⟨rfl, rfl, rfl, by decide +kernel, rfl, by decide +kernel, by decide +kernel⟩
def c_is_list : DC := fun ds _ _ Q => ∃ a, ds = [a] ∧ a.good = true ∧ Q ⟨.bl (isList a), true, none⟩
theorem ok_is_list (T : Txt K mg) : FnD P w K mg base 1 T.f_is_list.f T.f_is_list.fd ["thing"] 0 c_is_list := by
  refine fn_ok T.f_is_list.ok sc_is_list fun cdv A outer s H E hr => ⟨_, _, (dss_one (ds_ret [] (de_isiT (tys_ok2 ty_list ty_tuple) (de_var (pv 0)) (pa_tyCons (T := "list") (by rfl) T.n_list (by decide +kernel) (pa_tyCons (T := "tuple") (by rfl) T.n_tuple (by decide +kernel) pa_tyNil)) (by rfl) T.n_isinstance (by decide +kernel)))), by decide +kernel, fun ds vs XQ Q hd hv h => ?_⟩
  obtain ⟨a, rfl, ha, q⟩ := h
  match vs, hv with
  | [v], _ =>
  try simp only [frz, params, List.zipWith, List.length_cons, List.length_nil, Nat.reduceAdd, Nat.reduceSub, List.replicate, List.append_nil, List.cons_append, List.nil_append, getV_va, Pt.sl, true_and, List.getElem?_cons_zero, List.getElem?_cons_succ, List.set_cons_zero, List.set_cons_succ, ite_self, Bool.false_eq_true, if_false, if_true]
  refine ⟨good_ty ha, ?_⟩
  cases a <;> simp_all [D.isa, isList, D.seq, D.good]

theorem sc_is_whole : FnScope ["thing"] ["thing"] (defScope s_is_whole) := ⟨rfl, rfl, rfl, by decide +kernel, rfl, by decide +kernel, by decide +kernel⟩
def c_is_whole : DC := fun ds _ _ Q => ∃ a, ds = [a] ∧ a.good = true ∧ Q ⟨.bl (isWhole a), true, none⟩
theorem ok_is_whole (T : Txt K mg) : FnD P w K mg base 1 T.f_is_whole.f T.f_is_whole.fd ["thing"] 0 c_is_whole := by
  refine fn_ok T.f_is_whole.ok sc_is_whole fun cdv A outer s H E hr => ⟨_, _, (dss_one (ds_ret [] (de_and (de_isi (T := "int") ty_int (de_var (pv 0)) (by rfl) T.n_isinstance (by decide +kernel) (by rfl) T.n_int (by decide +kernel)) (de_one (de_not (de_isi (T := "bool") ty_bool (de_var (pv 0)) (by rfl) T.n_isinstance (by decide +kernel) (by rfl) T.n_bool (by decide +kernel))))))), by decide +kernel, fun ds vs XQ Q hd hv h => ?_⟩
  obtain ⟨a, rfl, ha, q⟩ := h
  match vs, hv with
  | [v], _ =>
  try simp only [frz, params, List.zipWith, List.length_cons, List.length_nil, Nat.reduceAdd, Nat.reduceSub, List.replicate, List.append_nil, List.cons_append, List.nil_append, getV_va, Pt.sl, true_and, List.getElem?_cons_zero, List.getElem?_cons_succ, List.set_cons_zero, List.set_cons_succ, ite_self, Bool.false_eq_true, if_false, if_true]
  have ht := good_ty ha
  cases a <;> simp_all [D.isa, isWhole]

theorem sc_is_number : FnScope ["thing"] ["thing"] (defScope s_is_number) := ⟨rfl, rfl, rfl, by decide +kernel, rfl, by decide +kernel, by decide +kernel⟩
def c_is_number : DC := fun ds _ _ Q => ∃ a, ds = [a] ∧ a.good = true ∧ Q ⟨.bl (isNumber a), true, none⟩
theorem ok_is_number (T : Txt K mg) : FnD P w K mg base 2 T.f_is_number.f T.f_is_number.fd ["thing"] 0 c_is_number := by
  refine fn_ok T.f_is_number.ok sc_is_number fun cdv A outer s H E hr => ⟨_, _, (dss_one (ds_ret [] (de_and (de_call ((ok_is_whole T).mono (by decide)) hr (by rfl) T.f_is_whole.g T.f_is_whole.ok.kp T.f_is_whole.b (passE (takes_of rfl rfl rfl rfl)) rfl (da_cons (de_var (pv 0)) da_nil)) (de_one (de_cmp dop_ge (de_var (pv 0)) de_int (nomark _)))))), by decide +kernel, fun ds vs XQ Q hd hv h => ?_⟩
  obtain ⟨a, rfl, ha, q⟩ := h
  match vs, hv with
  | [v], _ =>
  try simp only [frz, params, List.zipWith, List.length_cons, List.length_nil, Nat.reduceAdd, Nat.reduceSub, List.replicate, List.append_nil, List.cons_append, List.nil_append, getV_va, Pt.sl, true_and, List.getElem?_cons_zero, List.getElem?_cons_succ, List.set_cons_zero, List.set_cons_succ, ite_self, Bool.false_eq_true, if_false, if_true]
  refine gCall_of fun _ => ⟨a, rfl, ha, _, rfl, ?_⟩
  cases a <;> simp_all [isWhole, isNumber, gI]

theorem sc_is_row : FnScope ["thing", "many"] ["thing", "many"] (defScope s_is_row) := ⟨rfl, rfl, rfl, by decide +kernel, rfl, by decide +kernel, by decide +kernel⟩
def c_is_row : DC := fun ds _ _ Q => ∃ a n, ds = [a, .int n] ∧ a.good = true ∧ Q ⟨.bl (isRow a n), true, none⟩
theorem ok_is_row (T : Txt K mg) : FnD P w K mg base 2 T.f_is_row.f T.f_is_row.fd ["thing", "many"] 0 c_is_row := by
  refine fn_ok T.f_is_row.ok sc_is_row fun cdv A outer s H E hr => ⟨_, _, (dss_one (ds_ret [] (de_and (de_call ((ok_is_list T).mono (by decide)) hr (by rfl) T.f_is_list.g T.f_is_list.ok.kp T.f_is_list.b (passE (takes_of rfl rfl rfl rfl)) rfl (da_cons (de_var (pv 0)) da_nil)) (de_one (de_cmp (dop_eq hr.units) (de_callB dcl_len (by rfl) T.n_len (by decide +kernel) (da_cons (de_var (pv 0)) da_nil)) (de_var (pv 1)) (nomark _)))))), by decide +kernel, fun ds vs XQ Q hd hv h => ?_⟩
  obtain ⟨a, n, rfl, ha, q⟩ := h
  match vs, hv with
  | [v, u], _ =>
  try simp only [frz, params, List.zipWith, List.length_cons, List.length_nil, Nat.reduceAdd, Nat.reduceSub, List.replicate, List.append_nil, List.cons_append, List.nil_append, getV_va, Pt.sl, true_and, List.getElem?_cons_zero, List.getElem?_cons_succ, List.set_cons_zero, List.set_cons_succ, ite_self, Bool.false_eq_true, if_false, if_true]
  refine gCall_of fun _ => ⟨a, rfl, ha, _, rfl, ?_⟩
  cases a <;> simp_all [isRow, isList, D.seq, g1, gLen, gEq, D.shp, D.pln, D.dep, D.eqv]

theorem sc_is_numbering : FnScope ["thing", "size", "window", "kept", "passed", "under", "one"] ["thing"] (defScope s_is_numbering) := ⟨rfl, rfl, rfl, by decide +kernel, rfl, by decide +kernel, by decide +kernel⟩
def c_is_numbering : DC := fun ds _ _ Q => ∃ a, ds = [a] ∧ a.good = true ∧ Q ⟨.bl (isNumbering a), true, none⟩
theorem ok_is_numbering (T : Txt K mg) : FnD P w K mg base 3 T.f_is_numbering.f T.f_is_numbering.fd ["thing"] 0 c_is_numbering := by
  refine fn_ok T.f_is_numbering.ok sc_is_numbering fun cdv A outer s H E hr => ⟨_, _, (dss_cons (ds_if [] (DW.dt (dw_or (dt_not (dt_val (de_call ((ok_is_row T).mono (by decide)) hr (by rfl) T.f_is_row.g T.f_is_row.ok.kp T.f_is_row.b (passE (takes_of rfl rfl rfl rfl)) rfl (da_cons (de_var (pv 0)) (da_cons de_int da_nil))))) (dw_or1 (dt_not (dt_val (de_callB (dcl_all rfl) (by rfl) T.n_all (by decide +kernel) (da_cons (DN.de (dn_lc (own := [("one", 6)]) rfl sc_is_numbering.nd (di_seq (de_var (pv 0))) (blkOk_by (N := ["thing", "size", "window", "kept", "passed", "under", "one"]) (sc := defScope s_is_numbering) (by decide +kernel)) (fun _ _ _ _ _ => (dg_name (pg_name (i := 6) sc_is_numbering.nd rfl (Or.inl rfl)))) (fun _ _ _ _ _ => dts_nil) (fun _ _ _ _ _ => (de_call ((ok_is_whole T).mono (by decide)) hr (by rfl) T.f_is_whole.g T.f_is_whole.ok.kp T.f_is_whole.b passL rfl (da_cons (de_var (pv 6)) da_nil))) (by decide))) da_nil))))))) (dss_one (ds_ret [] de_bl)) dss_nil)
      (dss_cons (ds_asg [] (de_var (pv 0)) (dg_tup (n := 5) rfl (dgs_cons (dg_name (pg_name (i := 1) sc_is_numbering.nd rfl (Or.inl rfl))) (dgs_cons (dg_name (pg_name (i := 2) sc_is_numbering.nd rfl (Or.inl rfl))) (dgs_cons (dg_name (pg_name (i := 3) sc_is_numbering.nd rfl (Or.inl rfl))) (dgs_cons (dg_name (pg_name (i := 4) sc_is_numbering.nd rfl (Or.inl rfl))) (dgs_cons (dg_name (pg_name (i := 5) sc_is_numbering.nd rfl (Or.inl rfl))) dgs_nil)))))) (fun _ _ a b => ps_asg a b))
      (dss_one (ds_ret [] (de_and (de_cmp dop_gt (de_var (pv 1)) de_int (nomark _)) (de_and (de_cmp dop_gt (de_var (pv 2)) de_int (nomark _)) (de_and (de_chain dop_lt dop_le de_int (de_var (pv 3)) (de_var (pv 2))) (de_and (de_cmp dop_ge (de_var (pv 4)) de_int (nomark _)) (de_one (de_cmp dop_gt (de_var (pv 5)) de_int (nomark _))))))))))), by decide +kernel, fun ds vs XQ Q hd hv h => ?_⟩
  obtain ⟨a, rfl, ha, q⟩ := h
  match vs, hv with
  | [v], _ =>
  try simp only [frz, params, List.zipWith, List.length_cons, List.length_nil, Nat.reduceAdd, Nat.reduceSub, List.replicate, List.append_nil, List.cons_append, List.nil_append, getV_va, Pt.sl, true_and, List.getElem?_cons_zero, List.getElem?_cons_succ, List.set_cons_zero, List.set_cons_succ, ite_self, Bool.false_eq_true, if_false, if_true]
  refine gCall_of fun _ => ⟨a, 5, rfl, ha, _, rfl, ?_⟩
  try simp only [frz, params, List.zipWith, List.length_cons, List.length_nil, Nat.reduceAdd, Nat.reduceSub, List.replicate, List.append_nil, List.cons_append, List.nil_append, getV_va, Pt.sl, true_and, List.getElem?_cons_zero, List.getElem?_cons_succ, List.set_cons_zero, List.set_cons_succ, ite_self, Bool.false_eq_true, if_false, if_true]
  cases e : a.seq with
  | none => simpa [isRow, isNumbering, e] using q
  | some xs =>
    obtain ⟨hx, hl⟩ := good_seq ha e
    by_cases h5 : xs.length = 5
    · match xs, h5 with
      | [s, w, k, p, u], _ =>
        have hr5 : isRow a 5 = true := by simp [isRow, e]
        rw [hr5, items_seq (by exact e), unp_seq (by exact e)]
        try simp only [frz, params, List.zipWith, List.length_cons, List.length_nil, Nat.reduceAdd, Nat.reduceSub, List.replicate, List.append_nil, List.cons_append, List.nil_append, getV_va, Pt.sl, true_and, List.getElem?_cons_zero, List.getElem?_cons_succ, List.set_cons_zero, List.set_cons_succ, ite_self, Bool.false_eq_true, if_false, if_true]
        refine ⟨by show _ ≤ 16777216; simp, all_go (fun x => isWhole x.d) (fun x hx2 K1 K0 k => ?_) ?_⟩
        · simp only [lcStep, wipeR, List.map_cons, List.map_nil, List.set_cons_succ, List.set_cons_zero, List.getElem?_cons_succ, List.getElem?_cons_zero, getV_va, if_true]
          refine gCall_of fun _ => ⟨x.d, rfl, ?_, k _⟩
          obtain ⟨y, hy, rfl⟩ := List.mem_map.mp hx2
          exact hx y hy
        · refine ⟨_, rfl, ?_⟩
          by_cases hw : (isWhole s && isWhole w && isWhole k && isWhole p && isWhole u) = true
          · simp only [Bool.and_eq_true] at hw
            obtain ⟨⟨⟨⟨h1, h2⟩, h3⟩, h4⟩, h6⟩ := hw
            obtain ⟨s, rfl⟩ := isWhole_int h1
            obtain ⟨w, rfl⟩ := isWhole_int h2
            obtain ⟨k, rfl⟩ := isWhole_int h3
            obtain ⟨p, rfl⟩ := isWhole_int h4
            obtain ⟨u, rfl⟩ := isWhole_int h6
            simp only [isWhole, List.map_cons, List.map_nil, List.all_cons, List.all_nil, Bool.and_self, Bool.not_true, Bool.false_eq_true, if_false, true_and, gI, gChain, D.bl.injEq, exists_eq_left', List.getElem?_cons_succ, List.getElem?_cons_zero, getV_va]
            simp only [isNumbering, e] at q
            repeat' split
            all_goals simp_all
          · have hn : isNumbering a = false := by
              unfold isNumbering
              rw [e]
              split
              · rename_i h; simp only [Option.some.injEq, List.cons.injEq, and_true] at h; obtain ⟨rfl, rfl, rfl, rfl, rfl⟩ := h; exact absurd rfl hw
              · rfl
            have ha : (List.map (fun d => (⟨d, Dv.fr ⟨a, a.imm, some v⟩, none⟩ : Dv)) [s, w, k, p, u]).all (fun x => isWhole x.d) = false := by
              simp only [List.map_cons, List.map_nil, List.all_cons, List.all_nil, Bool.and_true]
              simpa [Bool.and_assoc] using hw
            rw [ha]
            try simp only [frz, params, List.zipWith, List.length_cons, List.length_nil, Nat.reduceAdd, Nat.reduceSub, List.replicate, List.append_nil, List.cons_append, List.nil_append, getV_va, Pt.sl, true_and, List.getElem?_cons_zero, List.getElem?_cons_succ, List.set_cons_zero, List.set_cons_succ, ite_self, Bool.false_eq_true, if_false, if_true]
            rwa [hn] at q
    · have hr5 : isRow a 5 = false := by simp [isRow, e]; omega
      have hn : isNumbering a = false := by
        unfold isNumbering
        rw [e]
        split
        · rename_i h; simp at h; rw [h] at h5; simp at h5
        · rfl
      rw [hr5]
      try simp only [frz, params, List.zipWith, List.length_cons, List.length_nil, Nat.reduceAdd, Nat.reduceSub, List.replicate, List.append_nil, List.cons_append, List.nil_append, getV_va, Pt.sl, true_and, List.getElem?_cons_zero, List.getElem?_cons_succ, List.set_cons_zero, List.set_cons_succ, ite_self, Bool.false_eq_true, if_false, if_true]
      rwa [hn] at q

theorem sc_is_rising : FnScope ["things", "one", "other"] ["things"] (defScope s_is_rising) := ⟨rfl, rfl, rfl, by decide +kernel, rfl, by decide +kernel, by decide +kernel⟩
def c_is_rising : DC := fun ds _ _ Q => ∃ a xs, ds = [a] ∧ a.good = true ∧ a.seq = some (xs.map D.int) ∧ Q ⟨.bl (rising xs), true, none⟩
theorem ok_is_rising (T : Txt K mg) : FnD P w K mg base 1 T.f_is_rising.f T.f_is_rising.fd ["things"] 0 c_is_rising := by
  refine fn_ok T.f_is_rising.ok sc_is_rising fun cdv A outer s H E hr => ⟨_, _, (dss_one (ds_ret [] (de_callB (dcl_all rfl) (by rfl) T.n_all (by decide +kernel) (da_cons (DN.de (dn_lc (own := [("one", 1), ("other", 2)]) rfl sc_is_rising.nd (di_zip (by rfl) T.n_zip (da_cons (de_var (pv 0)) (da_cons (de_slice (de_var (pv 0)) (do_some de_int) do_none) da_nil))) (blkOk_by (N := ["things", "one", "other"]) (sc := defScope s_is_rising) (by decide +kernel)) (fun _ _ _ _ _ => (dg_tup (n := 2) rfl (dgs_cons (dg_name (pg_name (i := 1) sc_is_rising.nd rfl (Or.inl rfl))) (dgs_cons (dg_name (pg_name (i := 2) sc_is_rising.nd rfl (Or.inl rfl))) dgs_nil)))) (fun _ _ _ _ _ => dts_nil) (fun _ _ _ _ _ => (de_cmp dop_lt (de_var (pv 1)) (de_var (pv 2)) (nomark _))) (by decide))) da_nil)))), by decide +kernel, fun ds vs XQ Q hd hv h => ?_⟩
  obtain ⟨a, xs, rfl, ha, e, q⟩ := h
  match vs, hv with
  | [v], _ =>
  try simp only [frz, params, List.zipWith, List.length_cons, List.length_nil, Nat.reduceAdd, Nat.reduceSub, List.replicate, List.append_nil, List.cons_append, List.nil_append, getV_va, Pt.sl, true_and, List.getElem?_cons_zero, List.getElem?_cons_succ, List.set_cons_zero, List.set_cons_succ, ite_self, Bool.false_eq_true, if_false, if_true]
  refine ⟨1, rfl, ?_⟩
  rw [gSl_seq (by exact e), gZip_seq (by exact e) (by rfl), cut1]
  obtain ⟨hx, hl⟩ := good_seq ha e
  rw [List.length_map] at hl
  refine ⟨by rw [zipD_len]; show _ ≤ 16777216; simp; omega, ?_⟩
  refine all_go (fun x => risePair x.d) (fun x hx2 K1 K0 k => ?_) (by rw [rise_all]; exact q)
  try simp only [lcStep, true_and, wipeR, List.map_cons, List.map_nil, List.set_cons_succ, List.set_cons_zero, List.getElem?_cons_succ, List.getElem?_cons_zero, getV_va, if_true]
  obtain ⟨i, hi⟩ := List.getElem?_of_mem hx2
  obtain ⟨y, z, h1, h2, rfl⟩ := zipD_get hi
  rw [List.getElem?_map] at h1
  rw [List.getElem?_drop, List.getElem?_map] at h2
  obtain ⟨m, _, rfl⟩ := Option.map_eq_some_iff.mp h1
  obtain ⟨o, _, rfl⟩ := Option.map_eq_some_iff.mp h2
  rw [unp_seq (by rfl)]
  exact ⟨rfl, rfl, trivial, k _⟩

end
end My

set_option Elab.async false
set_option linter.all false
set_option maxRecDepth 100000
set_option maxHeartbeats 4000000
namespace My
open PySem PySem.Spec PyProof.Rows L2 DL
/-- a whole number from lo on, below hi -/
def numIn (lo hi : Int) : D → Bool
  | .int i => decide (lo ≤ i ∧ i < hi)
  | _ => false
def isRide (w p : Int) (d : D) : Bool := match d.seq with
  | some [.int a, .int b] => decide (a < w ∧ 0 ≤ b ∧ b ≤ p)
  | _ => false
def intsOf (xs : List D) : List Int := xs.filterMap fun d => match d with | .int i => some i | _ => none
def isState (w k p u : Int) (d : D) : Bool := match d.seq with
  | some [.int ah, h, r, t] => (match h.seq, r.seq, t.seq with
    | some hs, some rs, some ts => decide (0 ≤ ah ∧ ah ≤ w) && hs.all (numIn 1 k) && rising (intsOf hs) && decide ((rs.length : Int) ≤ u) && rs.all (isRide w p) && decide (ts.length ≤ 1) && ts.all (numIn 0 (ah + 1))
    | _, _, _ => false)
  | _ => false
theorem isNumbering_seq {d : D} (h : isNumbering d = true) : ∃ s w k p u, d.seq = some [.int s, .int w, .int k, .int p, .int u] := by
  unfold isNumbering at h
  split at h
  · exact ⟨_, _, _, _, _, by assumption⟩
  · cases h
theorem isNumber_int {d : D} (h : isNumber d = true) : ∃ i, d = .int i ∧ 0 ≤ i := by
  cases d <;> first | (exact ⟨_, rfl, of_decide_eq_true h⟩) | (simp [isNumber] at h)
theorem numIn_ints {lo hi : Int} : ∀ {xs : List D}, xs.all (numIn lo hi) = true → xs = (intsOf xs).map D.int
  | [], _ => rfl
  | d :: xs, h => by
    simp only [List.all_cons, Bool.and_eq_true] at h
    cases d <;> first | (simp [numIn] at h; done) | skip
    simp only [intsOf, List.filterMap_cons, List.map_cons]
    congr 1
    exact numIn_ints h.2
section
variable {P : Program} {w : World} {K : PySem.W.Frag} {mg : Str → Option Value} {base : Heap}
theorem init_BadNumbering (T : Txt K mg) : FnOk P w K mg base (L2.CX P w) 1 T.e_BadNumbering.fI T.e_BadNumbering.fd ["self", "numbering"] (spI K "numbering") := init_ok T.e_BadNumbering.fi ⟨rfl, rfl, rfl, by decide +kernel, rfl, by decide +kernel, by decide +kernel⟩ fun cdv A outer s H E => pss_one (ps_ost (pv 0) (pv 1))
theorem sc_is_ride : FnScope ["numbering", "thing"] ["numbering", "thing"] (defScope s_is_ride) := ⟨rfl, rfl, rfl, by decide +kernel, rfl, by decide +kernel, by decide +kernel⟩
def c_is_ride : DC := fun ds _ _ Q => ∃ m a s w k p u, ds = [m, a] ∧ m.seq = some [.int s, .int w, .int k, .int p, .int u] ∧ a.good = true ∧ Q ⟨.bl (isRide w p a), true, none⟩
theorem ok_is_ride (T : Txt K mg) : FnD P w K mg base 3 T.f_is_ride.f T.f_is_ride.fd ["numbering", "thing"] 0 c_is_ride := by
  refine fn_ok T.f_is_ride.ok sc_is_ride fun cdv A outer s H E hr => ⟨_, _, (dss_cons (ds_if [] (DW.dt (dw_or (dt_not (dt_val (de_call ((ok_is_row T).mono (by decide)) hr (by rfl) T.f_is_row.g T.f_is_row.ok.kp T.f_is_row.b (passE (takes_of rfl rfl rfl rfl)) rfl (da_cons (de_var (pv 1)) (da_cons de_int da_nil))))) (dw_or (dt_not (dt_val (de_call ((ok_is_whole T).mono (by decide)) hr (by rfl) T.f_is_whole.g T.f_is_whole.ok.kp T.f_is_whole.b (passE (takes_of rfl rfl rfl rfl)) rfl (da_cons (de_ix (de_var (pv 1)) de_int (fun _ _ => rfl)) da_nil)))) (dw_or1 (dt_not (dt_val (de_call ((ok_is_number T).mono (by decide)) hr (by rfl) T.f_is_number.g T.f_is_number.ok.kp T.f_is_number.b (passE (takes_of rfl rfl rfl rfl)) rfl (da_cons (de_ix (de_var (pv 1)) de_int (fun _ _ => rfl)) da_nil)))))))) (dss_one (ds_ret [] de_bl)) dss_nil)
      (dss_one (ds_ret [] (de_and (de_cmp dop_lt (de_ix (de_var (pv 1)) de_int (fun _ _ => rfl)) (de_ix (de_var (pv 0)) de_int (fun _ _ => rfl)) (nomark _)) (de_one (de_cmp dop_le (de_ix (de_var (pv 1)) de_int (fun _ _ => rfl)) (de_ix (de_var (pv 0)) de_int (fun _ _ => rfl)) (nomark _))))))), by decide +kernel, fun ds vs XQ Q hd hv h => ?_⟩
  obtain ⟨m, a, s, w, k, p, u, rfl, em, ha, q⟩ := h
  match vs, hv with
  | [v, v2], _ =>
  try simp only [frz, params, List.zipWith, List.length_cons, List.length_nil, Nat.reduceAdd, Nat.reduceSub, List.replicate, List.append_nil, List.cons_append, List.nil_append, getV_va, Pt.sl, true_and, List.getElem?_cons_zero, List.getElem?_cons_succ, List.set_cons_zero, List.set_cons_succ, ite_self, Bool.false_eq_true, if_false, if_true]
  refine gCall_of fun _ => ⟨a, 2, rfl, ha, ?_⟩
  try simp only [frz, params, List.zipWith, List.length_cons, List.length_nil, Nat.reduceAdd, Nat.reduceSub, List.replicate, List.append_nil, List.cons_append, List.nil_append, getV_va, Pt.sl, true_and, List.getElem?_cons_zero, List.getElem?_cons_succ, List.set_cons_zero, List.set_cons_succ, ite_self, Bool.false_eq_true, if_false, if_true]
  cases e : a.seq with
  | none => simpa [isRow, isRide, e] using q
  | some xs =>
    obtain ⟨hx, hl⟩ := good_seq ha e
    by_cases h2 : xs.length = 2
    · match xs, h2 with
      | [x, y], _ =>
        have hr2 : isRow a 2 = true := by simp [isRow, e]
        refine ⟨_, rfl, ?_⟩
        rw [hr2]
        have x0 : atI [x, y] 0 = some x := rfl
        have x1 : atI [x, y] 1 = some y := rfl
        have m1 : atI [D.int s, .int w, .int k, .int p, .int u] 1 = some (.int w) := rfl
        have m3 : atI [D.int s, .int w, .int k, .int p, .int u] 3 = some (.int p) := rfl
        simp only [gIx_of e x0, gIx_of e x1, gIx_of em m1, gIx_of em m3, Bool.not_true, Bool.false_eq_true, if_false, true_and]
        refine gCall1 fun _ => ⟨x, rfl, hx x (by simp), _, rfl, ?_⟩
        cases hw : isWhole x with
        | false =>
          have : isRide w p a = false := by
            unfold isRide
            rw [e]
            cases x <;> first | rfl | (simp [isWhole] at hw)
          rw [this] at q
          simpa using q
        | true =>
          obtain ⟨i, rfl⟩ := isWhole_int hw
          rw [if_neg (by decide)]
          refine gCall1 fun _ => ⟨y, rfl, hx y (by simp), _, rfl, ?_⟩
          cases hn : isNumber y with
          | false =>
            have : isRide w p a = false := by
              unfold isRide
              rw [e]
              cases y <;> first | rfl | (simp [isNumber] at hn; simp; omega)
            rw [this] at q
            simpa using q
          | true =>
            obtain ⟨j, rfl, hj⟩ := isNumber_int hn
            have : isRide w p a = (decide (i < w) && decide (j ≤ p)) := by
              unfold isRide
              rw [e]
              simp [hj]
            rw [this] at q
            simp only [gI, D.int.injEq, exists_eq_left', exists_and_left, true_and, Bool.not_true, Bool.false_eq_true, if_false, D.bl.injEq]
            cases hi : decide (i < w) <;> rw [hi] at q <;> simpa using q
    · have hr2 : isRow a 2 = false := by simp [isRow, e]; omega
      have hn : isRide w p a = false := by
        unfold isRide
        rw [e]
        split
        · rename_i h; simp at h; rw [h] at h2; simp at h2
        · rfl
      rw [hn] at q
      simpa [hr2] using q

theorem sc_check_numbering : FnScope ["numbering"] ["numbering"] (defScope s_check_numbering) := ⟨rfl, rfl, rfl, by decide +kernel, rfl, by decide +kernel, by decide +kernel⟩
def c_check_numbering (T : Txt K mg) : DC := fun ds vs XQ Q => ∃ a v, ds = [a] ∧ vs = [v] ∧ a.good = true ∧ (isNumbering a = true → Q ⟨.non, true, none⟩) ∧ (isNumbering a = false → XQ (.ref T.e_BadNumbering.C) "numbering" v)
theorem ok_check_numbering (T : Txt K mg) : FnD P w K mg base 4 T.f_check_numbering.f T.f_check_numbering.fd ["numbering"] 0 (c_check_numbering T) := by
  refine fn_ok T.f_check_numbering.ok sc_check_numbering fun cdv A outer s H E hr => ⟨_, _, (dss_one (ds_if [] (dt_not (dt_val (de_call ((ok_is_numbering T).mono (by decide)) hr (by rfl) T.f_is_numbering.g T.f_is_numbering.ok.kp T.f_is_numbering.b (passE (takes_of rfl rfl rfl rfl)) rfl (da_cons (de_var (pv 0)) da_nil)))) (dss_one (ds_raise [] T.e_BadNumbering (init_BadNumbering T) (hr.mono (by decide)) rfl (takes_of rfl rfl rfl rfl) passL (by rfl) (da_cons (de_var (pv 0)) da_nil))) dss_nil)), by decide +kernel, fun ds vs XQ Q hd hv h => ?_⟩
  obtain ⟨a, v, rfl, rfl, ha, q1, q2⟩ := h
  try simp only [frz, params, List.zipWith, List.length_cons, List.length_nil, Nat.reduceAdd, Nat.reduceSub, List.replicate, List.append_nil, List.cons_append, List.nil_append, getV_va, Pt.sl, true_and, List.getElem?_cons_zero, List.getElem?_cons_succ, List.set_cons_zero, List.set_cons_succ, ite_self, Bool.false_eq_true, if_false, if_true]
  refine gCall1 fun _ => ⟨a, rfl, ha, ?_⟩
  cases hn : isNumbering a with
  | true => exact ⟨_, rfl, q1 hn⟩
  | false =>
    refine ⟨_, rfl, _, rfl, fun v' hc => ?_⟩
    rw [← hc.1 v rfl]
    exact q2 hn

theorem sc_as_state : FnScope ["numbering", "thing", "ahead", "has", "rides", "told", "one", "part"] ["numbering", "thing"] (defScope s_as_state) := ⟨rfl, rfl, rfl, by decide +kernel, rfl, by decide +kernel, by decide +kernel⟩
def c_as_state : DC := fun ds _ _ Q => ∃ m a s w k p u, ds = [m, a] ∧ m.seq = some [.int s, .int w, .int k, .int p, .int u] ∧ m.good = true ∧ a.good = true ∧ ∀ r n, (isState w k p u a = false → r = .non) → (isState w k p u a = true → ∃ xs, r = .tup xs) → Q ⟨r, n, none⟩
theorem ok_as_state (T : Txt K mg) : FnD P w K mg base 4 T.f_as_state.f T.f_as_state.fd ["numbering", "thing"] 0 c_as_state := by
  refine fn_ok T.f_as_state.ok sc_as_state fun cdv A outer s H E hr => ⟨_, _, (dss_cons (ds_if [] (DW.dt (dw_or (dt_not (dt_val (de_call ((ok_is_row T).mono (by decide)) hr (by rfl) T.f_is_row.g T.f_is_row.ok.kp T.f_is_row.b (passE (takes_of rfl rfl rfl rfl)) rfl (da_cons (de_var (pv 1)) (da_cons de_int da_nil))))) (dw_or (dt_not (dt_val (de_call ((ok_is_number T).mono (by decide)) hr (by rfl) T.f_is_number.g T.f_is_number.ok.kp T.f_is_number.b (passE (takes_of rfl rfl rfl rfl)) rfl (da_cons (de_ix (de_var (pv 1)) de_int (fun _ _ => rfl)) da_nil)))) (dw_or1 (dt_not (dt_val (de_callB (dcl_all rfl) (by rfl) T.n_all (by decide +kernel) (da_cons (DN.de (dn_lc (own := [("part", 7)]) rfl sc_as_state.nd (di_seq (de_slice (de_var (pv 1)) (do_some de_int) do_none)) (blkOk_by (N := ["numbering", "thing", "ahead", "has", "rides", "told", "one", "part"]) (sc := defScope s_as_state) (by decide +kernel)) (fun _ _ _ _ _ => (dg_name (pg_name (i := 7) sc_as_state.nd rfl (Or.inl rfl)))) (fun _ _ _ _ _ => dts_nil) (fun _ _ _ _ _ => (de_call ((ok_is_list T).mono (by decide)) hr (by rfl) T.f_is_list.g T.f_is_list.ok.kp T.f_is_list.b passL rfl (da_cons (de_var (pv 7)) da_nil))) (by decide))) da_nil)))))))) (dss_one (ds_ret [] de_non)) dss_nil)
      (dss_cons (ds_asg [] (de_var (pv 1)) (dg_tup (n := 4) rfl (dgs_cons (dg_name (pg_name (i := 2) sc_as_state.nd rfl (Or.inr rfl))) (dgs_cons (dg_name (pg_name (i := 3) sc_as_state.nd rfl (Or.inl rfl))) (dgs_cons (dg_name (pg_name (i := 4) sc_as_state.nd rfl (Or.inl rfl))) (dgs_cons (dg_name (pg_name (i := 5) sc_as_state.nd rfl (Or.inl rfl))) dgs_nil))))) (fun _ _ a b => ps_asg a b))
      (dss_cons (ds_if [] (DW.dt (dw_or (dt_cmp dop_gt (de_var (pv 2)) (de_ix (de_var (pv 0)) de_int (fun _ _ => rfl)) (nomark _)) (dw_or1 (dt_not (dt_val (de_callB (dcl_all rfl) (by rfl) T.n_all (by decide +kernel) (da_cons (DN.de (dn_lc (own := [("one", 6)]) rfl sc_as_state.nd (di_seq (de_var (pv 3))) (blkOk_by (N := ["numbering", "thing", "ahead", "has", "rides", "told", "one", "part"]) (sc := defScope s_as_state) (by decide +kernel)) (fun _ _ _ _ _ => (dg_name (pg_name (i := 6) sc_as_state.nd rfl (Or.inl rfl)))) (fun _ _ _ _ _ => dts_nil) (fun _ _ _ _ _ => (de_and (de_call ((ok_is_number T).mono (by decide)) hr (by rfl) T.f_is_number.g T.f_is_number.ok.kp T.f_is_number.b passL rfl (da_cons (de_var (pv 6)) da_nil)) (de_one (de_chain dop_lt dop_lt de_int (de_var (pv 6)) (de_ix (de_var (pv 0)) de_int (fun _ _ => rfl)))))) (by decide))) da_nil))))))) (dss_one (ds_ret [] de_non)) dss_nil)
      (dss_cons (ds_if [] (dt_not (dt_val (de_call ((ok_is_rising T).mono (by decide)) hr (by rfl) T.f_is_rising.g T.f_is_rising.ok.kp T.f_is_rising.b (passE (takes_of rfl rfl rfl rfl)) rfl (da_cons (de_var (pv 3)) da_nil)))) (dss_one (ds_ret [] de_non)) dss_nil)
      (dss_cons (ds_if [] (DW.dt (dw_or (dt_cmp dop_gt (de_callB dcl_len (by rfl) T.n_len (by decide +kernel) (da_cons (de_var (pv 4)) da_nil)) (de_ix (de_var (pv 0)) de_int (fun _ _ => rfl)) (nomark _)) (dw_or1 (dt_not (dt_val (de_callB (dcl_all rfl) (by rfl) T.n_all (by decide +kernel) (da_cons (DN.de (dn_lc (own := [("one", 6)]) rfl sc_as_state.nd (di_seq (de_var (pv 4))) (blkOk_by (N := ["numbering", "thing", "ahead", "has", "rides", "told", "one", "part"]) (sc := defScope s_as_state) (by decide +kernel)) (fun _ _ _ _ _ => (dg_name (pg_name (i := 6) sc_as_state.nd rfl (Or.inl rfl)))) (fun _ _ _ _ _ => dts_nil) (fun _ _ _ _ _ => (de_call ((ok_is_ride T).mono (by decide)) hr (by rfl) T.f_is_ride.g T.f_is_ride.ok.kp T.f_is_ride.b passL rfl (da_cons (de_var (pv 0)) (da_cons (de_var (pv 6)) da_nil)))) (by decide))) da_nil))))))) (dss_one (ds_ret [] de_non)) dss_nil)
      (dss_cons (ds_if [] (DW.dt (dw_or (dt_cmp dop_gt (de_callB dcl_len (by rfl) T.n_len (by decide +kernel) (da_cons (de_var (pv 5)) da_nil)) de_int (nomark _)) (dw_or1 (dt_not (dt_val (de_callB (dcl_all rfl) (by rfl) T.n_all (by decide +kernel) (da_cons (DN.de (dn_lc (own := [("one", 6)]) rfl sc_as_state.nd (di_seq (de_var (pv 5))) (blkOk_by (N := ["numbering", "thing", "ahead", "has", "rides", "told", "one", "part"]) (sc := defScope s_as_state) (by decide +kernel)) (fun _ _ _ _ _ => (dg_name (pg_name (i := 6) sc_as_state.nd rfl (Or.inl rfl)))) (fun _ _ _ _ _ => dts_nil) (fun _ _ _ _ _ => (de_and (de_call ((ok_is_number T).mono (by decide)) hr (by rfl) T.f_is_number.g T.f_is_number.ok.kp T.f_is_number.b passL rfl (da_cons (de_var (pv 6)) da_nil)) (de_one (de_cmp dop_le (de_var (pv 6)) (de_var (pv 2)) (nomark _))))) (by decide))) da_nil))))))) (dss_one (ds_ret [] de_non)) dss_nil)
      (dss_one (ds_ret [] (de_tup (da_cons (de_var (pv 2)) (da_cons (de_callTy dcl_tuple (by rfl) T.n_tuple (by decide +kernel) (da_cons (de_var (pv 3)) da_nil)) (da_cons (de_callTy dcl_tuple (by rfl) T.n_tuple (by decide +kernel) (da_cons (DN.de (dn_lc (own := [("one", 6)]) rfl sc_as_state.nd (di_seq (de_var (pv 4))) (blkOk_by (N := ["numbering", "thing", "ahead", "has", "rides", "told", "one", "part"]) (sc := defScope s_as_state) (by decide +kernel)) (fun _ _ _ _ _ => (dg_name (pg_name (i := 6) sc_as_state.nd rfl (Or.inl rfl)))) (fun _ _ _ _ _ => dts_nil) (fun _ _ _ _ _ => (de_callTy dcl_tuple (by rfl) T.n_tuple (by decide +kernel) (da_cons (de_var (pv 6)) da_nil))) (by decide))) da_nil)) (da_cons (de_callTy dcl_tuple (by rfl) T.n_tuple (by decide +kernel) (da_cons (de_var (pv 5)) da_nil)) da_nil))))))))))))), by decide +kernel, fun ds vs XQ Q hd hv h => ?_⟩
  obtain ⟨m, a, s, w, k, p, u, rfl, em, hm, ha, q⟩ := h
  match vs, hv with
  | [v, v2], _ =>
  try simp only [frz, params, List.zipWith, List.length_cons, List.length_nil, Nat.reduceAdd, Nat.reduceSub, List.replicate, List.append_nil, List.cons_append, List.nil_append, getV_va, Pt.sl, true_and, List.getElem?_cons_zero, List.getElem?_cons_succ, List.set_cons_zero, List.set_cons_succ, ite_self, Bool.false_eq_true, if_false, if_true]
  have no : isState w k p u a = false → ∀ n, Q ⟨.non, n, none⟩ := fun e n => q _ _ (fun _ => rfl) (fun z => by rw [e] at z; cases z)
  refine gCall_of fun _ => ⟨a, 4, rfl, ha, _, rfl, ?_⟩
  cases e : a.seq with
  | none =>
    have := no (by simp [isState, e])
    simpa [isRow, e] using this true
  | some xs =>
    obtain ⟨hx, hl⟩ := good_seq ha e
    by_cases h4 : xs.length = 4
    · match xs, h4 with
      | [x0, h, r, t], _ =>
        have hr4 : isRow a 4 = true := by simp [isRow, e]
        rw [hr4, if_neg (by decide), gIx_of e (show atI [x0, h, r, t] 0 = some x0 from rfl)]
        refine gCall1 fun _ => ⟨x0, rfl, hx x0 (by simp), _, rfl, ?_⟩
        cases hn : isNumber x0 with
        | false =>
          rw [if_pos (by decide)]
          refine no ?_ _
          unfold isState
          rw [e]
          cases x0 <;> first | rfl | skip
          simp [isNumber] at hn
          dsimp only
          split <;> first | rfl | skip
          simp only [Bool.and_eq_false_iff, decide_eq_false_iff_not]
          omega
        | true =>
          obtain ⟨ah, rfl, hah⟩ := isNumber_int hn
          rw [if_neg (by decide)]
          refine ⟨1, rfl, ?_⟩
          rw [gSl_seq (by exact e), items_seq like_seq, cut1]
          refine ⟨by show _ ≤ 16777216; simp, all_go (fun x => isList x.d) (fun x hx2 K1 K0 kk => ?_) ?_⟩
          · try simp only [lcStep, true_and, wipeR, List.map_cons, List.map_nil, List.set_cons_succ, List.set_cons_zero, List.getElem?_cons_succ, List.getElem?_cons_zero, getV_va, if_true]
            obtain ⟨y, hy, rfl⟩ := List.mem_map.mp hx2
            exact gCall1 fun _ => ⟨y, rfl, hx y (List.mem_of_mem_drop hy), kk _⟩
          · refine ⟨_, rfl, ?_⟩
            simp only [List.drop_succ_cons, List.drop_zero, List.map_cons, List.map_nil, List.all_cons, List.all_nil, Bool.and_true]
            cases hL : (isList h && (isList r && isList t)) with
            | false =>
              rw [if_pos (by decide)]
              refine no ?_ _
              unfold isState
              rw [e]
              simp only [isList] at hL
              dsimp only
              split <;> first | rfl | skip
              rename_i h1 h2 h3
              simp [h1, h2, h3] at hL
            | true =>
              rw [if_neg (by decide)]
              simp only [Bool.and_eq_true, isList, Option.isSome_iff_exists] at hL
              obtain ⟨⟨hs, eh⟩, ⟨rs, er⟩, ⟨ts, et⟩⟩ := hL
              have es : isState w k p u a = (decide (0 ≤ ah ∧ ah ≤ w) && hs.all (numIn 1 k) && rising (intsOf hs) && decide ((rs.length : Int) ≤ u) && rs.all (isRide w p) && decide (ts.length ≤ 1) && ts.all (numIn 0 (ah + 1))) := by
                unfold isState
                rw [e]
                dsimp only
                rw [eh, er, et]
              rw [es] at no q
              rw [unp_seq (by exact e)]
              refine ⟨rfl, rfl, ?_⟩
              try simp only [frz, params, List.zipWith, List.length_cons, List.length_nil, Nat.reduceAdd, Nat.reduceSub, List.replicate, List.append_nil, List.cons_append, List.nil_append, getV_va, Pt.sl, true_and, List.getElem?_cons_zero, List.getElem?_cons_succ, List.set_cons_zero, List.set_cons_succ, ite_self, Bool.false_eq_true, if_false, if_true]
              have m1 : atI [D.int s, .int w, .int k, .int p, .int u] 1 = some (.int w) := rfl
              have m2 : atI [D.int s, .int w, .int k, .int p, .int u] 2 = some (.int k) := rfl
              have m4 : atI [D.int s, .int w, .int k, .int p, .int u] 4 = some (.int u) := rfl
              obtain ⟨hhx, hhl⟩ := good_seq (hx h (by simp)) eh
              obtain ⟨hrx, hrl⟩ := good_seq (hx r (by simp)) er
              obtain ⟨htx, htl⟩ := good_seq (hx t (by simp)) et
              simp only [gIx_of em m1, gIx_of em m4, gI_of, bl_of, true_and]
              generalize Dv.fr ⟨a, a.imm, some v2⟩ = fa at *
              by_cases c1 : w < ah
              · rw [if_pos (by simpa using c1)]
                exact no (by simp; omega) _
              · rw [if_neg (by simpa using c1), items_seq (by exact eh)]
                refine ⟨by rw [List.length_map]; show _ ≤ 16777216; omega, all_go (fun x => numIn 1 k x.d) (fun x hx2 K1 K0 kk => ?_) ?_⟩
                · try simp only [lcStep, true_and, wipeR, List.map_cons, List.map_nil, List.set_cons_succ, List.set_cons_zero, List.getElem?_cons_succ, List.getElem?_cons_zero, getV_va, if_true]
                  obtain ⟨y, hy, rfl⟩ := List.mem_map.mp hx2
                  refine gCall1 fun _ => ⟨y, rfl, hhx y hy, _, rfl, ?_⟩
                  cases ny : isNumber y with
                  | false =>
                    rw [if_neg (by decide)]
                    have : numIn 1 k y = false := by
                      cases y <;> first | rfl | skip
                      simp [isNumber] at ny
                      simp [numIn]
                      omega
                    rw [← this]; exact kk _
                  | true =>
                    obtain ⟨i, rfl, hi⟩ := isNumber_int ny
                    rw [if_pos rfl]
                    have : numIn 1 k (.int i) = (decide (0 < i) && decide (i < k)) := by
                      unfold numIn
                      rw [← Bool.decide_and]
                      exact decide_eq_decide.mpr (by omega)
                    rw [this] at kk
                    simp only [gChain, gI_of, bl_of, true_and, getV_va, List.getElem?_cons_zero, gIx_of em m2]
                    cases c : decide (0 < i) <;> rw [c] at kk <;> simpa using kk none
                · refine ⟨_, rfl, ?_⟩
                  rw [List.all_map]
                  cases hh : hs.all (numIn 1 k) with
                  | false =>
                    rw [if_pos (by simpa [Function.comp_def] using hh)]
                    exact no (by simp [hh]) _
                  | true =>
                    rw [if_neg (by simpa [Function.comp_def] using hh)]
                    have hi := numIn_ints hh
                    refine gCall1 fun _ => ⟨h, intsOf hs, rfl, hx h (by simp), by rw [eh, ← hi], _, rfl, ?_⟩
                    cases hr : rising (intsOf hs) with
                    | false =>
                      rw [if_pos (by decide)]
                      exact no (by simp [hr]) _
                    | true =>
                      rw [if_neg (by decide), g1_of, gLen_of er]
                      simp only [gI_of, bl_of, true_and]
                      by_cases c2 : u < (rs.length : Int)
                      · rw [if_pos (by simpa using c2)]
                        exact no (by simp [show ¬ ((rs.length : Int) ≤ u) from by omega]) _
                      · rw [if_neg (by simpa using c2), items_seq (by exact er)]
                        refine ⟨by rw [List.length_map]; show _ ≤ 16777216; omega, all_go (fun x => isRide w p x.d) (fun x hx2 K1 K0 kk => ?_) ?_⟩
                        · try simp only [lcStep, true_and, wipeR, List.map_cons, List.map_nil, List.set_cons_succ, List.set_cons_zero, List.getElem?_cons_succ, List.getElem?_cons_zero, getV_va, if_true]
                          obtain ⟨y, hy, rfl⟩ := List.mem_map.mp hx2
                          exact gCall_of fun _ => ⟨m, y, s, w, k, p, u, rfl, em, hrx y hy, kk _⟩
                        · refine ⟨_, rfl, ?_⟩
                          rw [List.all_map]
                          cases hrr : rs.all (isRide w p) with
                          | false =>
                            rw [if_pos (by simpa [Function.comp_def] using hrr)]
                            exact no (by simp [hrr]) _
                          | true =>
                            rw [if_neg (by simpa [Function.comp_def] using hrr), g1_of, gLen_of et]
                            simp only [gI_of, bl_of, true_and]
                            by_cases c3 : (1 : Int) < (ts.length : Int)
                            · rw [if_pos (by simpa using c3)]
                              exact no (by simp [show ¬ (ts.length ≤ 1) from by omega]) _
                            · rw [if_neg (by simpa using c3), items_seq (by exact et)]
                              refine ⟨by rw [List.length_map]; show _ ≤ 16777216; omega, all_go (fun x => numIn 0 (ah + 1) x.d) (fun x hx2 K1 K0 kk => ?_) ?_⟩
                              · try simp only [lcStep, true_and, wipeR, List.map_cons, List.map_nil, List.set_cons_succ, List.set_cons_zero, List.getElem?_cons_succ, List.getElem?_cons_zero, getV_va, if_true]
                                obtain ⟨y, hy, rfl⟩ := List.mem_map.mp hx2
                                refine gCall1 fun _ => ⟨y, rfl, htx y hy, _, rfl, ?_⟩
                                cases ny : isNumber y with
                                | false =>
                                  rw [if_neg (by decide)]
                                  have : numIn 0 (ah + 1) y = false := by
                                    cases y <;> first | rfl | skip
                                    simp [isNumber] at ny
                                    simp [numIn]
                                    omega
                                  rw [← this]; exact kk _
                                | true =>
                                  obtain ⟨i, rfl, hi⟩ := isNumber_int ny
                                  rw [if_pos rfl]
                                  have : numIn 0 (ah + 1) (.int i) = decide (i ≤ ah) := by
                                    unfold numIn
                                    exact decide_eq_decide.mpr (by omega)
                                  rw [this] at kk
                                  simp only [gI_of, true_and]
                                  exact kk _
                              · refine ⟨_, rfl, ?_⟩
                                rw [List.all_map]
                                cases htt : ts.all (numIn 0 (ah + 1)) with
                                | false =>
                                  rw [if_pos (by simpa [Function.comp_def] using htt)]
                                  exact no (by simp [htt]) _
                                | true =>
                                  rw [if_neg (by simpa [Function.comp_def] using htt)]
                                  have fin : ∀ xs n, Q ⟨.tup xs, n, none⟩ := fun xs n => q _ _ (fun z => by
                                    simp [hh, hr, hrr, htt] at z
                                    omega) fun _ => ⟨_, rfl⟩
                                  refine g1_tup eh ?_
                                  rw [items_seq (by exact er)]
                                  refine ⟨by rw [List.length_map]; show _ ≤ 16777216; omega, lc_map (fun x => .tup (x.d.seq.getD [])) (fun x hx2 K1 K0 kk => ?_) fun n2 => ?_⟩
                                  · try simp only [lcStep, true_and, wipeR, List.map_cons, List.map_nil, List.set_cons_succ, List.set_cons_zero, List.getElem?_cons_succ, List.getElem?_cons_zero, getV_va, if_true]
                                    obtain ⟨y, hy, rfl⟩ := List.mem_map.mp hx2
                                    have hy2 := List.all_eq_true.mp hrr y hy
                                    obtain ⟨l, hl⟩ : ∃ l, y.seq = some l := by
                                      unfold isRide at hy2
                                      split at hy2
                                      · exact ⟨_, by assumption⟩
                                      · cases hy2
                                    refine g1_tup hl ?_
                                    have := kk (Dv.fr ⟨y, Dv.fr ⟨r, fa, none⟩, none⟩) none
                                    simp only [hl, Option.getD_some] at this
                                    exact this
                                  · refine g1_tup (l := rs.map fun d => .tup (d.seq.getD [])) (by simp [D.seq]) ?_
                                    refine g1_tup et ?_
                                    exact ⟨by decide, fin _ _⟩
    · have hr4 : isRow a 4 = false := by simp [isRow, e]; omega
      have hn : isState w k p u a = false := by
        unfold isState
        rw [e]
        split
        · rename_i h; simp at h; rw [h] at h4; simp at h4
        · rfl
      simpa [hr4] using no hn true

theorem sc_is_state : FnScope ["numbering", "thing"] ["numbering", "thing"] (defScope s_is_state) := ⟨rfl, rfl, rfl, by decide +kernel, rfl, by decide +kernel, by decide +kernel⟩
def c_is_state (T : Txt K mg) : DC := fun ds vs XQ Q => ∃ m a v v2, ds = [m, a] ∧ vs = [v, v2] ∧ m.good = true ∧ a.good = true ∧ (isNumbering m = false → XQ (.ref T.e_BadNumbering.C) "numbering" v) ∧ ∀ s w k p u, m.seq = some [.int s, .int w, .int k, .int p, .int u] → isNumbering m = true → Q ⟨.bl (isState w k p u a), true, none⟩
theorem ok_is_state (T : Txt K mg) : FnD P w K mg base 5 T.f_is_state.f T.f_is_state.fd ["numbering", "thing"] 0 (c_is_state T) := by
  refine fn_ok T.f_is_state.ok sc_is_state fun cdv A outer s H E hr => ⟨_, _, (dss_cons (ds_expr [] (de_call ((ok_check_numbering T).mono (by decide)) hr (by rfl) T.f_check_numbering.g T.f_check_numbering.ok.kp T.f_check_numbering.b (passE (takes_of rfl rfl rfl rfl)) rfl (da_cons (de_var (pv 0)) da_nil)))
      (dss_one (ds_ret [] (de_cmp dop_notN (de_call ((ok_as_state T).mono (by decide)) hr (by rfl) T.f_as_state.g T.f_as_state.ok.kp T.f_as_state.b (passE (takes_of rfl rfl rfl rfl)) rfl (da_cons (de_var (pv 0)) (da_cons (de_var (pv 1)) da_nil))) de_non (nomark _))))), by decide +kernel, fun ds vs XQ Q hd hv h => ?_⟩
  obtain ⟨m, a, v, v2, rfl, rfl, hm, ha, q1, q2⟩ := h
  try simp only [frz, params, List.zipWith, List.length_cons, List.length_nil, Nat.reduceAdd, Nat.reduceSub, List.replicate, List.append_nil, List.cons_append, List.nil_append, getV_va, Pt.sl, true_and, List.getElem?_cons_zero, List.getElem?_cons_succ, List.set_cons_zero, List.set_cons_succ, ite_self, Bool.false_eq_true, if_false, if_true]
  refine fun vs hc => ?_
  cases hc with
  | @cons _ v' _ _ hc hn =>
  cases hn
  obtain rfl : v = v' := hc.1 v rfl
  refine ⟨m, v, rfl, rfl, hm, fun e => ?_, q1⟩
  obtain ⟨s, w, k, p, u, em⟩ := isNumbering_seq e
  refine gCall_of fun _ => ⟨m, a, s, w, k, p, u, rfl, em, hm, ha, fun r n h0 h1 => ?_⟩
  have q := q2 s w k p u em e
  cases hs : isState w k p u a with
  | false =>
    rw [hs] at q
    rw [h0 hs]
    exact ⟨q, fun v z => nomatch z⟩
  | true =>
    rw [hs] at q
    obtain ⟨xs, e⟩ := h1 hs
    rw [e]
    exact ⟨q, fun v z => nomatch z⟩

end
end My

set_option Elab.async false
set_option linter.all false
set_option maxRecDepth 100000
set_option maxHeartbeats 4000000
namespace My
open PySem PySem.Spec PyProof.Rows L2 DL
/-! ### the law's own looks -/
def areNums (lo hi : Int) (d : D) : Bool := match d.seq with
  | some xs => xs.all (numIn lo hi)
  | none => false
section
variable {P : Program} {w : World} {K : PySem.W.Frag} {mg : Str → Option Value} {base : Heap}
theorem sc__law_is_numbering : FnScope ["thing", "one"] ["thing"] (defScope s__law_is_numbering) := ⟨rfl, rfl, rfl, by decide +kernel, rfl, by decide +kernel, by decide +kernel⟩
def c__law_is_numbering : DC := fun ds _ _ Q => ∃ a, ds = [a] ∧ a.good = true ∧ Q ⟨.bl (isNumbering a), true, none⟩
theorem ok__law_is_numbering (T : Txt K mg) : FnD P w K mg base 1 T.f__law_is_numbering.f T.f__law_is_numbering.fd ["thing"] 0 c__law_is_numbering := by
  refine fn_ok T.f__law_is_numbering.ok sc__law_is_numbering fun cdv A outer s H E hr => ⟨_, _, (dss_cons (ds_if [] (DW.dt (dw_or (dt_not (dt_val (de_isiT (tys_ok2 ty_list ty_tuple) (de_var (pv 0)) (pa_tyCons (T := "list") (by rfl) T.n_list (by decide +kernel) (pa_tyCons (T := "tuple") (by rfl) T.n_tuple (by decide +kernel) pa_tyNil)) (by rfl) T.n_isinstance (by decide +kernel)))) (dw_or1 (dt_cmp (dop_ne hr.units) (de_callB dcl_len (by rfl) T.n_len (by decide +kernel) (da_cons (de_var (pv 0)) da_nil)) de_int (nomark _))))) (dss_one (ds_ret [] de_bl)) dss_nil)
      (dss_cons (ds_if [] (dt_not (dt_val (de_callB (dcl_all rfl) (by rfl) T.n_all (by decide +kernel) (da_cons (DN.de (dn_lc (own := [("one", 1)]) rfl sc__law_is_numbering.nd (di_seq (de_var (pv 0))) (blkOk_by (N := ["thing", "one"]) (sc := defScope s__law_is_numbering) (by decide +kernel)) (fun _ _ _ _ _ => (dg_name (pg_name (i := 1) sc__law_is_numbering.nd rfl (Or.inl rfl)))) (fun _ _ _ _ _ => dts_nil) (fun _ _ _ _ _ => (de_and (de_isi (T := "int") ty_int (de_var (pv 1)) (by rfl) T.n_isinstance (by decide +kernel) (by rfl) T.n_int (by decide +kernel)) (de_one (de_not (de_isi (T := "bool") ty_bool (de_var (pv 1)) (by rfl) T.n_isinstance (by decide +kernel) (by rfl) T.n_bool (by decide +kernel)))))) (by decide))) da_nil)))) (dss_one (ds_ret [] de_bl)) dss_nil)
      (dss_one (ds_ret [] (de_and (de_cmp dop_gt (de_ix (de_var (pv 0)) de_int (fun _ _ => rfl)) de_int (nomark _)) (de_and (de_cmp dop_gt (de_ix (de_var (pv 0)) de_int (fun _ _ => rfl)) de_int (nomark _)) (de_and (de_chain dop_lt dop_le de_int (de_ix (de_var (pv 0)) de_int (fun _ _ => rfl)) (de_ix (de_var (pv 0)) de_int (fun _ _ => rfl))) (de_and (de_cmp dop_ge (de_ix (de_var (pv 0)) de_int (fun _ _ => rfl)) de_int (nomark _)) (de_one (de_cmp dop_gt (de_ix (de_var (pv 0)) de_int (fun _ _ => rfl)) de_int (nomark _))))))))))), by decide +kernel, fun ds vs XQ Q hd hv h => ?_⟩
  obtain ⟨a, rfl, ha, q⟩ := h
  match vs, hv with
  | [v], _ =>
  try simp only [frz, params, List.zipWith, List.length_cons, List.length_nil, Nat.reduceAdd, Nat.reduceSub, List.replicate, List.append_nil, List.cons_append, List.nil_append, getV_va, Pt.sl, true_and, List.getElem?_cons_zero, List.getElem?_cons_succ, List.set_cons_zero, List.set_cons_succ, ite_self, Bool.false_eq_true, if_false, if_true]
  refine ⟨good_ty ha, ?_⟩
  rw [isa_seq ha, bl_of]
  cases e : a.seq with
  | none => simpa [isNumbering, e] using q
  | some xs =>
    obtain ⟨hx, hl⟩ := good_seq ha e
    rw [if_neg (by simp), g1_of, gLen_of e, gEq_int, bl_of]
    by_cases h5 : xs.length = 5
    · match xs, h5 with
      | [s, w, k, p, u], _ =>
        rw [if_neg (by simp), items_seq (by exact e)]
        refine ⟨by show _ ≤ 16777216; simp, all_go (fun x => isWhole x.d) (fun x hx2 K1 K0 kk => ?_) ?_⟩
        · try simp only [lcStep, true_and, wipeR, List.map_cons, List.map_nil, List.set_cons_succ, List.set_cons_zero, List.getElem?_cons_succ, List.getElem?_cons_zero, getV_va, if_true]
          obtain ⟨y, hy, rfl⟩ := List.mem_map.mp hx2
          refine ⟨good_ty (hx y hy), ?_⟩
          rw [isa_int, bl_of]
          have gt := good_ty (hx y hy)
          cases y <;> first | exact kk _ | skip
          all_goals
            rw [if_pos rfl]
            refine ⟨gt, ?_⟩
            rw [isa_bool, bl_of]
            exact kk _
        · refine ⟨_, rfl, ?_⟩
          by_cases hw : (isWhole s && isWhole w && isWhole k && isWhole p && isWhole u) = true
          · simp only [Bool.and_eq_true] at hw
            obtain ⟨⟨⟨⟨h1, h2⟩, h3⟩, h4⟩, h6⟩ := hw
            obtain ⟨s, rfl⟩ := isWhole_int h1
            obtain ⟨w, rfl⟩ := isWhole_int h2
            obtain ⟨k, rfl⟩ := isWhole_int h3
            obtain ⟨p, rfl⟩ := isWhole_int h4
            obtain ⟨u, rfl⟩ := isWhole_int h6
            rw [if_neg (by simp [isWhole])]
            have a0 : atI [D.int s, .int w, .int k, .int p, .int u] 0 = some (.int s) := rfl
            have a1 : atI [D.int s, .int w, .int k, .int p, .int u] 1 = some (.int w) := rfl
            have a2 : atI [D.int s, .int w, .int k, .int p, .int u] 2 = some (.int k) := rfl
            have a3 : atI [D.int s, .int w, .int k, .int p, .int u] 3 = some (.int p) := rfl
            have a4 : atI [D.int s, .int w, .int k, .int p, .int u] 4 = some (.int u) := rfl
            simp only [gIx_of e a0, gIx_of e a1, gIx_of e a2, gIx_of e a3, gIx_of e a4, gI_of, bl_of, true_and, gChain, getV_va, List.getElem?_cons_zero]
            simp only [isNumbering, e] at q
            repeat' split
            all_goals simp_all
          · have hn : isNumbering a = false := by
              unfold isNumbering
              rw [e]
              split
              · rename_i h; simp only [Option.some.injEq, List.cons.injEq, and_true] at h; obtain ⟨rfl, rfl, rfl, rfl, rfl⟩ := h; exact absurd rfl hw
              · rfl
            have hal : (List.map (fun d => (⟨d, Dv.fr ⟨a, a.imm, some v⟩, none⟩ : Dv)) [s, w, k, p, u]).all (fun x => isWhole x.d) = false := by
              simp only [List.map_cons, List.map_nil, List.all_cons, List.all_nil, Bool.and_true]
              simpa [Bool.and_assoc] using hw
            rw [hal, if_pos (by decide)]
            rwa [hn] at q
    · rw [if_pos (by simp; omega)]
      have hn : isNumbering a = false := by
        unfold isNumbering
        rw [e]
        split
        · rename_i h; simp at h; rw [h] at h5; simp at h5
        · rfl
      rwa [hn] at q

theorem sc__law_are_numbers : FnScope ["things", "least", "most", "one"] ["things", "least", "most"] (defScope s__law_are_numbers) := ⟨rfl, rfl, rfl, by decide +kernel, rfl, by decide +kernel, by decide +kernel⟩
def c__law_are_numbers : DC := fun ds _ _ Q => ∃ a lo hi, ds = [a, .int lo, .int hi] ∧ a.good = true ∧ Q ⟨.bl (areNums lo hi a), true, none⟩
theorem ok__law_are_numbers (T : Txt K mg) : FnD P w K mg base 1 T.f__law_are_numbers.f T.f__law_are_numbers.fd ["things", "least", "most"] 0 c__law_are_numbers := by
  refine fn_ok T.f__law_are_numbers.ok sc__law_are_numbers fun cdv A outer s H E hr => ⟨_, _, (dss_cons (ds_if [] (DW.dt (dw_or (dt_not (dt_val (de_isiT (tys_ok2 ty_list ty_tuple) (de_var (pv 0)) (pa_tyCons (T := "list") (by rfl) T.n_list (by decide +kernel) (pa_tyCons (T := "tuple") (by rfl) T.n_tuple (by decide +kernel) pa_tyNil)) (by rfl) T.n_isinstance (by decide +kernel)))) (dw_or1 (dt_not (dt_val (de_callB (dcl_all rfl) (by rfl) T.n_all (by decide +kernel) (da_cons (DN.de (dn_lc (own := [("one", 3)]) rfl sc__law_are_numbers.nd (di_seq (de_var (pv 0))) (blkOk_by (N := ["things", "least", "most", "one"]) (sc := defScope s__law_are_numbers) (by decide +kernel)) (fun _ _ _ _ _ => (dg_name (pg_name (i := 3) sc__law_are_numbers.nd rfl (Or.inl rfl)))) (fun _ _ _ _ _ => dts_nil) (fun _ _ _ _ _ => (de_isi (T := "int") ty_int (de_var (pv 3)) (by rfl) T.n_isinstance (by decide +kernel) (by rfl) T.n_int (by decide +kernel))) (by decide))) da_nil))))))) (dss_one (ds_ret [] de_bl)) dss_nil)
      (dss_one (ds_ret [] (de_not (de_callB (dcl_any rfl) (by rfl) T.n_any (by decide +kernel) (da_cons (DN.de (dn_lc (own := [("one", 3)]) rfl sc__law_are_numbers.nd (di_seq (de_var (pv 0))) (blkOk_by (N := ["things", "least", "most", "one"]) (sc := defScope s__law_are_numbers) (by decide +kernel)) (fun _ _ _ _ _ => (dg_name (pg_name (i := 3) sc__law_are_numbers.nd rfl (Or.inl rfl)))) (fun _ _ _ _ _ => dts_nil) (fun _ _ _ _ _ => (de_or (de_isi (T := "bool") ty_bool (de_var (pv 3)) (by rfl) T.n_isinstance (by decide +kernel) (by rfl) T.n_bool (by decide +kernel)) (de_or (de_cmp dop_lt (de_var (pv 3)) (de_var (pv 1)) (nomark _)) (de_one (de_cmp dop_ge (de_var (pv 3)) (de_var (pv 2)) (nomark _)))))) (by decide))) da_nil)))))), by decide +kernel, fun ds vs XQ Q hd hv h => ?_⟩
  obtain ⟨a, lo, hi, rfl, ha, q⟩ := h
  match vs, hv with
  | [v, v2, v3], _ =>
  try simp only [frz, params, List.zipWith, List.length_cons, List.length_nil, Nat.reduceAdd, Nat.reduceSub, List.replicate, List.append_nil, List.cons_append, List.nil_append, getV_va, Pt.sl, true_and, List.getElem?_cons_zero, List.getElem?_cons_succ, List.set_cons_zero, List.set_cons_succ, ite_self, Bool.false_eq_true, if_false, if_true]
  refine ⟨good_ty ha, ?_⟩
  rw [isa_seq ha, bl_of]
  cases e : a.seq with
  | none => simpa [areNums, e] using q
  | some xs =>
    obtain ⟨hx, hl⟩ := good_seq ha e
    rw [if_neg (by simp), items_seq (by exact e)]
    have en : areNums lo hi a = xs.all (numIn lo hi) := by unfold areNums; rw [e]
    rw [en] at q
    refine ⟨by rw [List.length_map]; show _ ≤ 16777216; omega, all_go (fun x => D.isa "int" x.d) (fun x hx2 K1 K0 kk => ?_) ?_⟩
    · try simp only [lcStep, true_and, wipeR, List.map_cons, List.map_nil, List.set_cons_succ, List.set_cons_zero, List.getElem?_cons_succ, List.getElem?_cons_zero, getV_va, if_true]
      obtain ⟨y, hy, rfl⟩ := List.mem_map.mp hx2
      exact ⟨good_ty (hx y hy), kk _⟩
    · refine ⟨_, rfl, ?_⟩
      rw [List.all_map]
      cases hI : xs.all (D.isa "int") with
      | false =>
        rw [if_pos (by simpa [Function.comp_def] using hI)]
        have : xs.all (numIn lo hi) = false := by
          rw [List.all_eq_false] at hI ⊢
          obtain ⟨y, hy, hn⟩ := hI
          refine ⟨y, hy, fun z => hn ?_⟩
          cases y <;> first | rfl | (simp [numIn] at z)
        rwa [this] at q
      | true =>
        rw [if_neg (by simpa [Function.comp_def] using hI), items_seq (by exact e)]
        refine ⟨by rw [List.length_map]; show _ ≤ 16777216; omega, any_go (fun x => !numIn lo hi x.d) (fun x hx2 K1 K0 kk => ?_) ?_⟩
        · try simp only [lcStep, true_and, wipeR, List.map_cons, List.map_nil, List.set_cons_succ, List.set_cons_zero, List.getElem?_cons_succ, List.getElem?_cons_zero, getV_va, if_true]
          obtain ⟨y, hy, rfl⟩ := List.mem_map.mp hx2
          have hi2 := List.all_eq_true.mp hI y hy
          refine ⟨good_ty (hx y hy), ?_⟩
          rw [isa_bool, bl_of]
          cases y <;> first | (cases hi2; done) | skip
          · exact kk _
          · rename_i i
            rw [if_neg (by simp)]
            have : numIn lo hi (.int i) = (decide (lo ≤ i) && decide (i < hi)) := by
              unfold numIn
              rw [← Bool.decide_and]
            have kk : ∀ v, K1 ⟨.bl (!numIn lo hi (.int i)), true, v⟩ := kk
            rw [this] at kk
            simp only [gI_of, true_and, bl_of]
            by_cases c : i < lo
            · rw [if_pos (by simpa using c)]
              simpa [show ¬ lo ≤ i from by omega] using kk none
            · rw [if_neg (by simpa using c)]
              have e2 : decide (hi ≤ i) = !(decide (i < hi)) := by
                rw [← decide_not]
                exact decide_eq_decide.mpr (by omega)
              rw [e2]
              simpa [show lo ≤ i from by omega] using kk none
        · refine ⟨_, rfl, ?_⟩
          rw [List.any_map]
          have : (!(xs.any ((fun x => !numIn lo hi x.d) ∘ fun d => (⟨d, Dv.fr ⟨a, a.imm, some v⟩, none⟩ : Dv)))) = xs.all (numIn lo hi) := by
            rw [List.all_eq_not_any_not]
            rfl
          rwa [this]

/-- no number of it, or of its items, or of theirs, is far below zero -/
def low1 : D → Bool
  | .int i => decide (-(10 ^ 9) ≤ i)
  | _ => true
def low2 (d : D) : Bool := match d.seq with
  | some xs => xs.all low1
  | none => true
/-- a state's rides hold no number far below zero -/
def lowS (d : D) : Bool := match d.seq with
  | some [_, _, r, _] => (match r.seq with
    | some rs => rs.all low2
    | none => true)
  | _ => true
theorem ride_law {w p : Int} {d : D} (hl : low2 d = true) (hw : w ≤ 10 ^ 9) (hp : p < 10 ^ 9) : isRide w p d = (match d.seq with | some [x, y] => areNums (-(10 ^ 9)) (10 ^ 9) d && (match x, y with | .int a, .int b => decide (a < w) && (decide (0 ≤ b) && decide (b ≤ p)) | _, _ => true) | _ => false) := by
  unfold isRide low2 at *
  cases e : d.seq with
  | none => rfl
  | some xs =>
    rw [e] at hl
    match xs, e with
    | [], _ => rfl
    | [z], _ => cases z <;> rfl
    | x :: y :: _ :: _, _ => cases x <;> first | rfl | (cases y <;> rfl)
    | [x, y], e =>
      have ea : areNums (-(10 ^ 9)) (10 ^ 9) d = (numIn (-(10 ^ 9)) (10 ^ 9) x && numIn (-(10 ^ 9)) (10 ^ 9) y) := by unfold areNums; rw [e]; simp
      rw [ea]
      simp only [List.all_cons, List.all_nil, Bool.and_true, Bool.and_eq_true] at hl
      obtain ⟨l1, l2⟩ := hl
      cases x <;> try (simp [numIn]; done)
      cases y <;> try (simp [numIn]; done)
      simp only [low1, decide_eq_true_eq] at l1 l2
      rw [Bool.eq_iff_iff]
      simp only [numIn, Bool.and_eq_true, decide_eq_true_eq]
      omega

theorem sc__law_is_state : FnScope ["numbering", "thing", "ride", "ahead", "has", "rides", "told", "one", "other"] ["numbering", "thing"] (defScope s__law_is_state) := ⟨rfl, rfl, rfl, by decide +kernel, rfl, by decide +kernel, by decide +kernel⟩
def c__law_is_state : DC := fun ds _ _ Q => ∃ m a s w k p u, ds = [m, a] ∧ m.seq = some [.int s, .int w, .int k, .int p, .int u] ∧ m.good = true ∧ a.good = true ∧ w ≤ 10 ^ 9 ∧ p < 10 ^ 9 ∧ lowS a = true ∧ Q ⟨.bl (isState w k p u a), true, none⟩
theorem ok__law_is_state (T : Txt K mg) : FnD P w K mg base 2 T.f__law_is_state.f T.f__law_is_state.fd ["numbering", "thing"] 0 c__law_is_state := by
  refine fn_ok T.f__law_is_state.ok sc__law_is_state fun cdv A outer s H E hr => ⟨_, _, (dss_cons (ds_if [] (DW.dt (dw_or (dt_not (dt_val (de_isiT (tys_ok2 ty_list ty_tuple) (de_var (pv 1)) (pa_tyCons (T := "list") (by rfl) T.n_list (by decide +kernel) (pa_tyCons (T := "tuple") (by rfl) T.n_tuple (by decide +kernel) pa_tyNil)) (by rfl) T.n_isinstance (by decide +kernel)))) (dw_or (dt_cmp (dop_ne hr.units) (de_callB dcl_len (by rfl) T.n_len (by decide +kernel) (da_cons (de_var (pv 1)) da_nil)) de_int (nomark _)) (dw_or1 (dt_not (dt_val (de_call ((ok__law_are_numbers T).mono (by decide)) hr (by rfl) T.f__law_are_numbers.g T.f__law_are_numbers.ok.kp T.f__law_are_numbers.b (passE (takes_of rfl rfl rfl rfl)) rfl (da_cons (de_slice (de_var (pv 1)) do_none (do_some de_int)) (da_cons de_int (da_cons (de_op dop_add (de_ix (de_var (pv 0)) de_int (fun _ _ => rfl)) de_int) da_nil)))))))))) (dss_one (ds_ret [] de_bl)) dss_nil)
      (dss_cons (ds_asg [] (de_var (pv 1)) (dg_tup (n := 4) rfl (dgs_cons (dg_name (pg_name (i := 3) sc__law_is_state.nd rfl (Or.inl rfl))) (dgs_cons (dg_name (pg_name (i := 4) sc__law_is_state.nd rfl (Or.inl rfl))) (dgs_cons (dg_name (pg_name (i := 5) sc__law_is_state.nd rfl (Or.inl rfl))) (dgs_cons (dg_name (pg_name (i := 6) sc__law_is_state.nd rfl (Or.inl rfl))) dgs_nil))))) (fun _ _ a b => ps_asg a b))
      (dss_cons (ds_if [] (DW.dt (dw_or (dt_not (dt_val (de_call ((ok__law_are_numbers T).mono (by decide)) hr (by rfl) T.f__law_are_numbers.g T.f__law_are_numbers.ok.kp T.f__law_are_numbers.b (passE (takes_of rfl rfl rfl rfl)) rfl (da_cons (de_var (pv 4)) (da_cons de_int (da_cons (de_ix (de_var (pv 0)) de_int (fun _ _ => rfl)) da_nil)))))) (dw_or1 (dt_not (dt_val (de_callB (dcl_all rfl) (by rfl) T.n_all (by decide +kernel) (da_cons (DN.de (dn_lc (own := [("one", 7), ("other", 8)]) rfl sc__law_is_state.nd (di_zip (by rfl) T.n_zip (da_cons (de_var (pv 4)) (da_cons (de_slice (de_var (pv 4)) (do_some de_int) do_none) da_nil))) (blkOk_by (N := ["numbering", "thing", "ride", "ahead", "has", "rides", "told", "one", "other"]) (sc := defScope s__law_is_state) (by decide +kernel)) (fun _ _ _ _ _ => (dg_tup (n := 2) rfl (dgs_cons (dg_name (pg_name (i := 7) sc__law_is_state.nd rfl (Or.inl rfl))) (dgs_cons (dg_name (pg_name (i := 8) sc__law_is_state.nd rfl (Or.inl rfl))) dgs_nil)))) (fun _ _ _ _ _ => dts_nil) (fun _ _ _ _ _ => (de_cmp dop_lt (de_var (pv 7)) (de_var (pv 8)) (nomark _))) (by decide))) da_nil))))))) (dss_one (ds_ret [] de_bl)) dss_nil)
      (dss_cons (ds_if [] (DW.dt (dw_or (dt_not (dt_val (de_isiT (tys_ok2 ty_list ty_tuple) (de_var (pv 5)) (pa_tyCons (T := "list") (by rfl) T.n_list (by decide +kernel) (pa_tyCons (T := "tuple") (by rfl) T.n_tuple (by decide +kernel) pa_tyNil)) (by rfl) T.n_isinstance (by decide +kernel)))) (dw_or1 (dt_cmp dop_gt (de_callB dcl_len (by rfl) T.n_len (by decide +kernel) (da_cons (de_var (pv 5)) da_nil)) (de_ix (de_var (pv 0)) de_int (fun _ _ => rfl)) (nomark _))))) (dss_one (ds_ret [] de_bl)) dss_nil)
      (dss_cons (ds_for [] (passes_of rfl) rfl (di_seq (de_var (pv 5))) (dg_name (pg_name (i := 2) sc__law_is_state.nd rfl (Or.inl rfl)))
      (dss_cons (ds_if [] (DW.dt (dw_or (dt_not (dt_val (de_isiT (tys_ok2 ty_list ty_tuple) (de_var (pv 2)) (pa_tyCons (T := "list") (by rfl) T.n_list (by decide +kernel) (pa_tyCons (T := "tuple") (by rfl) T.n_tuple (by decide +kernel) pa_tyNil)) (by rfl) T.n_isinstance (by decide +kernel)))) (dw_or (dt_cmp (dop_ne hr.units) (de_callB dcl_len (by rfl) T.n_len (by decide +kernel) (da_cons (de_var (pv 2)) da_nil)) de_int (nomark _)) (dw_or1 (dt_not (dt_val (de_call ((ok__law_are_numbers T).mono (by decide)) hr (by rfl) T.f__law_are_numbers.g T.f__law_are_numbers.ok.kp T.f__law_are_numbers.b (passE (takes_of rfl rfl rfl rfl)) rfl (da_cons (de_var (pv 2)) (da_cons (de_neg (de_op dop_pow de_int de_int)) (da_cons (de_op dop_pow de_int de_int) da_nil)))))))))) (dss_one (ds_ret [] de_bl)) dss_nil)
      (dss_one (ds_if [] (DW.dt (dw_or (dt_cmp dop_ge (de_ix (de_var (pv 2)) de_int (fun _ _ => rfl)) (de_ix (de_var (pv 0)) de_int (fun _ _ => rfl)) (nomark _)) (dw_or1 (dt_not (dt_chain dop_le dop_le de_int (de_ix (de_var (pv 2)) de_int (fun _ _ => rfl)) (de_ix (de_var (pv 0)) de_int (fun _ _ => rfl))))))) (dss_one (ds_ret [] de_bl)) dss_nil))))
      (dss_one (ds_ret [] (de_and (de_call ((ok__law_are_numbers T).mono (by decide)) hr (by rfl) T.f__law_are_numbers.g T.f__law_are_numbers.ok.kp T.f__law_are_numbers.b (passE (takes_of rfl rfl rfl rfl)) rfl (da_cons (de_var (pv 6)) (da_cons de_int (da_cons (de_op dop_add (de_var (pv 3)) de_int) da_nil)))) (de_one (de_cmp dop_lt (de_callB dcl_len (by rfl) T.n_len (by decide +kernel) (da_cons (de_var (pv 6)) da_nil)) de_int (nomark _))))))))))), by decide +kernel, fun ds vs XQ Q hd hv h => ?_⟩
  obtain ⟨m, a, s, w, k, p, u, rfl, em, hm, ha, hw, hp, hl, q⟩ := h
  match vs, hv with
  | [v, v2], _ =>
  try simp only [frz, params, List.zipWith, List.length_cons, List.length_nil, Nat.reduceAdd, Nat.reduceSub, List.replicate, List.append_nil, List.cons_append, List.nil_append, getV_va, Pt.sl, true_and, List.getElem?_cons_zero, List.getElem?_cons_succ, List.set_cons_zero, List.set_cons_succ, ite_self, Bool.false_eq_true, if_false, if_true]
  refine ⟨good_ty ha, ?_⟩
  rw [isa_seq ha, bl_of]
  have no : isState w k p u a = false → Q ⟨.bl false, true, none⟩ := fun e => by rwa [e] at q
  cases e : a.seq with
  | none =>
    rw [if_pos (by simp)]
    exact no (by simp [isState, e])
  | some xs =>
    obtain ⟨hx, hl2⟩ := good_seq ha e
    rw [if_neg (by simp), g1_of, gLen_of e, gEq_int, bl_of]
    by_cases h4 : xs.length = 4
    · match xs, h4 with
      | [x0, h, r, t], _ =>
        have m1 : atI [D.int s, .int w, .int k, .int p, .int u] 1 = some (.int w) := rfl
        have m2 : atI [D.int s, .int w, .int k, .int p, .int u] 2 = some (.int k) := rfl
        have m3 : atI [D.int s, .int w, .int k, .int p, .int u] 3 = some (.int p) := rfl
        have m4 : atI [D.int s, .int w, .int k, .int p, .int u] 4 = some (.int u) := rfl
        have c1 : cutL [x0, h, r, t] none (some 1) = [x0] := rfl
        rw [if_neg (by simp)]
        refine ⟨1, rfl, ?_⟩
        rw [gSl_seq (by exact e), c1, gIx_of em m1, gAdd_int]
        refine gCall_of fun _ => ⟨_, 0, w + 1, rfl, like_good ha (fun x h => by simp at h; rw [h]; exact hx x0 (by simp)) (by simp), ?_⟩
        have ea : areNums 0 (w + 1) (a.like [x0]) = numIn 0 (w + 1) x0 := by unfold areNums; rw [like_seq]; simp
        refine ⟨_, rfl, ?_⟩
        rw [ea]
        cases h0 : numIn 0 (w + 1) x0 with
        | false =>
          rw [if_pos (by decide)]
          refine no ?_
          unfold isState
          rw [e]
          have h0' : ∀ i, x0 = .int i → ¬ (0 ≤ i ∧ i ≤ w) := fun i e0 => by
            rw [e0] at h0
            simp only [numIn, decide_eq_false_iff_not] at h0
            omega
          cases x0 <;> first | rfl | skip
          dsimp only
          split <;> first | rfl | skip
          rw [decide_eq_false (h0' _ rfl)]
          simp only [Bool.false_and]
        | true =>
          rw [if_neg (by decide)]
          obtain ⟨ah, rfl⟩ : ∃ i, x0 = .int i := by cases x0 <;> first | exact ⟨_, rfl⟩ | (simp [numIn] at h0)
          simp only [numIn, decide_eq_true_eq] at h0
          have es : isState w k p u a = (match h.seq, r.seq, t.seq with
              | some hs, some rs, some ts => hs.all (numIn 1 k) && rising (intsOf hs) && decide ((rs.length : Int) ≤ u) && rs.all (isRide w p) && decide (ts.length ≤ 1) && ts.all (numIn 0 (ah + 1))
              | _, _, _ => false) := by
            unfold isState
            rw [e]
            dsimp only
            cases h.seq <;> cases r.seq <;> cases t.seq <;> first | rfl | skip
            dsimp only
            rw [show decide (0 ≤ ah ∧ ah ≤ w) = true from decide_eq_true (by omega), Bool.true_and]
          rw [es] at no q
          rw [unp_seq (by exact e)]
          refine ⟨rfl, rfl, ?_⟩
          try simp only [frz, params, List.zipWith, List.length_cons, List.length_nil, Nat.reduceAdd, Nat.reduceSub, List.replicate, List.append_nil, List.cons_append, List.nil_append, getV_va, Pt.sl, true_and, List.getElem?_cons_zero, List.getElem?_cons_succ, List.set_cons_zero, List.set_cons_succ, ite_self, Bool.false_eq_true, if_false, if_true]
          rw [gIx_of em m2]
          refine gCall_of fun _ => ⟨h, 1, k, rfl, hx h (by simp), _, rfl, ?_⟩
          cases hh : areNums 1 k h with
          | false =>
            rw [if_pos (by decide)]
            refine no ?_
            split <;> first | rfl | skip
            rename_i h1 _ _
            unfold areNums at hh
            rw [h1] at hh
            simp only [hh, Bool.false_and]
          | true =>
            rw [if_neg (by decide)]
            obtain ⟨hs, eh, hh⟩ : ∃ hs, h.seq = some hs ∧ hs.all (numIn 1 k) = true := by
              unfold areNums at hh
              cases eh : h.seq with
              | none => rw [eh] at hh; cases hh
              | some hs => rw [eh] at hh; exact ⟨hs, rfl, hh⟩
            rw [eh] at no q
            obtain ⟨hhx, hhl⟩ := good_seq (hx h (by simp)) eh
            have hi := numIn_ints hh
            refine ⟨1, rfl, ?_⟩
            rw [gSl_seq (by exact eh), gZip_seq (by exact eh) (by rfl), cut1]
            refine ⟨by rw [zipD_len]; show _ ≤ 16777216; simp; omega, all_go (fun x => risePair x.d) (fun x hx2 K1 K0 kk => ?_) ?_⟩
            · try simp only [lcStep, true_and, wipeR, List.map_cons, List.map_nil, List.set_cons_succ, List.set_cons_zero, List.getElem?_cons_succ, List.getElem?_cons_zero, getV_va, if_true]
              obtain ⟨i, hi2⟩ := List.getElem?_of_mem hx2
              obtain ⟨y, z, h1, h2, rfl⟩ := zipD_get hi2
              rw [hi, List.getElem?_map] at h1
              rw [List.getElem?_drop, hi, List.getElem?_map] at h2
              obtain ⟨m', _, rfl⟩ := Option.map_eq_some_iff.mp h1
              obtain ⟨o', _, rfl⟩ := Option.map_eq_some_iff.mp h2
              rw [unp_seq (by rfl)]
              refine ⟨rfl, rfl, ?_⟩
              try simp only [frz, params, List.zipWith, List.length_cons, List.length_nil, Nat.reduceAdd, Nat.reduceSub, List.replicate, List.append_nil, List.cons_append, List.nil_append, getV_va, Pt.sl, true_and, List.getElem?_cons_zero, List.getElem?_cons_succ, List.set_cons_zero, List.set_cons_succ, ite_self, Bool.false_eq_true, if_false, if_true]
              exact ⟨trivial, kk _⟩
            · refine ⟨_, rfl, ?_⟩
              have er : ∀ {n : Bool}, (zipD n hs (hs.drop 1)).all (fun x => risePair x.d) = rising (intsOf hs) := fun {n} => by
                have := rise_all (n := n) (intsOf hs)
                rwa [← hi] at this
              rw [er]
              cases hr : rising (intsOf hs) with
              | false =>
                rw [if_pos (by decide)]
                refine no ?_
                split <;> first | rfl | skip
                rename_i h1 _ _
                cases h1
                simp [hr]
              | true =>
                rw [if_neg (by decide)]
                try simp only [frz, params, List.zipWith, List.length_cons, List.length_nil, Nat.reduceAdd, Nat.reduceSub, List.replicate, List.append_nil, List.cons_append, List.nil_append, getV_va, Pt.sl, true_and, List.getElem?_cons_zero, List.getElem?_cons_succ, List.set_cons_zero, List.set_cons_succ, ite_self, Bool.false_eq_true, if_false, if_true]
                refine ⟨good_ty (hx r (by simp)), ?_⟩
                rw [isa_seq (hx r (by simp)), bl_of]
                cases er : r.seq with
                | none =>
                  rw [if_pos (by simp)]
                  exact no (by rw [er])
                | some rs =>
                  rw [if_neg (by simp), g1_of, gLen_of er, gIx_of em m4]
                  simp only [gI_of, bl_of, true_and]
                  rw [er] at no q
                  obtain ⟨hrx, hrl⟩ := good_seq (hx r (by simp)) er
                  have hlow : ∀ y ∈ rs, low2 y = true := by
                    unfold lowS at hl
                    rw [e] at hl
                    dsimp only at hl
                    rw [er] at hl
                    exact List.all_eq_true.mp hl
                  by_cases c2 : u < (rs.length : Int)
                  · rw [if_pos (by simpa using c2)]
                    refine no ?_
                    split <;> first | rfl | skip
                    rename_i h1 h2 _
                    cases h2
                    simp [show ¬ ((rs.length : Int) ≤ u) from by omega]
                  · rw [if_neg (by simpa using c2), items_seq (by exact er)]
                    refine ⟨.inl trivial, ?_⟩
                    have notall : ∀ y ∈ rs, isRide w p y = false → Q ⟨.bl false, true, none⟩ := fun y hy hf => no (by
                      split <;> first | rfl | skip
                      rename_i h1 h2 _
                      cases h2
                      have : rs.all (isRide w p) = false := by
                        rw [List.all_eq_false]
                        exact ⟨y, hy, by simp [hf]⟩
                      simp [this])
                    refine for_idx (fun n ρ => (∃ sl, ρ = [Sl.va ⟨m, m.imm, some v⟩, .va ⟨a, a.imm, some v2⟩, sl, .va ⟨.int ah, Dv.fr ⟨a, a.imm, some v2⟩, none⟩, .va ⟨h, Dv.fr ⟨a, a.imm, some v2⟩, none⟩, .va ⟨r, Dv.fr ⟨a, a.imm, some v2⟩, none⟩, .va ⟨t, Dv.fr ⟨a, a.imm, some v2⟩, none⟩, .un, .un]) ∧ ∀ y ∈ rs.take n, isRide w p y = true) _ 0 _ ⟨⟨_, rfl⟩, by simp⟩ (fun i x hi2 ρ hI K kk => ?_) fun ρ hI => ?_
                    · obtain ⟨⟨sl, rfl⟩, hI⟩ := hI
                      rw [Nat.zero_add] at hI kk
                      rw [List.getElem?_map] at hi2
                      obtain ⟨y, hy, rfl⟩ := Option.map_eq_some_iff.mp hi2
                      have hym : y ∈ rs := List.mem_of_getElem? hy
                      try simp only [frz, params, List.zipWith, List.length_cons, List.length_nil, Nat.reduceAdd, Nat.reduceSub, List.replicate, List.append_nil, List.cons_append, List.nil_append, getV_va, Pt.sl, true_and, List.getElem?_cons_zero, List.getElem?_cons_succ, List.set_cons_zero, List.set_cons_succ, ite_self, Bool.false_eq_true, if_false, if_true]
                      refine ⟨good_ty (hrx y hym), ?_⟩
                      rw [isa_seq (hrx y hym)]
                      have rl := ride_law (hlow y hym) hw hp
                      cases ey : y.seq with
                      | none =>
                        rw [if_pos (by simp)]
                        exact notall y hym (by rw [rl, ey])
                      | some ys =>
                        rw [if_neg (by simp), g1_of, gLen_of ey, gEq_int, bl_of]
                        by_cases hy2 : ys.length = 2
                        · match ys, hy2 with
                          | [y0, y1], _ =>
                            rw [if_neg (by simp)]
                            have cp : CPow 10 9 := ⟨by decide, by decide, by decide⟩
                            refine ⟨cp, cp, gCall_of fun _ => ⟨y, -(10 ^ 9), 10 ^ 9, rfl, hrx y hym, _, rfl, ?_⟩⟩
                            cases ha9 : areNums (-(10 ^ 9)) (10 ^ 9) y with
                            | false =>
                              rw [if_pos (by decide)]
                              exact notall y hym (by rw [rl, ey]; simp only [ha9, Bool.false_and])
                            | true =>
                              rw [if_neg (by decide)]
                              have hb := ha9
                              unfold areNums at hb
                              rw [ey] at hb
                              simp only [List.all_cons, List.all_nil, Bool.and_true, Bool.and_eq_true] at hb
                              obtain ⟨b0, b1⟩ := hb
                              obtain ⟨i0, rfl⟩ : ∃ i, y0 = .int i := by cases y0 <;> first | exact ⟨_, rfl⟩ | (simp [numIn] at b0)
                              obtain ⟨i1, rfl⟩ : ∃ i, y1 = .int i := by cases y1 <;> first | exact ⟨_, rfl⟩ | (simp [numIn] at b1)
                              rw [gIx_of ey (show atI [D.int i0, .int i1] 0 = some (.int i0) from rfl), gIx_of em m1]
                              simp only [gI_of, bl_of, true_and, gIx_of ey (show atI [D.int i0, .int i1] 1 = some (.int i1) from rfl), gChain, getV_va, List.getElem?_cons_zero, gIx_of em m3]
                              have rr : isRide w p y = (decide (i0 < w) && (decide (0 ≤ i1) && decide (i1 ≤ p))) := by
                                rw [rl, ey]
                                simp only [ha9, Bool.true_and]
                              by_cases d0 : w ≤ i0
                              · rw [if_pos (by simpa using d0)]
                                exact notall y hym (by rw [rr]; simp; omega)
                              · rw [if_neg (by simpa using d0)]
                                have step : isRide w p y = true → ∀ sl, K [Sl.va ⟨m, m.imm, some v⟩, .va ⟨a, a.imm, some v2⟩, sl, .va ⟨.int ah, Dv.fr ⟨a, a.imm, some v2⟩, none⟩, .va ⟨h, Dv.fr ⟨a, a.imm, some v2⟩, none⟩, .va ⟨r, Dv.fr ⟨a, a.imm, some v2⟩, none⟩, .va ⟨t, Dv.fr ⟨a, a.imm, some v2⟩, none⟩, .un, .un] := fun hr sl => kk _ ⟨⟨sl, rfl⟩, fun z hz => by
                                  rw [List.take_succ, List.mem_append] at hz
                                  rcases hz with hz | hz
                                  · exact hI z hz
                                  · rw [hy] at hz
                                    simp at hz
                                    rw [hz]; exact hr⟩
                                by_cases d1 : 0 ≤ i1
                                · rw [if_pos (by simpa using d1)]
                                  by_cases d2 : i1 ≤ p
                                  · simp only [d2, decide_true, Bool.not_true, Bool.false_eq_true, if_false]
                                    exact step (by rw [rr]; simp; omega) _
                                  · simp only [d2, decide_false, Bool.not_false, if_true]
                                    exact notall y hym (by rw [rr]; simp; omega)
                                · rw [if_neg (by simpa using d1)]
                                  simp only [Bool.not_false, if_true]
                                  exact notall y hym (by rw [rr]; simp; omega)
                        · rw [if_pos (by simp; omega)]
                          refine notall y hym ?_
                          rw [rl, ey]
                          split
                          · rename_i h; simp at h; rw [h] at hy2; simp at hy2
                          · rfl
                    · obtain ⟨⟨sl, rfl⟩, hI⟩ := hI
                      have hI2 : rs.all (isRide w p) = true := List.all_eq_true.mpr fun y hy => hI y (by rw [List.length_map, Nat.zero_add, List.take_length]; exact hy)
                      try simp only [frz, params, List.zipWith, List.length_cons, List.length_nil, Nat.reduceAdd, Nat.reduceSub, List.replicate, List.append_nil, List.cons_append, List.nil_append, getV_va, Pt.sl, true_and, List.getElem?_cons_zero, List.getElem?_cons_succ, List.set_cons_zero, List.set_cons_succ, ite_self, Bool.false_eq_true, if_false, if_true]
                      rw [gAdd_int]
                      refine gCall_of fun _ => ⟨t, 0, ah + 1, rfl, hx t (by simp), _, rfl, ?_⟩
                      cases ht : areNums 0 (ah + 1) t with
                      | false =>
                        rw [if_neg (by decide)]
                        refine no ?_
                        split <;> first | rfl | skip
                        rename_i _ _ h3
                        unfold areNums at ht
                        rw [h3] at ht
                        simp [ht]
                      | true =>
                        rw [if_pos rfl]
                        obtain ⟨ts, et, htt⟩ : ∃ ts, t.seq = some ts ∧ ts.all (numIn 0 (ah + 1)) = true := by
                          unfold areNums at ht
                          cases et : t.seq with
                          | none => rw [et] at ht; cases ht
                          | some ts => rw [et] at ht; exact ⟨ts, rfl, ht⟩
                        rw [et] at q
                        rw [g1_of, gLen_of et]
                        simp only [gI_of, true_and]
                        dsimp only at q
                        have e3 : decide ((ts.length : Int) < 2) = decide (ts.length ≤ 1) := decide_eq_decide.mpr (by omega)
                        rw [e3]
                        simpa only [hh, hr, hI2, htt, show ((rs.length : Int) ≤ u) from by omega, decide_true, Bool.true_and, Bool.and_true] using q
    · rw [if_pos (by simp; omega)]
      refine no ?_
      unfold isState
      rw [e]
      split
      · rename_i h; simp at h; rw [h] at h4; simp at h4
      · rfl

end
end My

set_option Elab.async false
set_option linter.all false
set_option maxRecDepth 100000
set_option maxHeartbeats 4000000
namespace My
open PySem PySem.Spec PyProof.Rows L2 DL
section
variable {P : Program} {w : World} {K : PySem.W.Frag} {mg : Str → Option Value} {base : Heap}
theorem sc__law_draw : FnScope ["stream", "many", "cell", "digit", "mixed"] ["stream", "many"] (defScope s__law_draw) := ⟨rfl, rfl, rfl, by decide +kernel, rfl, by decide +kernel, by decide +kernel⟩
theorem ok__law_draw (T : Txt K mg) : FnD P w K mg base 1 T.f__law_draw.f T.f__law_draw.fd ["stream", "many"] 1 cDraw := by
  refine T.f__law_draw.ok.ok sc__law_draw (fun vs H Q E h => h.1) (fun cdv A outer s H vs Q E hr h => ?_)
  obtain ⟨hl, R, st, Lb, B, ds, XQ, QD, o, hB, r, ⟨m, rfl, hm0, hm1, q⟩, hX, k⟩ := h
  match vs, hl, r with
  | [v0, v1], _, .cons r0 (.cons r1 .nil) =>
  cases r1
  generalize hv0 : v0 = w0 at r0
  cases r0 with
  | @strm _ p hst =>
  subst hv0
  obtain ⟨a, b⟩ := p
  obtain ⟨hne, xs0, c0, n0, s0, ha0, hb0, hc0, hn0, hnB, hs0, hs1⟩ := o.inv (a, b) hst
  simp only at hne ha0 hb0
  refine ⟨_, pss_cons (ps_asg (pe_op op_add (pe_ix ix_list (pv 0) pe_int (fun _ _ => rfl)) pe_int) (pg_sub (pv 0) pe_int set_list))
    (pss_cons (ps_while (passes_of rfl) (PW.pt (pw_and (pt_cmpR op_eq (pe_ix ix_list (pv 0) pe_int (fun _ _ => rfl)) pe_int (nomark _)) (pw_and1 (pt_cmpR (op_neD hr.units) (pe_ix ix_list (pv 0) pe_int (fun _ _ => rfl)) (pe_lst pa_nil) (nomark _)))))
      (pss_cons (ps_set (i := 2) sc__law_draw.nd rfl (Or.inl rfl) (pe_callB call_abs rfl T.n_abs (by decide +kernel) (pa_cons (pe_bm PySem.F.plainAttrs_list PySem.F.slot_list_pop PySem.F.type_list_pop mt_popAt (pe_ix ix_list (pv 0) pe_int (fun _ _ => rfl)) (pa_cons pe_int pa_nil)) pa_nil)))
      (pss_cons (ps_asg (pe_op op_mod (pe_callTy call_int1 rfl T.n_int (by decide +kernel) (pa_cons (pe_op op_add (pe_op op_add (pe_op op_mul (pe_ix ix_list (pv 0) pe_int (fun _ _ => rfl)) pe_int) (pv 2)) pe_int) pa_nil)) pe_int) (pg_sub (pv 0) pe_int set_list))
      (pss_one (ps_asg (pe_ifExp (pt_cmpR op_ge (pv 2) (pe_op op_pow pe_int pe_int) (nomark _)) (pv 2) pe_int) (pg_sub (pv 0) pe_int set_list))))))
    (pss_cons (ps_if (pt_cmpR op_gt (pe_ix ix_list (pv 0) pe_int (fun _ _ => rfl)) pe_int (nomark _))
      (pss_cons (ps_set (i := 3) sc__law_draw.nd rfl (Or.inl rfl) (pe_op op_mod (pe_callTy call_int1 rfl T.n_int (by decide +kernel) (pa_cons (pe_ix ix_list (pv 0) pe_int (fun _ _ => rfl)) pa_nil)) (pv 1)))
      (pss_cons (ps_asg (pe_op op_fdiv (pe_ix ix_list (pv 0) pe_int (fun _ _ => rfl)) (pv 1)) (pg_sub (pv 0) pe_int set_list))
      (pss_one (ps_ret (pv 3))))) pss_nil)
    (pss_cons (ps_set (i := 4) sc__law_draw.nd rfl (Or.inl rfl) (pe_op op_mod (pe_callTy call_int1 rfl T.n_int (by decide +kernel) (pa_cons (pe_op op_powW (pe_op op_add (pe_op op_add (pe_ix ix_list (pv 0) pe_int (fun _ _ => rfl)) (pe_op op_mul pe_int (pe_ix ix_list (pv 0) pe_int (fun _ _ => rfl)))) pe_int) pe_int) pa_nil)) pe_int))
    (pss_one (ps_ret (pe_op op_mod (pe_op op_mod (pe_callTy call_int1 rfl T.n_int (by decide +kernel) (pa_cons (pe_op op_powW (pe_op op_add (pe_op op_add (pe_op op_mul (pv 4) pe_int) (pe_op op_mul pe_int (pe_ix ix_list (pv 0) pe_int (fun _ _ => rfl)))) pe_int) pe_int) pa_nil)) pe_int) (pv 1))))))), ?_⟩
  obtain ⟨hu, hE⟩ : HpOk _ B R H ∧ n0 + 1 ≤ ((B + 1 : Nat) : Int) := ⟨o, by omega⟩
  refine draw_reads hne ⟨ha0, hb0⟩ hc0 hn0 (lim_bits hE (Nat.le_trans hB o.lim)) hs0 hs1 hm0 hm1 fun k' H' k0 k1 ⟨xs', c', s', hS', c0', s0', s1'⟩ kp bk => ?_
  obtain ⟨e1, o1⟩ := strm_ext (B' := B + 1) hst o ⟨kp, hne, xs', c', n0 + 1, s', hS'.top, hS'.low, c0', by omega, hE, s0', s1'⟩
  exact k _ ⟨.int k', true, none⟩ R H' e1 o1 (.of (.int _)) (q k' k0 k1)
end
end My

set_option Elab.async false
set_option linter.all false
set_option maxRecDepth 100000
set_option maxHeartbeats 4000000
namespace My
open PySem PySem.Spec PyProof.Rows L2 DL
/-! ### what is drawn -/
theorem atI_nat {xs : List D} {i : Int} (h0 : 0 ≤ i) (h1 : i < xs.length) : ∃ x, atI xs i = some x ∧ x ∈ xs := by
  have hn : i.toNat < xs.length := by omega
  refine ⟨xs[i.toNat], ?_, List.getElem_mem hn⟩
  unfold atI ixN
  rw [if_pos h0, if_pos h1]
  simp [hn]
section
variable {P : Program} {w : World} {K : PySem.W.Frag} {mg : Str → Option Value} {base : Heap}
theorem sc__law_pick : FnScope ["stream", "things"] ["stream", "things"] (defScope s__law_pick) := ⟨rfl, rfl, rfl, by decide +kernel, rfl, by decide +kernel, by decide +kernel⟩
def c__law_pick : DC := fun ds _ _ Q => ∃ a xs, ds = [.strm, a] ∧ a.seq = some xs ∧ xs ≠ [] ∧ xs.length < 1073741824 ∧ ∀ x ∈ xs, ∀ n, Q ⟨x, n, none⟩
theorem ok__law_pick (T : Txt K mg) : FnD P w K mg base 2 T.f__law_pick.f T.f__law_pick.fd ["stream", "things"] 1 c__law_pick := by
  refine fn_ok T.f__law_pick.ok sc__law_pick fun cdv A outer s H E hr => ⟨_, _, (dss_one (ds_ret [] (de_ix (de_var (pv 1)) (de_call ((ok__law_draw T).mono (by decide)) hr (by rfl) T.f__law_draw.g T.f__law_draw.ok.kp T.f__law_draw.b (passE (takes_of rfl rfl rfl rfl)) rfl (da_cons (de_var (pv 0)) (da_cons (de_callB dcl_len (by rfl) T.n_len (by decide +kernel) (da_cons (de_var (pv 1)) da_nil)) da_nil))) (fun _ _ => rfl)))), by decide +kernel, fun ds vs XQ Q hd hv h => ?_⟩
  obtain ⟨a, xs, rfl, e, hne, hl, q⟩ := h
  match vs, hv with
  | [v, v2], _ =>
  try simp only [frz, params, List.zipWith, List.length_cons, List.length_nil, Nat.reduceAdd, Nat.reduceSub, List.replicate, List.append_nil, List.cons_append, List.nil_append, getV_va, Pt.sl, true_and, List.getElem?_cons_zero, List.getElem?_cons_succ, List.set_cons_zero, List.set_cons_succ, ite_self, Bool.false_eq_true, if_false, if_true]
  rw [g1_of, gLen_of e]
  refine gCall_of fun _ => ⟨(xs.length : Int), rfl, ?_, by omega, fun i i0 i1 => ?_⟩
  · have := List.length_pos_iff.mpr hne
    omega
  · obtain ⟨x, hx, hm⟩ := atI_nat i0 i1
    rw [gIx_of e hx]
    exact q x hm _

theorem sc__law_mixed : FnScope ["stream", "things", "k", "left", "found"] ["stream", "things"] (defScope s__law_mixed) := ⟨rfl, rfl, rfl, by decide +kernel, rfl, by decide +kernel, by decide +kernel⟩
def c__law_mixed : DC := fun ds _ _ Q => ∃ a xs, ds = [.strm, a] ∧ a.seq = some xs ∧ xs.length ≤ 100000 ∧ ∀ ys n, ys.length = xs.length → (∀ y ∈ ys, y ∈ xs) → Q ⟨.lst ys, n, none⟩
theorem ok__law_mixed (T : Txt K mg) : FnD P w K mg base 2 T.f__law_mixed.f T.f__law_mixed.fd ["stream", "things"] (BIG * 10) c__law_mixed := by
  refine fn_ok T.f__law_mixed.ok sc__law_mixed fun cdv A outer s H E hr => ⟨_, _, (dss_cons (ds_par2 (i := 3) (j := 4) [] (dp_ow (dn_list (by rfl) T.n_list (da_cons (de_var (pv 1)) da_nil))) (dp_ow (dn_lst da_nil)) rfl sc__law_mixed.nd rfl rfl (by decide) (by rfl) (by rfl) (by rfl))
      (dss_cons (ds_forR [3] (passes_of rfl) rfl (dir_range1 (by rfl) T.n_range (da_cons (de_callB dcl_len (by rfl) T.n_len (by decide +kernel) (da_cons (de_var (pv 3)) da_nil)) da_nil)) (dg_name (pg_name (i := 2) sc__law_mixed.nd rfl (Or.inl rfl)))
      (dss_one (ds_appPop [3] (i := 4) (j := 3) (de_call ((ok__law_draw T).mono (by decide)) hr (by rfl) T.f__law_draw.g T.f__law_draw.ok.kp T.f__law_draw.b (passE (takes_of rfl rfl rfl rfl)) rfl (da_cons (de_var (pv 0)) (da_cons (de_callB dcl_len (by rfl) T.n_len (by decide +kernel) (da_cons (de_var (pv 3)) da_nil)) da_nil))) (fun _ a => ps_expr (pe_bm PySem.F.plainAttrs_list PySem.F.slot_list_append PySem.F.type_list_append mt_append (pv 4) (pa_cons (pe_bm PySem.F.plainAttrs_list PySem.F.slot_list_pop PySem.F.type_list_pop mt_popAt (pv 3) (pa_cons a pa_nil)) pa_nil))))))
      (dss_one (ds_ret [4] (de_var (pv 4)))))), by decide +kernel, fun ds vs XQ Q hd hv h => ?_⟩
  obtain ⟨a, xs, rfl, e, hl, q⟩ := h
  match vs, hv with
  | [v, v2], _ =>
  try simp only [frz, params, List.zipWith, List.length_cons, List.length_nil, Nat.reduceAdd, Nat.reduceSub, List.replicate, List.append_nil, List.cons_append, List.nil_append, getV_va, Pt.sl, true_and, List.getElem?_cons_zero, List.getElem?_cons_succ, List.set_cons_zero, List.set_cons_succ, ite_self, Bool.false_eq_true, if_false, if_true]
  refine ⟨_, xs, rfl, e, by decide, ?_⟩
  try simp only [frz, params, List.zipWith, List.length_cons, List.length_nil, Nat.reduceAdd, Nat.reduceSub, List.replicate, List.append_nil, List.cons_append, List.nil_append, getV_va, Pt.sl, true_and, List.getElem?_cons_zero, List.getElem?_cons_succ, List.set_cons_zero, List.set_cons_succ, ite_self, Bool.false_eq_true, if_false, if_true]
  rw [g1_of, gLen_of (ds := xs) rfl]
  refine ⟨by omega, by omega, .inr (by rw [rgD_len]; show _ ≤ 16777216; omega), ?_⟩
  refine for_idx (fun n ρ => ∃ sl ds es p q, ρ = [Sl.va ⟨.strm, D.strm.imm, some v⟩, .va ⟨a, a.imm, some v2⟩, sl, .ow (.lst es) p, .ow (.lst ds) q] ∧ es.length + n = xs.length ∧ ds.length = n ∧ (∀ y ∈ es, y ∈ xs) ∧ ∀ y ∈ ds, y ∈ xs) _ 0 _ ⟨.un, [], xs, _, _, rfl, rfl, rfl, fun y h => h, fun y h => nomatch h⟩ (fun i x hx ρ hI K kk => ?_) fun ρ hI => ?_
  · obtain ⟨sl, ds, es, p, q', rfl, h1, h2, h3, h4⟩ := hI
    have hlt : i < xs.length := by
      have := (List.getElem?_eq_some_iff.mp hx).1
      rw [rgD_len] at this
      omega
    have hB : BIG = 16777216 := rfl
    try simp only [frz, params, List.zipWith, List.length_cons, List.length_nil, Nat.reduceAdd, Nat.reduceSub, List.replicate, List.append_nil, List.cons_append, List.nil_append, getV_va, Pt.sl, true_and, List.getElem?_cons_zero, List.getElem?_cons_succ, List.set_cons_zero, List.set_cons_succ, ite_self, Bool.false_eq_true, if_false, if_true]
    refine ⟨by decide, ds, q', es, p, rfl, rfl, by omega, ?_⟩
    rw [g1_of, gLen_of (ds := es) rfl]
    refine gCall_of fun _ => ⟨(es.length : Int), rfl, by omega, by omega, fun j j0 j1 => ?_⟩
    have hj : j.toNat < es.length := by omega
    refine ⟨rfl, j.toNat, es[j.toNat], by simp; omega, by simp [hj], by omega, kk _ ⟨_, _, _, _, _, rfl, ?_, ?_, ?_, ?_⟩⟩
    · rw [List.length_eraseIdx_of_lt hj]
      omega
    · rw [List.length_append]
      simp
      omega
    · exact fun y hy => h3 y (List.mem_of_mem_eraseIdx hy)
    · intro y hy
      rcases List.mem_append.mp hy with hy | hy
      · exact h4 y hy
      · simp at hy
        rw [hy]; exact h3 _ (List.getElem_mem hj)
  · obtain ⟨sl, ds, es, p, q', rfl, h1, h2, h3, h4⟩ := hI
    rw [rgD_len] at h1 h2
    try simp only [frz, params, List.zipWith, List.length_cons, List.length_nil, Nat.reduceAdd, Nat.reduceSub, List.replicate, List.append_nil, List.cons_append, List.nil_append, getV_va, Pt.sl, true_and, List.getElem?_cons_zero, List.getElem?_cons_succ, List.set_cons_zero, List.set_cons_succ, ite_self, Bool.false_eq_true, if_false, if_true]
    exact q ds _ (by omega) h4

theorem sc__law_same : FnScope ["found", "due", "mine", "theirs"] ["found", "due"] (defScope s__law_same) := ⟨rfl, rfl, rfl, by decide +kernel, rfl, by decide +kernel, by decide +kernel⟩
def c__law_same (k : Nat) : DC := fun ds _ _ Q => ∃ x, ds = [x, x] ∧ x.good = true ∧ x.smp = true ∧ x.rnk < k ∧ Q ⟨.bl true, true, none⟩
theorem ok__law_same (T : Txt K mg) : ∀ k, FnD P w K mg base (k + 1) T.f__law_same.f T.f__law_same.fd ["found", "due"] (cost0 k) (c__law_same k)
  | 0 => fnd_none (fun ds vs XQ Q ⟨_, _, _, _, h, _⟩ => by omega)
  | k + 1 => by
    have IH := ok__law_same T k
    refine fn_ok T.f__law_same.ok sc__law_same fun cdv A outer s H E hr => ⟨_, _, (dss_cons (ds_if [] (dt_val (de_isiT (tys_ok2 ty_list ty_tuple) (de_var (pv 1)) (pa_tyCons (T := "list") (by rfl) T.n_list (by decide +kernel) (pa_tyCons (T := "tuple") (by rfl) T.n_tuple (by decide +kernel) pa_tyNil)) (by rfl) T.n_isinstance (by decide +kernel))) (dss_cons (ds_if [] (DW.dt (dw_or (dt_cmp (dop_ne hr.units) (de_isi (T := "list") ty_list (de_var (pv 0)) (by rfl) T.n_isinstance (by decide +kernel) (by rfl) T.n_list (by decide +kernel)) (de_isi (T := "list") ty_list (de_var (pv 1)) (by rfl) T.n_isinstance (by decide +kernel) (by rfl) T.n_list (by decide +kernel)) (nomark _)) (dw_or1 (dt_cmp (dop_ne hr.units) (de_isi (T := "tuple") ty_tuple (de_var (pv 0)) (by rfl) T.n_isinstance (by decide +kernel) (by rfl) T.n_tuple (by decide +kernel)) (de_isi (T := "tuple") ty_tuple (de_var (pv 1)) (by rfl) T.n_isinstance (by decide +kernel) (by rfl) T.n_tuple (by decide +kernel)) (nomark _))))) (dss_one (ds_ret [] de_bl)) dss_nil)
      (dss_one (ds_ret [] (de_and (de_cmp (dop_eq hr.units) (de_callB dcl_len (by rfl) T.n_len (by decide +kernel) (da_cons (de_var (pv 0)) da_nil)) (de_callB dcl_len (by rfl) T.n_len (by decide +kernel) (da_cons (de_var (pv 1)) da_nil)) (nomark _)) (de_one (de_callB (dcl_all rfl) (by rfl) T.n_all (by decide +kernel) (da_cons (DN.de (dn_lc (own := [("mine", 2), ("theirs", 3)]) rfl sc__law_same.nd (di_zip (by rfl) T.n_zip (da_cons (de_var (pv 0)) (da_cons (de_var (pv 1)) da_nil))) (blkOk_by (N := ["found", "due", "mine", "theirs"]) (sc := defScope s__law_same) (by decide +kernel)) (fun _ _ _ _ _ => (dg_tup (n := 2) rfl (dgs_cons (dg_name (pg_name (i := 2) sc__law_same.nd rfl (Or.inl rfl))) (dgs_cons (dg_name (pg_name (i := 3) sc__law_same.nd rfl (Or.inl rfl))) dgs_nil)))) (fun _ _ _ _ _ => dts_nil) (fun _ _ _ _ _ => (de_call (IH) hr (by rfl) T.f__law_same.g T.f__law_same.ok.kp T.f__law_same.b passL rfl (da_cons (de_var (pv 2)) (da_cons (de_var (pv 3)) da_nil)))) (by decide))) da_nil))))))) dss_nil)
      (dss_cons (ds_if [] (dt_val (de_isi (T := "dict") ty_dict (de_var (pv 1)) (by rfl) T.n_isinstance (by decide +kernel) (by rfl) T.n_dict (by decide +kernel))) (dss_one (ds_ret [] (de_and (de_isi (T := "dict") ty_dict (de_var (pv 0)) (by rfl) T.n_isinstance (by decide +kernel) (by rfl) T.n_dict (by decide +kernel)) (de_one (de_call (IH) hr (by rfl) T.f__law_same.g T.f__law_same.ok.kp T.f__law_same.b (passE (takes_of rfl rfl rfl rfl)) rfl (da_cons (de_items rfl (by rfl) T.n_list (de_var (pv 0))) (da_cons (de_items rfl (by rfl) T.n_list (de_var (pv 1))) da_nil))))))) dss_nil)
      (dss_cons (ds_if [] (DW.dt (dw_or (dt_val (de_isi (T := "bool") ty_bool (de_var (pv 1)) (by rfl) T.n_isinstance (by decide +kernel) (by rfl) T.n_bool (by decide +kernel))) (dw_or1 (dt_val (de_isi (T := "bool") ty_bool (de_var (pv 0)) (by rfl) T.n_isinstance (by decide +kernel) (by rfl) T.n_bool (by decide +kernel)))))) (dss_one (ds_ret [] (de_and (de_isi (T := "bool") ty_bool (de_var (pv 1)) (by rfl) T.n_isinstance (by decide +kernel) (by rfl) T.n_bool (by decide +kernel)) (de_and (de_isi (T := "bool") ty_bool (de_var (pv 0)) (by rfl) T.n_isinstance (by decide +kernel) (by rfl) T.n_bool (by decide +kernel)) (de_one (de_cmp (dop_eq hr.units) (de_var (pv 0)) (de_var (pv 1)) (nomark _))))))) dss_nil)
      (dss_cons (ds_if [] (DW.dt (dw_or (dt_cmp dop_isN (de_var (pv 1)) de_non (nomark _)) (dw_or1 (dt_cmp dop_isN (de_var (pv 0)) de_non (nomark _))))) (dss_one (ds_ret [] (de_and (de_cmp dop_isN (de_var (pv 1)) de_non (nomark _)) (de_one (de_cmp dop_isN (de_var (pv 0)) de_non (nomark _)))))) dss_nil)
      (dss_cons (ds_if [] (DW.dt (dw_or (dt_cmp (dop_ne hr.units) (de_isi (T := "int") ty_int (de_var (pv 1)) (by rfl) T.n_isinstance (by decide +kernel) (by rfl) T.n_int (by decide +kernel)) (de_isi (T := "int") ty_int (de_var (pv 0)) (by rfl) T.n_isinstance (by decide +kernel) (by rfl) T.n_int (by decide +kernel)) (nomark _)) (dw_or1 (dt_cmp (dop_ne hr.units) (de_isi (T := "str") ty_str (de_var (pv 1)) (by rfl) T.n_isinstance (by decide +kernel) (by rfl) T.n_str (by decide +kernel)) (de_isi (T := "str") ty_str (de_var (pv 0)) (by rfl) T.n_isinstance (by decide +kernel) (by rfl) T.n_str (by decide +kernel)) (nomark _))))) (dss_one (ds_ret [] de_bl)) dss_nil)
      (dss_one (ds_ret [] (de_and (de_not (de_isiT (tys_ok3 ty_list ty_tuple ty_dict) (de_var (pv 0)) (pa_tyCons (T := "list") (by rfl) T.n_list (by decide +kernel) (pa_tyCons (T := "tuple") (by rfl) T.n_tuple (by decide +kernel) (pa_tyCons (T := "dict") (by rfl) T.n_dict (by decide +kernel) pa_tyNil))) (by rfl) T.n_isinstance (by decide +kernel))) (de_one (de_cmp (dop_eq hr.units) (de_var (pv 0)) (de_var (pv 1)) (nomark _))))))))))), ?c, fun ds vs XQ Q hd hv h => ?_⟩
    · show _ ≤ 0; simp [cost0]
    obtain ⟨x, rfl, hx, hsm, hd, q⟩ := h
    match vs, hv with
    | [v, v2], _ =>
    try simp only [frz, params, List.zipWith, List.length_cons, List.length_nil, Nat.reduceAdd, Nat.reduceSub, List.replicate, List.append_nil, List.cons_append, List.nil_append, getV_va, Pt.sl, true_and, List.getElem?_cons_zero, List.getElem?_cons_succ, List.set_cons_zero, List.set_cons_succ, ite_self, Bool.false_eq_true, if_false, if_true]
    have gt := good_ty hx
    refine ⟨gt, ?_⟩
    rw [isa_seq hx, bl_of]
    cases e : x.seq with
    | some xs =>
      obtain ⟨hgx, hgl⟩ := good_seq hx e
      rw [if_pos (by simp)]
      refine ⟨gt, gt, ?_⟩
      rw [gEq_bl, bl_of, if_neg (by simp)]
      refine ⟨gt, gt, ?_⟩
      rw [gEq_bl, bl_of, if_neg (by simp), g1_of, gLen_of e, g1_of, gLen_of e, gEq_int, bl_of, if_pos (by simp), gZip_seq (by exact e) (by cases x <;> first | (cases e; rfl) | (cases e; done))]
      rw [seq_rnk e] at hd
      rw [seq_smp e] at hsm
      refine ⟨by rw [zipD_len]; show _ ≤ 16777216; omega, all_go (fun _ => true) (fun y hy K1 K0 kk => ?_) (by rw [show ∀ l : List Dv, l.all (fun _ => true) = true from fun l => List.all_eq_true.mpr fun _ _ => rfl]; exact q)⟩
      try simp only [lcStep, true_and, wipeR, List.map_cons, List.map_nil, List.set_cons_succ, List.set_cons_zero, List.getElem?_cons_succ, List.getElem?_cons_zero, getV_va, if_true]
      obtain ⟨i, hi⟩ := List.getElem?_of_mem hy
      obtain ⟨a, b, h1, h2, rfl⟩ := zipD_get hi
      rw [h1] at h2
      cases h2
      have hm := List.mem_of_getElem? h1
      rw [unp_seq (by rfl)]
      refine ⟨rfl, rfl, ?_⟩
      try simp only [frz, params, List.zipWith, List.length_cons, List.length_nil, Nat.reduceAdd, Nat.reduceSub, List.replicate, List.append_nil, List.cons_append, List.nil_append, getV_va, Pt.sl, true_and, List.getElem?_cons_zero, List.getElem?_cons_succ, List.set_cons_zero, List.set_cons_succ, ite_self, Bool.false_eq_true, if_false, if_true]
      exact gCall_of fun _ => ⟨a, rfl, hgx a hm, smpL_mem hsm a hm, rnkL_mem (by omega) a hm, kk _⟩
    | none =>
      rw [if_neg (by simp)]
      by_cases hdc : ∃ kvs, x = .dct kvs
      · obtain ⟨kvs, rfl⟩ := hdc
        have ek : kvs = [] := by simpa [D.smp] using hsm
        subst ek
        exact ⟨gt, true, rfl, gt, true, rfl, [], rfl, (fun _ h => nomatch h), [], rfl, (fun _ h => nomatch h), gCall_of fun _ => ⟨.lst [], rfl, rfl, rfl, by simp [D.rnk] at hd; simp [D.rnk, D.rnkL]; omega, q⟩⟩
      · cases x <;> first | (cases e; done) | (cases hx; done) | (exact absurd ⟨_, rfl⟩ hdc) | skip
        all_goals
          refine ⟨gt, false, rfl, ?_⟩
          rw [if_neg (by decide)]
        · refine ⟨gt, false, rfl, ?_⟩
          rw [if_neg (by decide)]
          refine ⟨gt, false, rfl, ?_⟩
          rw [if_neg (by decide)]
          refine ⟨⟨true, rfl, ?_⟩, fun v z => nomatch z⟩
          rw [if_pos rfl]
          refine ⟨⟨true, rfl, ?_⟩, fun v z => nomatch z⟩
          rw [if_pos rfl]
          exact ⟨q, fun v z => nomatch z⟩
        · refine ⟨gt, true, rfl, ?_⟩
          rw [if_pos rfl]
          refine ⟨gt, true, rfl, ?_⟩
          rw [if_pos rfl]
          refine ⟨gt, true, rfl, ?_⟩
          rw [if_pos rfl, gEq_bl]
          simpa using q
        · skip
          refine ⟨gt, false, rfl, ?_⟩
          rw [if_neg (by decide)]
          refine ⟨gt, false, rfl, ?_⟩
          rw [if_neg (by decide)]
          refine ⟨⟨false, rfl, ?_⟩, fun v z => nomatch z⟩
          rw [if_neg (by decide)]
          refine ⟨⟨false, rfl, ?_⟩, fun v z => nomatch z⟩
          rw [if_neg (by decide)]
          refine ⟨gt, gt, ?_⟩
          rw [gEq_bl, bl_of, if_neg (by simp)]
          refine ⟨gt, gt, ?_⟩
          rw [gEq_bl, bl_of, if_neg (by simp)]
          refine ⟨gt, false, rfl, true, rfl, ?_⟩
          rw [if_pos rfl]
          rw [gEq_int]
          simpa using q
        · skip
          refine ⟨gt, false, rfl, ?_⟩
          rw [if_neg (by decide)]
          refine ⟨gt, false, rfl, ?_⟩
          rw [if_neg (by decide)]
          refine ⟨⟨false, rfl, ?_⟩, fun v z => nomatch z⟩
          rw [if_neg (by decide)]
          refine ⟨⟨false, rfl, ?_⟩, fun v z => nomatch z⟩
          rw [if_neg (by decide)]
          refine ⟨gt, gt, ?_⟩
          rw [gEq_bl, bl_of, if_neg (by simp)]
          refine ⟨gt, gt, ?_⟩
          rw [gEq_bl, bl_of, if_neg (by simp)]
          refine ⟨gt, false, rfl, true, rfl, ?_⟩
          rw [if_pos rfl]
          simp only [D.good, Bool.and_eq_true] at hx
          rw [gEq_str hx.1 hx.1]
          simpa using q

mutual
/-- the same with lists for tuples, or tuples for lists -/
inductive Loose : D → D → Prop
  | ll {xs ys : List D} : LooseL xs ys → Loose (.lst xs) (.lst ys)
  | lt {xs ys : List D} : LooseL xs ys → Loose (.lst xs) (.tup ys)
  | tl {xs ys : List D} : LooseL xs ys → Loose (.tup xs) (.lst ys)
  | tt {xs ys : List D} : LooseL xs ys → Loose (.tup xs) (.tup ys)
  | same {d : D} : d.seq = none → Loose d d
inductive LooseL : List D → List D → Prop
  | nil : LooseL [] []
  | cons {x y : D} {xs ys : List D} : Loose x y → LooseL xs ys → LooseL (x :: xs) (y :: ys)
end
theorem Loose.of_seq {x : D} {xs ys : List D} (e : x.seq = some xs) (h : LooseL xs ys) : Loose x (.lst ys) ∧ Loose x (.tup ys) := by
  cases x <;> first | (cases e; done) | (cases e; exact ⟨.ll h, .lt h⟩) | (cases e; exact ⟨.tl h, .tt h⟩)
theorem Loose.seq {x y : D} {xs : List D} (h : Loose x y) (e : x.seq = some xs) : ∃ ys, y.seq = some ys ∧ LooseL xs ys := by
  cases h with
  | ll h => cases e; exact ⟨_, rfl, h⟩
  | lt h => cases e; exact ⟨_, rfl, h⟩
  | tl h => cases e; exact ⟨_, rfl, h⟩
  | tt h => cases e; exact ⟨_, rfl, h⟩
  | same h => rw [h] at e; cases e
theorem Loose.none {x y : D} (h : Loose x y) (e : x.seq = none) : y = x := by
  cases h <;> first | (cases e; done) | rfl
theorem looseL_app : ∀ {xs ys us vs : List D}, LooseL xs ys → LooseL us vs → LooseL (xs ++ us) (ys ++ vs)
  | _, _, _, _, .nil, h => h
  | _, _, _, _, .cons a t, h => .cons a (looseL_app t h)
theorem sc__law_loose : FnScope ["stream", "thing", "some", "one"] ["stream", "thing"] (defScope s__law_loose) := ⟨rfl, rfl, rfl, by decide +kernel, rfl, by decide +kernel, by decide +kernel⟩
def c__law_loose (k : Nat) : DC := fun ds _ _ Q => ∃ x, ds = [.strm, x] ∧ x.good = true ∧ x.rnk < k ∧ ∀ y n, Loose x y → Q ⟨y, n, none⟩
theorem ok__law_loose (T : Txt K mg) : ∀ k, FnD P w K mg base (k + 2) T.f__law_loose.f T.f__law_loose.fd ["stream", "thing"] (costL k) (c__law_loose k)
  | 0 => fnd_none (fun ds vs XQ Q ⟨_, _, _, h, _⟩ => by omega)
  | k + 1 => by
    have IH := ok__law_loose T k
    refine fn_ok T.f__law_loose.ok sc__law_loose fun cdv A outer s H E hr => ⟨_, _, (dss_cons (ds_if [] (dt_val (de_isiT (tys_ok2 ty_list ty_tuple) (de_var (pv 1)) (pa_tyCons (T := "list") (by rfl) T.n_list (by decide +kernel) (pa_tyCons (T := "tuple") (by rfl) T.n_tuple (by decide +kernel) pa_tyNil)) (by rfl) T.n_isinstance (by decide +kernel))) (dss_cons (ds_setLc (i := 2) (own := [("one", 3)]) [] rfl sc__law_loose.nd rfl rfl (sw_true rfl rfl rfl (by decide +kernel)) (di_seq (de_var (pv 1))) (blkOk_by (N := ["stream", "thing", "some", "one"]) (sc := defScope s__law_loose) (by decide +kernel)) (fun _ _ _ _ _ => (dg_name (pg_name (i := 3) sc__law_loose.nd rfl (Or.inl rfl)))) (fun _ _ _ _ _ => dts_nil) (fun _ _ _ _ _ => (de_call (IH) hr (by rfl) T.f__law_loose.g T.f__law_loose.ok.kp T.f__law_loose.b passL rfl (da_cons (de_var (pv 0)) (da_cons (de_var (pv 3)) da_nil)))) (by decide))
      (dss_one (ds_ret [] (de_if (dt_cmp (dop_eq hr.units) (de_call ((ok__law_draw T).mono (by omega)) hr (by rfl) T.f__law_draw.g T.f__law_draw.ok.kp T.f__law_draw.b (passE (takes_of rfl rfl rfl rfl)) rfl (da_cons (de_var (pv 0)) (da_cons de_int da_nil))) de_int (nomark _)) (de_var (pv 2)) (de_callTy dcl_tuple (by rfl) T.n_tuple (by decide +kernel) (da_cons (de_var (pv 2)) da_nil)))))) dss_nil)
      (dss_one (ds_ret [] (de_var (pv 1))))), ?c, fun ds vs XQ Q hd hv h => ?_⟩
    · show _ ≤ BIG * costL k + 10
      simp only [BIG]
      omega
    obtain ⟨x, rfl, hx, hd, q⟩ := h
    match vs, hv with
    | [v, v2], _ =>
    try simp only [frz, params, List.zipWith, List.length_cons, List.length_nil, Nat.reduceAdd, Nat.reduceSub, List.replicate, List.append_nil, List.cons_append, List.nil_append, getV_va, Pt.sl, true_and, List.getElem?_cons_zero, List.getElem?_cons_succ, List.set_cons_zero, List.set_cons_succ, ite_self, Bool.false_eq_true, if_false, if_true]
    have gt := good_ty hx
    refine ⟨gt, ?_⟩
    rw [isa_seq hx, bl_of]
    cases e : x.seq with
    | none =>
      rw [if_neg (by simp)]
      exact q x _ (.same e)
    | some xs =>
      rw [if_pos (by simp), items_seq (by exact e)]
      obtain ⟨hgx, hgl⟩ := good_seq hx e
      rw [seq_rnk e] at hd
      refine ⟨by rw [List.length_map]; show _ ≤ 16777216; omega, ?_⟩
      refine lc_rel0 (fun x d => Loose x.d d) (fun y hy K1 K0 kk => ?_) fun ys m hp => ?_
      · try simp only [lcStep, true_and, wipeR, List.map_cons, List.map_nil, List.set_cons_succ, List.set_cons_zero, List.getElem?_cons_succ, List.getElem?_cons_zero, getV_va, if_true]
        obtain ⟨z, hz, rfl⟩ := List.mem_map.mp hy
        exact gCall_of fun _ => ⟨z, rfl, hgx z hz, rnkL_mem (by omega) z hz, fun y n r => kk _ _ _ r⟩
      · have hp' : LooseL xs ys := by
          clear hgx hgl hd q e
          generalize Dv.fr ⟨x, x.imm, some v2⟩ = fl at hp
          induction xs generalizing ys with
          | nil => cases hp; exact .nil
          | cons a xs ih =>
            cases hp with
            | cons r t => exact .cons r (ih _ t)
        obtain ⟨o1, o2⟩ := Loose.of_seq e hp'
        refine gCall_of fun _ => ⟨2, rfl, by decide, by decide, fun j j0 j1 => ?_⟩
        dsimp only
        rw [gEq_int, bl_of]
        by_cases hj : j = 0
        · rw [if_pos (by simp [hj])]
          exact q _ _ o1
        · rw [if_neg (by simp [hj])]
          exact g1_tup (l := ys) rfl (q _ _ o2)

/-- a drawn numbering -/
structure Num where
  s : Int
  w : Int
  k : Int
  p : Int
  u : Int
def Num.d (n : Num) : D := .tup [.int n.s, .int n.w, .int n.k, .int n.p, .int n.u]
structure Num.Ok (n : Num) : Prop where
  s0 : 2 ≤ n.s
  s1 : n.s ≤ 20
  w0 : 1 ≤ n.w
  w1 : n.w ≤ 10
  k0 : 1 ≤ n.k
  k1 : n.k ≤ n.w
  k2 : n.k ≤ 2
  p0 : 0 ≤ n.p
  p1 : n.p ≤ 1
  u0 : 1 ≤ n.u
  u1 : n.u ≤ 2
theorem sc__law_numbering : FnScope ["stream", "most", "window", "least", "kept", "passed", "under"] ["stream", "most"] (defScope s__law_numbering) := ⟨rfl, rfl, rfl, by decide +kernel, rfl, by decide +kernel, by decide +kernel⟩
def c__law_numbering : DC := fun ds _ _ Q => ∃ m : Int, ds = [.strm, .int m] ∧ 0 < m ∧ m ≤ 10 ∧ ∀ n : Num, n.Ok → ∀ f, Q ⟨n.d, f, none⟩
theorem ok__law_numbering (T : Txt K mg) : FnD P w K mg base 3 T.f__law_numbering.f T.f__law_numbering.fd ["stream", "most"] 10 c__law_numbering := by
  refine fn_ok T.f__law_numbering.ok sc__law_numbering fun cdv A outer s H E hr => ⟨_, _, (dss_cons (ds_asg [] (de_op dop_add de_int (de_call ((ok__law_draw T).mono (by decide)) hr (by rfl) T.f__law_draw.g T.f__law_draw.ok.kp T.f__law_draw.b (passE (takes_of rfl rfl rfl rfl)) rfl (da_cons (de_var (pv 0)) (da_cons (de_var (pv 1)) da_nil)))) (dg_name (pg_name (i := 2) sc__law_numbering.nd rfl (Or.inl rfl))) (fun _ _ a b => ps_asg a b))
      (dss_cons (ds_par3 (i := 4) (j := 5) (m := 6) [] (dp_va (de_op dop_add de_int (de_call ((ok__law_draw T).mono (by decide)) hr (by rfl) T.f__law_draw.g T.f__law_draw.ok.kp T.f__law_draw.b (passE (takes_of rfl rfl rfl rfl)) rfl (da_cons (de_var (pv 0)) (da_cons (de_callB (dcl_min2 rfl) (by rfl) T.n_min (by decide +kernel) (da_cons (de_var (pv 2)) (da_cons de_int da_nil))) da_nil))))) (dp_va (de_call ((ok__law_draw T).mono (by decide)) hr (by rfl) T.f__law_draw.g T.f__law_draw.ok.kp T.f__law_draw.b (passE (takes_of rfl rfl rfl rfl)) rfl (da_cons (de_var (pv 0)) (da_cons de_int da_nil)))) (dp_va (de_op dop_add de_int (de_call ((ok__law_draw T).mono (by decide)) hr (by rfl) T.f__law_draw.g T.f__law_draw.ok.kp T.f__law_draw.b (passE (takes_of rfl rfl rfl rfl)) rfl (da_cons (de_var (pv 0)) (da_cons de_int da_nil))))) rfl sc__law_numbering.nd rfl rfl rfl (by decide) (by decide) (by decide) (by rfl) (by rfl) (by rfl) (by rfl))
      (dss_cons (ds_asg [] (de_op dop_add (de_op dop_add (de_var (pv 2)) (de_var (pv 4))) (de_if (dt_cmp dop_gt (de_var (pv 6)) de_int (nomark _)) (de_var (pv 5)) de_int)) (dg_name (pg_name (i := 3) sc__law_numbering.nd rfl (Or.inl rfl))) (fun _ _ a b => ps_asg a b))
      (dss_one (ds_ret [] (de_tup (da_cons (de_callB (dcl_max2 rfl) (by rfl) T.n_max (by decide +kernel) (da_cons de_int (da_cons (de_op dop_add (de_var (pv 3)) (de_call ((ok__law_pick T).mono (by decide)) hr (by rfl) T.f__law_pick.g T.f__law_pick.ok.kp T.f__law_pick.b (passE (takes_of rfl rfl rfl rfl)) rfl (da_cons (de_var (pv 0)) (da_cons (de_lst (da_cons (de_neg de_int) (da_cons (de_neg de_int) (da_cons (de_neg de_int) (da_cons de_int (da_cons de_int (da_cons de_int (da_cons de_int da_nil)))))))) da_nil)))) da_nil))) (da_cons (de_var (pv 2)) (da_cons (de_var (pv 4)) (da_cons (de_var (pv 5)) (da_cons (de_var (pv 6)) da_nil))))))))))), by decide +kernel, fun ds vs XQ Q hd hv h => ?_⟩
  obtain ⟨m, rfl, m0, m1, q⟩ := h
  match vs, hv with
  | [v, v2], _ =>
  try simp only [frz, params, List.zipWith, List.length_cons, List.length_nil, Nat.reduceAdd, Nat.reduceSub, List.replicate, List.append_nil, List.cons_append, List.nil_append, getV_va, Pt.sl, true_and, List.getElem?_cons_zero, List.getElem?_cons_succ, List.set_cons_zero, List.set_cons_succ, ite_self, Bool.false_eq_true, if_false, if_true]
  refine gCall_of fun _ => ⟨m, rfl, m0, by omega, fun a a0 a1 => ?_⟩
  dsimp only
  rw [gAdd_int, g2I_int]
  have hmin : 0 < (if (2 : Int) < 1 + a then 2 else 1 + a) ∧ (if (2 : Int) < 1 + a then 2 else 1 + a) ≤ 2 ∧ (if (2 : Int) < 1 + a then 2 else 1 + a) ≤ 1 + a := by split <;> omega
  generalize (if (2 : Int) < 1 + a then 2 else 1 + a) = mn at hmin
  refine gCall_of fun _ => ⟨mn, rfl, hmin.1, by omega, fun b b0 b1 => ?_⟩
  dsimp only
  rw [gAdd_int]
  refine gCall_of fun _ => ⟨2, rfl, by decide, by decide, fun p p0 p1 => ?_⟩
  dsimp only
  refine gCall_of fun _ => ⟨2, rfl, by decide, by decide, fun u u0 u1 => ?_⟩
  dsimp only
  simp only [gAdd_int, gI_of, bl_of, true_and]
  have fin : ∀ l : Int, l ≤ 14 → ∀ c : D, c ∈ [D.int (-2), .int (-1), .int (-1), .int 0, .int 0, .int 1, .int 3] → ∀ n, gAdd ⟨.int l, true, none⟩ ⟨c, n, none⟩ fun x => g2I (fun i j => if j > i then j else i) [⟨.int 2, true, some (.int 2)⟩, x] fun x => 5 ≤ 1000 ∧ Q ⟨.tup (List.map (fun x : Dv => x.d) [x, ⟨.int (1 + a), true, none⟩, ⟨.int (1 + b), true, none⟩, ⟨.int p, true, none⟩, ⟨.int (1 + u), true, none⟩]), allFr [x, ⟨.int (1 + a), true, none⟩, ⟨.int (1 + b), true, none⟩, ⟨.int p, true, none⟩, ⟨.int (1 + u), true, none⟩], none⟩ := fun l hl c hc n => by
    have : ∃ i : Int, c = .int i ∧ -2 ≤ i ∧ i ≤ 3 := by
      simp only [List.mem_cons, List.not_mem_nil, or_false] at hc
      rcases hc with rfl | rfl | rfl | rfl | rfl | rfl | rfl <;> exact ⟨_, rfl, by decide, by decide⟩
    obtain ⟨i, rfl, i0, i1⟩ := this
    rw [gAdd_int, g2I_int]
    have hs : 2 ≤ (if l + i > 2 then l + i else 2) ∧ (if l + i > 2 then l + i else 2) ≤ 20 := by split <;> omega
    exact ⟨by decide, q ⟨_, 1 + a, 1 + b, p, 1 + u⟩ ⟨hs.1, hs.2, by show 1 ≤ 1 + a; omega, by show 1 + a ≤ 10; omega, by show 1 ≤ 1 + b; omega, by show 1 + b ≤ 1 + a; omega, by show 1 + b ≤ 2; omega, p0, by show p ≤ 1; omega, by show 1 ≤ 1 + u; omega, by show 1 + u ≤ 2; omega⟩ _⟩
  by_cases hu : 1 < 1 + u
  · rw [if_pos (by simpa using hu)]
    exact ⟨by decide, gCall_of fun _ => ⟨_, _, rfl, rfl, by simp, by simp, fun c hc n => fin _ (by omega) c hc n⟩⟩
  · rw [if_neg (by simpa using hu)]
    exact ⟨by decide, gCall_of fun _ => ⟨_, _, rfl, rfl, by simp, by simp, fun c hc n => fin _ (by omega) c hc n⟩⟩

/-- a state behind some steps -/
structure St where
  ah : Int
  hs : List Int
  rs : List (Int × Int)
  ts : List Int
def rideD (r : Int × Int) : D := .tup [.int r.1, .int r.2]
def St.d (s : St) : D := .tup [.int s.ah, .tup (s.hs.map D.int), .tup (s.rs.map rideD), .tup (s.ts.map D.int)]
/-- small behind n steps -/
structure St.Ok (s : St) (n : Int) : Prop where
  n0 : 0 ≤ n
  a0 : -(100 * n) ≤ s.ah
  a1 : s.ah ≤ 100 * n
  h0 : ∀ i ∈ s.hs, 1 ≤ i ∧ i ≤ 2
  h1 : (s.hs.length : Int) ≤ n
  r0 : ∀ r ∈ s.rs, -(100 * n) ≤ r.1 ∧ r.1 ≤ 100 * n + 10 ∧ 0 ≤ r.2 ∧ r.2 ≤ n
  r1 : (s.rs.length : Int) ≤ n
  t0 : ∀ i ∈ s.ts, -(100 * n) ≤ i ∧ i ≤ 100 * n
  t1 : s.ts.length ≤ 1
theorem sc__law_place : FnScope ["numbering", "state", "letter", "place", "ahead", "has"] ["numbering", "state", "letter"] (defScope s__law_place) := ⟨rfl, rfl, rfl, by decide +kernel, rfl, by decide +kernel, by decide +kernel⟩
def c__law_place : DC := fun ds _ _ Q => ∃ (n : Num) (s : St) (l : Int), ds = [n.d, s.d, .int l] ∧ n.Ok ∧ (∀ f, Q ⟨.non, f, none⟩) ∧ ∀ p : Int, 0 ≤ p → p < n.k → ∀ f, Q ⟨.int p, f, none⟩
theorem ok__law_place (T : Txt K mg) : FnD P w K mg base 1 T.f__law_place.f T.f__law_place.fd ["numbering", "state", "letter"] 0 c__law_place := by
  refine fn_ok T.f__law_place.ok sc__law_place fun cdv A outer s H E hr => ⟨_, _, (dss_cons (ds_par2 (i := 4) (j := 5) [] (dp_va (de_ix (de_var (pv 1)) de_int (fun _ _ => rfl))) (dp_va (de_ix (de_var (pv 1)) de_int (fun _ _ => rfl))) rfl sc__law_place.nd rfl rfl (by decide) (by rfl) (by rfl) (by rfl))
      (dss_cons (ds_for [] (passes_of rfl) rfl (di_range1 (by rfl) T.n_range (da_cons (de_ix (de_var (pv 0)) de_int (fun _ _ => rfl)) da_nil)) (dg_name (pg_name (i := 3) sc__law_place.nd rfl (Or.inl rfl)))
      (dss_one (ds_if [] (dt_cmp (dop_eq hr.units) (de_op dop_mod (de_callTy dcl_int (by rfl) T.n_int (by decide +kernel) (da_cons (de_op dop_sub (de_op dop_add (de_var (pv 4)) (de_var (pv 3))) (de_var (pv 2))) da_nil)) (de_ix (de_var (pv 0)) de_int (fun _ _ => rfl))) de_int (nomark _)) (dss_one (ds_ret [] (de_if (dt_cmp dop_in (de_var (pv 3)) (de_var (pv 5)) (by rfl)) de_non (de_var (pv 3))))) dss_nil)))
      (dss_one (ds_ret [] de_non)))), by decide +kernel, fun ds vs XQ Q hd hv h => ?_⟩
  obtain ⟨n, s, l, rfl, hn, q0, q1⟩ := h
  match vs, hv with
  | [v, v2, v3], _ =>
  try simp only [frz, params, List.zipWith, List.length_cons, List.length_nil, Nat.reduceAdd, Nat.reduceSub, List.replicate, List.append_nil, List.cons_append, List.nil_append, getV_va, Pt.sl, true_and, List.getElem?_cons_zero, List.getElem?_cons_succ, List.set_cons_zero, List.set_cons_succ, ite_self, Bool.false_eq_true, if_false, if_true]
  have sq : s.d.seq = some [.int s.ah, .tup (s.hs.map D.int), .tup (s.rs.map rideD), .tup (s.ts.map D.int)] := rfl
  have nq : n.d.seq = some [.int n.s, .int n.w, .int n.k, .int n.p, .int n.u] := rfl
  rw [gIx_of sq (show atI [D.int s.ah, .tup (s.hs.map D.int), .tup (s.rs.map rideD), .tup (s.ts.map D.int)] 0 = some (.int s.ah) from rfl), gIx_of sq (show atI [D.int s.ah, .tup (s.hs.map D.int), .tup (s.rs.map rideD), .tup (s.ts.map D.int)] 1 = some (.tup (s.hs.map D.int)) from rfl), gIx_of nq (show atI [D.int n.s, .int n.w, .int n.k, .int n.p, .int n.u] 2 = some (.int n.k) from rfl)]
  have hk1 := hn.k2
  have hk0 := hn.k0
  have hs0 := hn.s0
  refine ⟨by omega, by omega, .inl trivial, ?_⟩
  refine for_idx (fun _ ρ => ∃ sl, ρ = [Sl.va ⟨n.d, n.d.imm, some v⟩, .va ⟨s.d, s.d.imm, some v2⟩, .va ⟨.int l, (D.int l).imm, some v3⟩, sl, .va ⟨.int s.ah, Dv.fr ⟨s.d, s.d.imm, some v2⟩, none⟩, .va ⟨.tup (s.hs.map D.int), Dv.fr ⟨s.d, s.d.imm, some v2⟩, none⟩]) _ 0 _ ⟨_, rfl⟩ (fun i x hx ρ hI K kk => ?_) fun ρ hI => ?_
  · obtain ⟨sl, rfl⟩ := hI
    obtain ⟨hi, rfl⟩ := rgD_get hx
    try simp only [frz, params, List.zipWith, List.length_cons, List.length_nil, Nat.reduceAdd, Nat.reduceSub, List.replicate, List.append_nil, List.cons_append, List.nil_append, getV_va, Pt.sl, true_and, List.getElem?_cons_zero, List.getElem?_cons_succ, List.set_cons_zero, List.set_cons_succ, ite_self, Bool.false_eq_true, if_false, if_true]
    rw [gAdd_int, gI_of]
    refine ⟨trivial, ?_⟩
    rw [g1_of]
    dsimp only
    rw [gIx_of nq (show atI [D.int n.s, .int n.w, .int n.k, .int n.p, .int n.u] 0 = some (.int n.s) from rfl), gI_of]
    refine ⟨by omega, ?_⟩
    rw [gEq_int, bl_of]
    simp only [Bool.false_eq_true, if_false]
    split
    · rw [gIn_ints, bl_of]
      simp only [Bool.false_eq_true, if_false]
      split
      · exact q0 _
      · exact q1 _ (by omega) (by omega) _
    · exact kk _ ⟨_, rfl⟩
  · exact q0 _

theorem sc__law_steps : FnScope ["numbering", "state", "found", "at", "ahead", "has", "rides", "told", "one", "letter", "passes"] ["numbering", "state"] (defScope s__law_steps) := ⟨rfl, rfl, rfl, by decide +kernel, rfl, by decide +kernel, by decide +kernel⟩
/-- a step that is let -/
inductive OkStep (n : Num) (s : St) : D → Prop
  | back {t : Int} : s.ts = [t] → OkStep n s (.tup [.str "back"])
  | come {i : Nat} : i < s.rs.length → OkStep n s (.tup [.str "come", .int i])
  | lose {i : Nat} : i < s.rs.length → OkStep n s (.tup [.str "lose", .int i])
  | miss : OkStep n s (.tup [.str "miss"])
  | send {l : Int} : 0 ≤ l → l < n.w → OkStep n s (.tup [.str "send", .int l])
  | tell : OkStep n s (.tup [.str "tell"])
def c__law_steps : DC := fun ds _ _ Q => ∃ (n : Num) (s : St) (m : Int), ds = [n.d, s.d] ∧ n.Ok ∧ s.Ok m ∧ m ≤ 1000 ∧ ∀ xs, xs ≠ [] → xs.length ≤ 100000 → (∀ x ∈ xs, OkStep n s x) → ∀ f, Q ⟨.lst xs, f, none⟩
theorem ok__law_steps (T : Txt K mg) : FnD P w K mg base 1 T.f__law_steps.f T.f__law_steps.fd ["numbering", "state"] 0 c__law_steps := by
  refine fn_ok T.f__law_steps.ok sc__law_steps fun cdv A outer s H E hr => ⟨_, _, (dss_cons (ds_asg [] (de_var (pv 1)) (dg_tup (n := 4) rfl (dgs_cons (dg_name (pg_name (i := 4) sc__law_steps.nd rfl (Or.inl rfl))) (dgs_cons (dg_name (pg_name (i := 5) sc__law_steps.nd rfl (Or.inl rfl))) (dgs_cons (dg_name (pg_name (i := 6) sc__law_steps.nd rfl (Or.inl rfl))) (dgs_cons (dg_name (pg_name (i := 7) sc__law_steps.nd rfl (Or.inl rfl))) dgs_nil))))) (fun _ _ a b => ps_asg a b))
      (dss_cons (ds_setLcO (i := 2) (own := [("one", 8)]) [] rfl sc__law_steps.nd rfl rfl (sw_true rfl rfl rfl (by decide +kernel)) (di_seq (de_var (pv 7))) (blkOk_by (N := ["numbering", "state", "found", "at", "ahead", "has", "rides", "told", "one", "letter", "passes"]) (sc := defScope s__law_steps) (by decide +kernel)) (fun _ _ _ _ _ => (dg_name (pg_name (i := 8) sc__law_steps.nd rfl (Or.inl rfl)))) (fun _ _ _ _ _ => dts_nil) (fun _ _ _ _ _ => (de_tup (da_cons de_str da_nil))) (by decide))
      (dss_cons (ds_for [] (passes_of rfl) rfl (di_range1 (by rfl) T.n_range (da_cons (de_callB dcl_len (by rfl) T.n_len (by decide +kernel) (da_cons (de_var (pv 6)) da_nil)) da_nil)) (dg_name (pg_name (i := 3) sc__law_steps.nd rfl (Or.inl rfl)))
      (dss_one (ds_extend [] (de_if (dt_val (de_callB (dcl_all rfl) (by rfl) T.n_all (by decide +kernel) (da_cons (DN.de (dn_lc (own := [("letter", 9), ("passes", 10)]) rfl sc__law_steps.nd (di_seq (de_slice (de_var (pv 6)) do_none (do_some (de_var (pv 3))))) (blkOk_by (N := ["numbering", "state", "found", "at", "ahead", "has", "rides", "told", "one", "letter", "passes"]) (sc := defScope s__law_steps) (by decide +kernel)) (fun _ _ _ _ _ => (dg_tup (n := 2) rfl (dgs_cons (dg_name (pg_name (i := 9) sc__law_steps.nd rfl (Or.inl rfl))) (dgs_cons (dg_name (pg_name (i := 10) sc__law_steps.nd rfl (Or.inl rfl))) dgs_nil)))) (fun _ _ _ _ _ => dts_nil) (fun _ _ _ _ _ => (de_cmp dop_lt (de_var (pv 10)) (de_ix (de_var (pv 0)) de_int (fun _ _ => rfl)) (nomark _))) (by decide))) da_nil))) (de_lst (da_cons (de_tup (da_cons de_str (da_cons (de_var (pv 3)) da_nil))) da_nil)) (de_lst da_nil)) (fun _ a => ps_expr (pe_bm PySem.F.plainAttrs_list PySem.F.slot_list_extend PySem.F.type_list_extend mt_extend (pv 2) (pa_cons a pa_nil))))))
      (dss_cons (ds_extend [] (de_op dop_add (DN.de (dn_lc (own := [("at", 3)]) rfl sc__law_steps.nd (di_range1 (by rfl) T.n_range (da_cons (de_callB dcl_len (by rfl) T.n_len (by decide +kernel) (da_cons (de_var (pv 6)) da_nil)) da_nil)) (blkOk_by (N := ["numbering", "state", "found", "at", "ahead", "has", "rides", "told", "one", "letter", "passes"]) (sc := defScope s__law_steps) (by decide +kernel)) (fun _ _ _ _ _ => (dg_name (pg_name (i := 3) sc__law_steps.nd rfl (Or.inl rfl)))) (fun _ _ _ _ _ => dts_nil) (fun _ _ _ _ _ => (de_tup (da_cons de_str (da_cons (de_var (pv 3)) da_nil)))) (by decide))) (DN.de (dn_lc (own := [("one", 8)]) rfl sc__law_steps.nd (di_seq (de_var (pv 7))) (blkOk_by (N := ["numbering", "state", "found", "at", "ahead", "has", "rides", "told", "one", "letter", "passes"]) (sc := defScope s__law_steps) (by decide +kernel)) (fun _ _ _ _ _ => (dg_name (pg_name (i := 8) sc__law_steps.nd rfl (Or.inl rfl)))) (fun _ _ _ _ _ => dts_nil) (fun _ _ _ _ _ => (de_tup (da_cons de_str da_nil))) (by decide)))) (fun _ a => ps_expr (pe_bm PySem.F.plainAttrs_list PySem.F.slot_list_extend PySem.F.type_list_extend mt_extend (pv 2) (pa_cons a pa_nil))))
      (dss_cons (ds_extend [] (DN.de (dn_lc (own := [("letter", 9)]) rfl sc__law_steps.nd (di_range1 (by rfl) T.n_range (da_cons (de_if (dt_cmp dop_lt (de_callB dcl_len (by rfl) T.n_len (by decide +kernel) (da_cons (de_var (pv 6)) da_nil)) (de_ix (de_var (pv 0)) de_int (fun _ _ => rfl)) (nomark _)) (de_ix (de_var (pv 0)) de_int (fun _ _ => rfl)) de_int) da_nil)) (blkOk_by (N := ["numbering", "state", "found", "at", "ahead", "has", "rides", "told", "one", "letter", "passes"]) (sc := defScope s__law_steps) (by decide +kernel)) (fun _ _ _ _ _ => (dg_name (pg_name (i := 9) sc__law_steps.nd rfl (Or.inl rfl)))) (fun _ _ _ _ _ => dts_nil) (fun _ _ _ _ _ => (de_tup (da_cons de_str (da_cons (de_var (pv 9)) da_nil)))) (by decide))) (fun _ a => ps_expr (pe_bm PySem.F.plainAttrs_list PySem.F.slot_list_extend PySem.F.type_list_extend mt_extend (pv 2) (pa_cons a pa_nil))))
      (dss_one (ds_ret [2] (de_op dop_add (de_var (pv 2)) (de_if (dt_cmp (dop_eq hr.units) (de_var (pv 7)) (de_tup da_nil) (nomark _)) (de_lst (da_cons (de_tup (da_cons de_str da_nil)) da_nil)) (de_lst da_nil)))))))))), by decide +kernel, fun ds vs XQ Q hd hv h => ?_⟩
  obtain ⟨n, s, m, rfl, hn, hs, hm, q⟩ := h
  match vs, hv with
  | [v, v2], _ =>
  try simp only [frz, params, List.zipWith, List.length_cons, List.length_nil, Nat.reduceAdd, Nat.reduceSub, List.replicate, List.append_nil, List.cons_append, List.nil_append, getV_va, Pt.sl, true_and, List.getElem?_cons_zero, List.getElem?_cons_succ, List.set_cons_zero, List.set_cons_succ, ite_self, Bool.false_eq_true, if_false, if_true]
  have sq : s.d.seq = some [.int s.ah, .tup (s.hs.map D.int), .tup (s.rs.map rideD), .tup (s.ts.map D.int)] := rfl
  have nq : n.d.seq = some [.int n.s, .int n.w, .int n.k, .int n.p, .int n.u] := rfl
  have hB : BIG = 16777216 := rfl
  have hrl := hs.r1
  have htl := hs.t1
  have hw1 := hn.w1
  have hw0 := hn.w0
  rw [unp_seq (by exact sq)]
  refine ⟨rfl, rfl, ?_⟩
  try simp only [frz, params, List.zipWith, List.length_cons, List.length_nil, Nat.reduceAdd, Nat.reduceSub, List.replicate, List.append_nil, List.cons_append, List.nil_append, getV_va, Pt.sl, true_and, List.getElem?_cons_zero, List.getElem?_cons_succ, List.set_cons_zero, List.set_cons_succ, ite_self, Bool.false_eq_true, if_false, if_true]
  generalize Dv.fr ⟨s.d, s.d.imm, some v2⟩ = fs
  rw [items_seq (ds := s.ts.map D.int) (by rfl)]
  refine ⟨by simp only [List.length_map]; omega, lc_map (fun _ => .tup [.str "back"]) (fun x hx2 K1 K0 kk => ?_) fun f1 => ?_⟩
  · try simp only [lcStep, true_and, wipeR, List.map_cons, List.map_nil, List.set_cons_succ, List.set_cons_zero, List.getElem?_cons_succ, List.getElem?_cons_zero, getV_va, if_true]
    exact ⟨by decide, kk _ _⟩
  try simp only [frz, params, List.zipWith, List.length_cons, List.length_nil, Nat.reduceAdd, Nat.reduceSub, List.replicate, List.append_nil, List.cons_append, List.nil_append, getV_va, Pt.sl, true_and, List.getElem?_cons_zero, List.getElem?_cons_succ, List.set_cons_zero, List.set_cons_succ, ite_self, Bool.false_eq_true, if_false, if_true]
  rw [g1_of, gLen_of (ds := s.rs.map rideD) (by rfl)]
  dsimp only
  refine ⟨by rw [List.length_map]; omega, by rw [List.length_map]; omega, .inl rfl, ?_⟩
  have one : ∀ {t : Int}, t ∈ s.ts → s.ts = [t] := fun {t} ht => by
    match e : s.ts, ht, htl with
    | [a], ht, _ => simp at ht; rw [ht]
  refine for_idx (fun i ρ => ∃ xs f sl, ρ = [Sl.va ⟨n.d, n.d.imm, some v⟩, .va ⟨s.d, s.d.imm, some v2⟩, .ow (.lst xs) f, sl, .va ⟨.int s.ah, fs, none⟩, .va ⟨.tup (s.hs.map D.int), fs, none⟩, .va ⟨.tup (s.rs.map rideD), fs, none⟩, .va ⟨.tup (s.ts.map D.int), fs, none⟩, .un, .un, .un] ∧ xs.length ≤ 1 + i ∧ (∀ x ∈ xs, OkStep n s x) ∧ (s.ts ≠ [] → xs ≠ [])) _ 0 _ ⟨_, _, _, rfl, ?_, ?_, ?_⟩ (fun i x hx ρ hI K kk => ?_) fun ρ hI => ?_
  · simp only [List.length_map]; omega
  · intro x hx
    simp only [List.mem_map] at hx
    obtain ⟨_, ⟨_, ⟨t, ht, _⟩, _⟩, rfl⟩ := hx
    exact .back (one ht)
  · intro hne h
    simp at h
    exact hne h
  · obtain ⟨xs, f, sl, rfl, h1, h2, h3⟩ := hI
    obtain ⟨hi, rfl⟩ := rgD_get hx
    have hi2 : i < s.rs.length := by simpa using hi
    try simp only [frz, params, List.zipWith, List.length_cons, List.length_nil, Nat.reduceAdd, Nat.reduceSub, List.replicate, List.append_nil, List.cons_append, List.nil_append, getV_va, Pt.sl, true_and, List.getElem?_cons_zero, List.getElem?_cons_succ, List.set_cons_zero, List.set_cons_succ, ite_self, Bool.false_eq_true, if_false, if_true]
    refine ⟨⟨_, _, rfl⟩, _, rfl, ?_⟩
    rw [gSl_seq (ds := s.rs.map rideD) (by rfl), items_seq (ds := cutL (s.rs.map rideD) none (some (0 + (i : Int)))) (by rfl)]
    have hcl : ∀ y ∈ cutL (s.rs.map rideD) none (some (0 + (i : Int))), ∃ r, y = rideD r := fun y hy => by
      have := List.mem_of_mem_drop (List.mem_of_mem_take hy)
      obtain ⟨r, _, rfl⟩ := List.mem_map.mp this
      exact ⟨r, rfl⟩
    refine ⟨by rw [List.length_map]; exact Nat.le_trans (cutL_len _ _ _) (show (s.rs.map rideD).length ≤ BIG by rw [List.length_map]; omega), all_go (fun x => match x.d with | .tup [_, .int b] => decide (b < n.p) | _ => true) (fun x hx2 K1 K0 kk => ?_) ?_⟩
    · try simp only [lcStep, true_and, wipeR, List.map_cons, List.map_nil, List.set_cons_succ, List.set_cons_zero, List.getElem?_cons_succ, List.getElem?_cons_zero, getV_va, if_true]
      obtain ⟨y, hy, rfl⟩ := List.mem_map.mp hx2
      obtain ⟨r, rfl⟩ := hcl y hy
      rw [unp_seq (by rfl)]
      refine ⟨rfl, rfl, ?_⟩
      try simp only [frz, params, List.zipWith, List.length_cons, List.length_nil, Nat.reduceAdd, Nat.reduceSub, List.replicate, List.append_nil, List.cons_append, List.nil_append, getV_va, Pt.sl, true_and, List.getElem?_cons_zero, List.getElem?_cons_succ, List.set_cons_zero, List.set_cons_succ, ite_self, Bool.false_eq_true, if_false, if_true]
      rw [gIx_of nq (show atI [D.int n.s, .int n.w, .int n.k, .int n.p, .int n.u] 3 = some (.int n.p) from rfl), gI_of]
      exact ⟨trivial, kk _⟩
    · refine ⟨_, rfl, ?_⟩
      split
      · refine ⟨by decide, by decide, _, _, _, rfl, rfl, by simp; omega, kk _ ⟨_, _, _, rfl, by simp; omega, fun x hx => ?_, fun h => by simp⟩⟩
        rcases List.mem_append.mp hx with hx | hx
        · exact h2 x hx
        · simp at hx
          rw [hx]
          exact .come hi2
      · refine ⟨by decide, _, _, _, rfl, rfl, by simp; omega, kk _ ⟨_, _, _, rfl, by simp; omega, fun x hx => ?_, fun h => by simpa using h3 h⟩⟩
        simp at hx
        exact h2 x hx
  · obtain ⟨xs, f, sl, rfl, h1, h2, h3⟩ := hI
    rw [Nat.zero_add, rgD_len] at h1
    simp only [List.length_map] at h1
    try simp only [frz, params, List.zipWith, List.length_cons, List.length_nil, Nat.reduceAdd, Nat.reduceSub, List.replicate, List.append_nil, List.cons_append, List.nil_append, getV_va, Pt.sl, true_and, List.getElem?_cons_zero, List.getElem?_cons_succ, List.set_cons_zero, List.set_cons_succ, ite_self, Bool.false_eq_true, if_false, if_true]
    refine ⟨⟨_, _, rfl⟩, ?_⟩
    rw [g1_of, gLen_of (ds := s.rs.map rideD) (by rfl)]
    dsimp only
    refine ⟨by rw [List.length_map]; omega, by rw [List.length_map]; omega, by rw [rgD_len, List.length_map]; omega, lc_map (fun x => .tup [.str "lose", x.d]) (fun x hx2 K1 K0 kk => ?_) fun f2 => ?_⟩
    · try simp only [lcStep, true_and, wipeR, List.map_cons, List.map_nil, List.set_cons_succ, List.set_cons_zero, List.getElem?_cons_succ, List.getElem?_cons_zero, getV_va, if_true]
      exact ⟨by decide, kk _ _⟩
    rw [items_seq (ds := s.ts.map D.int) (by rfl)]
    refine ⟨by simp only [List.length_map]; omega, lc_map (fun _ => .tup [.str "miss"]) (fun x hx2 K1 K0 kk => ?_) fun f3 => ?_⟩
    · try simp only [lcStep, true_and, wipeR, List.map_cons, List.map_nil, List.set_cons_succ, List.set_cons_zero, List.getElem?_cons_succ, List.getElem?_cons_zero, getV_va, if_true]
      exact ⟨by decide, kk _ _⟩
    rw [gAdd_lst]
    have l2 : (List.map (fun x : Dv => D.tup [.str "lose", x.d]) (rgD 0 ((s.rs.map rideD).length : Int).toNat)).length = s.rs.length := by simp [rgD_len]
    have m2 : ∀ y ∈ List.map (fun x : Dv => D.tup [.str "lose", x.d]) (rgD 0 ((s.rs.map rideD).length : Int).toNat), OkStep n s y := fun y hy => by
      obtain ⟨x, hx, rfl⟩ := List.mem_map.mp hy
      obtain ⟨i, hi⟩ := List.getElem?_of_mem hx
      obtain ⟨i1, rfl⟩ := rgD_get hi
      have : i < s.rs.length := by simpa using i1
      simpa using OkStep.lose (n := n) this
    have l3 : ∀ {fl : Bool}, (List.map (fun _ : Dv => D.tup [.str "miss"]) ((s.ts.map D.int).map fun d => (⟨d, fl, none⟩ : Dv))).length = s.ts.length := by simp
    have m3 : ∀ {fl : Bool}, ∀ y ∈ List.map (fun _ : Dv => D.tup [.str "miss"]) ((s.ts.map D.int).map fun d => (⟨d, fl, none⟩ : Dv)), OkStep n s y := fun y hy => by
      obtain ⟨x, hx, rfl⟩ := List.mem_map.mp hy
      exact .miss
    generalize List.map (fun x : Dv => D.tup [.str "lose", x.d]) (rgD 0 ((s.rs.map rideD).length : Int).toNat) = los at l2 m2 ⊢
    generalize hmi : List.map (fun _ : Dv => D.tup [.str "miss"]) ((s.ts.map D.int).map fun d => (⟨d, Dv.fr ⟨.tup (s.ts.map D.int), fs, none⟩, none⟩ : Dv)) = mis
    have l3' : mis.length = s.ts.length := by rw [← hmi]; exact l3
    have m3' : ∀ y ∈ mis, OkStep n s y := by rw [← hmi]; exact m3
    clear hmi l3 m3
    refine ⟨by omega, _, _, _, rfl, rfl, by rw [List.length_append]; omega, ⟨_, _, rfl⟩, ?_⟩
    rw [g1_of, gLen_of (ds := s.rs.map rideD) (by rfl), gIx_of nq (show atI [D.int n.s, .int n.w, .int n.k, .int n.p, .int n.u] 4 = some (.int n.u) from rfl)]
    simp only [gI_of, bl_of, true_and]
    by_cases hu : ((s.rs.map rideD).length : Int) < n.u
    · rw [if_pos (by simpa using hu), gIx_of nq (show atI [D.int n.s, .int n.w, .int n.k, .int n.p, .int n.u] 1 = some (.int n.w) from rfl)]
      dsimp only
      refine ⟨by omega, by omega, by rw [rgD_len]; omega, lc_map (fun x => .tup [.str "send", x.d]) (fun x hx2 K1 K0 kk => ?_) fun f4 => ?_⟩
      · try simp only [lcStep, true_and, wipeR, List.map_cons, List.map_nil, List.set_cons_succ, List.set_cons_zero, List.getElem?_cons_succ, List.getElem?_cons_zero, getV_va, if_true]
        exact ⟨by decide, kk _ _⟩
      have ls : (List.map (fun x : Dv => D.tup [.str "send", x.d]) (rgD 0 n.w.toNat)).length ≤ 10 := by simp [rgD_len]; omega
      have ms : ∀ y ∈ List.map (fun x : Dv => D.tup [.str "send", x.d]) (rgD 0 n.w.toNat), OkStep n s y := fun y hy => by
        obtain ⟨x, hx, rfl⟩ := List.mem_map.mp hy
        obtain ⟨i, hi⟩ := List.getElem?_of_mem hx
        obtain ⟨i1, rfl⟩ := rgD_get hi
        exact .send (by omega) (by omega)
      generalize List.map (fun x : Dv => D.tup [.str "send", x.d]) (rgD 0 n.w.toNat) = sn at ls ms ⊢
      refine ⟨_, _, _, rfl, rfl, by rw [List.length_append, List.length_append]; omega, by decide, ?_⟩
      simp only [List.map_nil]
      rw [gEq_nil, bl_of]
      simp only [Bool.false_eq_true, if_false]
      have all : ∀ y ∈ xs ++ (los ++ mis) ++ sn, OkStep n s y := fun y hy => by
        simp only [List.mem_append] at hy
        rcases hy with (hy | hy | hy) | hy
        · exact h2 y hy
        · exact m2 y hy
        · exact m3' y hy
        · exact ms y hy
      split
      · refine ⟨by decide, by decide, ?_⟩
        rw [gAdd_lst]
        refine ⟨by simp only [List.length_append, List.length_map, List.length_cons, List.length_nil]; omega, q _ (by simp) (by simp only [List.length_append, List.length_map, List.length_cons, List.length_nil]; omega) (fun y hy => ?_) _⟩
        rcases List.mem_append.mp hy with hy | hy
        · exact all y hy
        · simp at hy
          rw [hy]; exact .tell
      · rename_i hte
        refine ⟨by decide, ?_⟩
        rw [gAdd_lst]
        refine ⟨by simp only [List.length_append, List.length_map, List.length_nil]; omega, q _ (fun z => ?_) (by simp only [List.length_append, List.length_map, List.length_nil]; omega) (fun y hy => ?_) _⟩
        · have hx := h3 (fun e => hte (by rw [e]; rfl))
          simp at z
          exact hx z.1
        · exact all y (by simpa using hy)
    · rw [if_neg (by simpa using hu)]
      refine ⟨by decide, by decide, by rw [rgD_len]; decide, lc_map (fun x => .tup [.str "send", x.d]) (fun x hx2 K1 K0 kk => ?_) fun f4 => ?_⟩
      · try simp only [lcStep, true_and, wipeR, List.map_cons, List.map_nil, List.set_cons_succ, List.set_cons_zero, List.getElem?_cons_succ, List.getElem?_cons_zero, getV_va, if_true]
        exact ⟨by decide, kk _ _⟩
      have ls : (List.map (fun x : Dv => D.tup [.str "send", x.d]) (rgD 0 (0 : Int).toNat)).length ≤ 10 := by simp [rgD_len]
      have ms : ∀ y ∈ List.map (fun x : Dv => D.tup [.str "send", x.d]) (rgD 0 (0 : Int).toNat), OkStep n s y := fun y hy => by
        simp [rgD] at hy
      generalize List.map (fun x : Dv => D.tup [.str "send", x.d]) (rgD 0 (0 : Int).toNat) = sn at ls ms ⊢
      refine ⟨_, _, _, rfl, rfl, by rw [List.length_append, List.length_append]; omega, by decide, ?_⟩
      simp only [List.map_nil]
      rw [gEq_nil, bl_of]
      simp only [Bool.false_eq_true, if_false]
      have all : ∀ y ∈ xs ++ (los ++ mis) ++ sn, OkStep n s y := fun y hy => by
        simp only [List.mem_append] at hy
        rcases hy with (hy | hy | hy) | hy
        · exact h2 y hy
        · exact m2 y hy
        · exact m3' y hy
        · exact ms y hy
      split
      · refine ⟨by decide, by decide, ?_⟩
        rw [gAdd_lst]
        refine ⟨by simp only [List.length_append, List.length_map, List.length_cons, List.length_nil]; omega, q _ (by simp) (by simp only [List.length_append, List.length_map, List.length_cons, List.length_nil]; omega) (fun y hy => ?_) _⟩
        rcases List.mem_append.mp hy with hy | hy
        · exact all y hy
        · simp at hy
          rw [hy]; exact .tell
      · rename_i hte
        refine ⟨by decide, ?_⟩
        rw [gAdd_lst]
        refine ⟨by simp only [List.length_append, List.length_map, List.length_nil]; omega, q _ (fun z => ?_) (by simp only [List.length_append, List.length_map, List.length_nil]; omega) (fun y hy => ?_) _⟩
        · have hx := h3 (fun e => hte (by rw [e]; rfl))
          simp at z
          exact hx z.1
        · exact all y (by simpa using hy)

end
end My

set_option Elab.async false
set_option linter.all false
set_option maxRecDepth 100000
set_option maxHeartbeats 4000000
set_option pp.maxSteps 800
namespace My
open PySem PySem.Spec PyProof.Rows L2 DL
section
variable {P : Program} {w : World} {K : PySem.W.Frag} {mg : Str → Option Value} {base : Heap}
theorem gIn_two {i a b : Str} {n n' : Bool} {v v' : Option V} {Q : Dv → Prop} : gIn false ⟨.str i, n, v⟩ ⟨.tup [.str a, .str b], n', v'⟩ Q = Q ⟨.bl (a == i || b == i), true, none⟩ := gIn_str2 (va := none) (vb := none) (na := true) (nb := true) (n' := true) (v' := v') (fl := n')
theorem cutL_map {α β : Type} (f : α → β) (xs : List α) (lo hi : Option Int) : cutL (xs.map f) lo hi = (cutL xs lo hi).map f := by
  unfold cutL
  rw [List.length_map, List.map_take, List.map_drop]
theorem cutL_lose {α : Type} (xs : List α) (i : Nat) (h : i < xs.length) : (cutL xs none (some (i : Int))).length + (cutL xs (some ((i : Int) + 1)) none).length < xs.length := by
  unfold cutL
  simp only [List.length_take, List.length_drop, HT.sIx]
  rw [if_neg (by omega), if_neg (by omega)]
  omega
theorem cutL_mem {α : Type} {xs : List α} {lo hi : Option Int} {x : α} (h : x ∈ cutL xs lo hi) : x ∈ xs := List.mem_of_mem_drop (List.mem_of_mem_take h)
theorem sc__law_behind : FnScope ["numbering", "state", "step", "at", "left", "more", "word", "less", "place", "letter", "ahead", "has", "rides", "told", "one", "passes"] ["numbering", "state", "step"] (defScope s__law_behind) := ⟨rfl, rfl, rfl, by decide +kernel, rfl, by decide +kernel, by decide +kernel⟩
def c__law_behind : DC := fun ds _ _ Q => ∃ (n : Num) (s : St) (m : Int) (x : D), ds = [n.d, s.d, x] ∧ n.Ok ∧ s.Ok m ∧ m ≤ 1000 ∧ OkStep n s x ∧ ∀ (s2 : St) b f, s2.Ok (m + 1) → Q ⟨.tup [s2.d, .bl b], f, none⟩
theorem ok__law_behind (T : Txt K mg) : FnD P w K mg base 2 T.f__law_behind.f T.f__law_behind.fd ["numbering", "state", "step"] 0 c__law_behind := by
  refine fn_ok T.f__law_behind.ok sc__law_behind fun cdv A outer s H E hr => ⟨_, _, (dss_cons (ds_asg [] (de_tup (da_cons (de_var (pv 1)) (da_cons (de_ix (de_var (pv 2)) de_int (fun _ _ => rfl)) da_nil))) (dg_tup (n := 2) rfl (dgs_cons (dg_tup (n := 4) rfl (dgs_cons (dg_name (pg_name (i := 10) sc__law_behind.nd rfl (Or.inl rfl))) (dgs_cons (dg_name (pg_name (i := 11) sc__law_behind.nd rfl (Or.inl rfl))) (dgs_cons (dg_name (pg_name (i := 12) sc__law_behind.nd rfl (Or.inl rfl))) (dgs_cons (dg_name (pg_name (i := 13) sc__law_behind.nd rfl (Or.inl rfl))) dgs_nil))))) (dgs_cons (dg_name (pg_name (i := 6) sc__law_behind.nd rfl (Or.inl rfl))) dgs_nil))) (fun _ _ a b => ps_asg a b))
      (dss_cons (ds_if [] (dt_cmp (dop_eq hr.units) (de_var (pv 6)) de_str (nomark _)) (dss_cons (ds_asg [] (de_op dop_mod (de_callTy dcl_int (by rfl) T.n_int (by decide +kernel) (da_cons (de_ix (de_var (pv 13)) de_int (fun _ _ => rfl)) da_nil)) (de_ix (de_var (pv 0)) de_int (fun _ _ => rfl))) (dg_name (pg_name (i := 7) sc__law_behind.nd rfl (Or.inr rfl))) (fun _ _ a b => ps_asg a b))
      (dss_one (ds_ret [] (de_tup (da_cons (de_tup (da_cons (de_op dop_sub (de_var (pv 10)) (de_var (pv 7))) (da_cons (de_var (pv 11)) (da_cons (de_callTy dcl_tuple (by rfl) T.n_tuple (by decide +kernel) (da_cons (DN.de (dn_lc (own := [("letter", 9), ("passes", 15)]) rfl sc__law_behind.nd (di_seq (de_var (pv 12))) (blkOk_by (N := ["numbering", "state", "step", "at", "left", "more", "word", "less", "place", "letter", "ahead", "has", "rides", "told", "one", "passes"]) (sc := defScope s__law_behind) (by decide +kernel)) (fun _ _ _ _ _ => (dg_tup (n := 2) rfl (dgs_cons (dg_name (pg_name (i := 9) sc__law_behind.nd rfl (Or.inl rfl))) (dgs_cons (dg_name (pg_name (i := 15) sc__law_behind.nd rfl (Or.inl rfl))) dgs_nil)))) (fun _ _ _ _ _ => dts_nil) (fun _ _ _ _ _ => (de_tup (da_cons (de_op dop_sub (de_var (pv 9)) (de_var (pv 7))) (da_cons (de_var (pv 15)) da_nil)))) (by decide))) da_nil)) (da_cons (de_tup da_nil) da_nil))))) (da_cons de_bl da_nil)))))) dss_nil)
      (dss_cons (ds_if [] (dt_cmp (dop_eq hr.units) (de_var (pv 6)) de_str (nomark _)) (dss_one (ds_ret [] (de_tup (da_cons (de_tup (da_cons (de_var (pv 10)) (da_cons (de_var (pv 11)) (da_cons (de_op dop_add (de_var (pv 12)) (de_tup (da_cons (de_tup (da_cons (de_ix (de_var (pv 2)) de_int (fun _ _ => rfl)) (da_cons de_int da_nil))) da_nil))) (da_cons (de_var (pv 13)) da_nil))))) (da_cons de_bl da_nil))))) dss_nil)
      (dss_cons (ds_if [] (dt_cmp dop_in (de_var (pv 6)) (de_tup (da_cons de_str (da_cons de_str da_nil))) (by rfl)) (dss_one (ds_ret [] (de_tup (da_cons (de_tup (da_cons (de_var (pv 10)) (da_cons (de_var (pv 11)) (da_cons (de_var (pv 12)) (da_cons (de_if (dt_cmp (dop_eq hr.units) (de_var (pv 6)) de_str (nomark _)) (de_tup (da_cons (de_var (pv 10)) da_nil)) (de_tup da_nil)) da_nil))))) (da_cons de_bl da_nil))))) dss_nil)
      (dss_cons (ds_asg [] (de_ix (de_var (pv 2)) de_int (fun _ _ => rfl)) (dg_name (pg_name (i := 3) sc__law_behind.nd rfl (Or.inl rfl))) (fun _ _ a b => ps_asg a b))
      (dss_cons (ds_if [] (dt_cmp (dop_eq hr.units) (de_var (pv 6)) de_str (nomark _)) (dss_one (ds_ret [] (de_tup (da_cons (de_tup (da_cons (de_var (pv 10)) (da_cons (de_var (pv 11)) (da_cons (de_op dop_add (de_slice (de_var (pv 12)) do_none (do_some (de_var (pv 3)))) (de_slice (de_var (pv 12)) (do_some (de_op dop_add (de_var (pv 3)) de_int)) do_none)) (da_cons (de_var (pv 13)) da_nil))))) (da_cons de_bl da_nil))))) dss_nil)
      (dss_cons (ds_par2 (i := 8) (j := 9) [] (dp_va (de_call ((ok__law_place T).mono (by decide)) hr (by rfl) T.f__law_place.g T.f__law_place.ok.kp T.f__law_place.b (passE (takes_of rfl rfl rfl rfl)) rfl (da_cons (de_var (pv 0)) (da_cons (de_var (pv 1)) (da_cons (de_ix (de_ix (de_var (pv 12)) (de_var (pv 3)) (fun _ _ => rfl)) de_int (fun _ _ => rfl)) da_nil))))) (dp_va (de_ix (de_ix (de_var (pv 12)) (de_var (pv 3)) (fun _ _ => rfl)) de_int (fun _ _ => rfl))) rfl sc__law_behind.nd rfl rfl (by decide) (by rfl) (by rfl) (by rfl))
      (dss_cons (ds_asg [] (de_op dop_add (de_callTy dcl_tuple (by rfl) T.n_tuple (by decide +kernel) (da_cons (DN.de (dn_lc (own := [("one", 14), ("passes", 15)]) rfl sc__law_behind.nd (di_seq (de_slice (de_var (pv 12)) do_none (do_some (de_var (pv 3))))) (blkOk_by (N := ["numbering", "state", "step", "at", "left", "more", "word", "less", "place", "letter", "ahead", "has", "rides", "told", "one", "passes"]) (sc := defScope s__law_behind) (by decide +kernel)) (fun _ _ _ _ _ => (dg_tup (n := 2) rfl (dgs_cons (dg_name (pg_name (i := 14) sc__law_behind.nd rfl (Or.inl rfl))) (dgs_cons (dg_name (pg_name (i := 15) sc__law_behind.nd rfl (Or.inl rfl))) dgs_nil)))) (fun _ _ _ _ _ => dts_nil) (fun _ _ _ _ _ => (de_tup (da_cons (de_var (pv 14)) (da_cons (de_op dop_add (de_var (pv 15)) de_int) da_nil)))) (by decide))) da_nil)) (de_slice (de_var (pv 12)) (do_some (de_op dop_add (de_var (pv 3)) de_int)) do_none)) (dg_name (pg_name (i := 4) sc__law_behind.nd rfl (Or.inl rfl))) (fun _ _ a b => ps_asg a b))
      (dss_cons (ds_if [] (dt_cmp dop_isN (de_var (pv 8)) de_non (nomark _)) (dss_one (ds_ret [] (de_tup (da_cons (de_tup (da_cons (de_var (pv 10)) (da_cons (de_var (pv 11)) (da_cons (de_var (pv 4)) (da_cons (de_var (pv 13)) da_nil))))) (da_cons de_bl da_nil))))) dss_nil)
      (dss_cons (ds_if [] (dt_cmp dop_gt (de_var (pv 8)) de_int (nomark _)) (dss_one (ds_ret [] (de_tup (da_cons (de_tup (da_cons (de_var (pv 10)) (da_cons (de_callTy dcl_tuple (by rfl) T.n_tuple (by decide +kernel) (da_cons (de_callB dcl_sorted (by rfl) T.n_sorted (by decide +kernel) (da_cons (de_op dop_add (de_var (pv 11)) (de_tup (da_cons (de_var (pv 8)) da_nil))) da_nil)) da_nil)) (da_cons (de_var (pv 4)) (da_cons (de_var (pv 13)) da_nil))))) (da_cons (de_cmp (dop_ne hr.units) (de_op dop_add (de_var (pv 10)) (de_var (pv 8))) (de_var (pv 9)) (nomark _)) da_nil))))) dss_nil)
      (dss_cons (ds_asg [] de_int (dg_name (pg_name (i := 5) sc__law_behind.nd rfl (Or.inr rfl))) (fun _ _ a b => ps_asg a b))
      (dss_cons (ds_while [] (passes_of rfl) (dt_cmp dop_in (de_var (pv 5)) (de_var (pv 11)) (by rfl))
      (dss_one (ds_asg [] (de_op dop_add (de_var (pv 5)) de_int) (dg_name (pg_name (i := 5) sc__law_behind.nd rfl (Or.inr rfl))) (fun _ _ a b => ps_asg a b))))
      (dss_one (ds_ret [] (de_tup (da_cons (de_tup (da_cons (de_op dop_add (de_var (pv 10)) (de_var (pv 5))) (da_cons (de_callTy dcl_tuple (by rfl) T.n_tuple (by decide +kernel) (da_cons (DN.de (dn_lc (own := [("one", 14)]) rfl sc__law_behind.nd (di_seq (de_var (pv 11))) (blkOk_by (N := ["numbering", "state", "step", "at", "left", "more", "word", "less", "place", "letter", "ahead", "has", "rides", "told", "one", "passes"]) (sc := defScope s__law_behind) (by decide +kernel)) (fun _ _ _ _ _ => (dg_name (pg_name (i := 14) sc__law_behind.nd rfl (Or.inl rfl)))) (fun _ _ _ _ _ => (dts_one (dt_cmp dop_gt (de_var (pv 14)) (de_var (pv 5)) (nomark _)))) (fun _ _ _ _ _ => (de_op dop_sub (de_var (pv 14)) (de_var (pv 5)))) (by decide))) da_nil)) (da_cons (de_var (pv 4)) (da_cons (de_var (pv 13)) da_nil))))) (da_cons (de_cmp (dop_ne hr.units) (de_var (pv 10)) (de_var (pv 9)) (nomark _)) da_nil))))))))))))))))), by decide +kernel, fun ds vs XQ Q hd hv h => ?_⟩
  obtain ⟨n, s, m, x, rfl, hn, hs, hm, hx, q⟩ := h
  match vs, hv with
  | [v, v2, v3], _ =>
  try simp only [frz, params, List.zipWith, List.length_cons, List.length_nil, Nat.reduceAdd, Nat.reduceSub, List.replicate, List.append_nil, List.cons_append, List.nil_append, getV_va, Pt.sl, true_and, List.getElem?_cons_zero, List.getElem?_cons_succ, List.set_cons_zero, List.set_cons_succ, ite_self, Bool.false_eq_true, if_false, if_true]
  have sq : s.d.seq = some [.int s.ah, .tup (s.hs.map D.int), .tup (s.rs.map rideD), .tup (s.ts.map D.int)] := rfl
  have nq : n.d.seq = some [.int n.s, .int n.w, .int n.k, .int n.p, .int n.u] := rfl
  have n0 : atI [D.int n.s, .int n.w, .int n.k, .int n.p, .int n.u] 0 = some (.int n.s) := rfl
  have hB : BIG = 16777216 := rfl
  have hnK := hn
  have hsK := hs
  obtain ⟨hs0, hs1, hw0, hw1, hk0, hk1, hk2, hp0, hp1, hu0, hu1⟩ := hn
  obtain ⟨sn, sa0, sa1, sh0, sh1, sr0, sr1, st0, st1⟩ := hs
  have pre : ∀ {wd : Str} {r : List D}, x = .tup (.str wd :: r) → x.seq = some (.str wd :: r) ∧ atI (D.str wd :: r) 0 = some (.str wd) := fun e => by
    subst e
    exact ⟨rfl, by unfold atI ixN; simp⟩
  cases hx with
  | @back t ht =>
    obtain ⟨p1, p2⟩ := pre rfl
    rw [gIx_of p1 p2]
    refine ⟨by decide, ?_⟩
    rw [unp_seq (by rfl)]
    refine ⟨rfl, ?_⟩
    simp only [List.map_cons, List.map_nil]
    rw [unp_seq (by rfl)]
    refine ⟨rfl, ?_⟩
    dsimp only
    refine ⟨by first | rfl | trivial, by first | rfl | trivial, ?_⟩
    try simp only [frz, params, List.zipWith, List.length_cons, List.length_nil, Nat.reduceAdd, Nat.reduceSub, List.replicate, List.append_nil, List.cons_append, List.nil_append, getV_va, Pt.sl, true_and, List.getElem?_cons_zero, List.getElem?_cons_succ, List.set_cons_zero, List.set_cons_succ, ite_self, Bool.false_eq_true, if_false, if_true]
    rw [gEq_str (by decide +kernel) (by decide +kernel), bl_of]
    simp only [Bool.false_eq_true, if_false]
    rw [if_pos (by decide +kernel)]
    rw [gIx_of (ds := s.ts.map D.int) (d := .int t) (by rfl) (by rw [ht]; rfl), g1_of]
    dsimp only
    rw [gIx_of nq n0, gI_of]
    refine ⟨by omega, ?_⟩
    rw [gI_of]
    refine ⟨trivial, ?_⟩
    have l0 : 0 ≤ t % n.s := Int.emod_nonneg _ (by omega)
    have l1 : t % n.s < n.s := Int.emod_lt_of_pos _ (by omega)
    generalize t % n.s = ls at l0 l1 ⊢
    rw [items_seq (ds := s.rs.map rideD) (by rfl)]
    refine ⟨by simp only [List.length_map]; omega, lc_map (fun x => match x.d with | .tup [.int a, .int b] => .tup [.int (a - ls), .int b] | d => d) (fun y hy K1 K0 kk => ?_) fun f1 => ?_⟩
    · try simp only [lcStep, true_and, wipeR, List.map_cons, List.map_nil, List.set_cons_succ, List.set_cons_zero, List.getElem?_cons_succ, List.getElem?_cons_zero, getV_va, if_true]
      obtain ⟨z, hz, rfl⟩ := List.mem_map.mp hy
      obtain ⟨r, _, rfl⟩ := List.mem_map.mp hz
      rw [unp_seq (by rfl)]
      refine ⟨rfl, rfl, ?_⟩
      try simp only [frz, params, List.zipWith, List.length_cons, List.length_nil, Nat.reduceAdd, Nat.reduceSub, List.replicate, List.append_nil, List.cons_append, List.nil_append, getV_va, Pt.sl, true_and, List.getElem?_cons_zero, List.getElem?_cons_succ, List.set_cons_zero, List.set_cons_succ, ite_self, Bool.false_eq_true, if_false, if_true]
      rw [gI_of]
      exact ⟨trivial, by decide, kk _ _⟩
    · rw [show ∀ {fl : Bool}, List.map (fun x : Dv => match x.d with | .tup [.int a, .int b] => D.tup [.int (a - ls), .int b] | d => d) ((s.rs.map rideD).map fun d => (⟨d, fl, none⟩ : Dv)) = (s.rs.map fun r => (r.1 - ls, r.2)).map rideD from fun {fl} => by simp [List.map_map, Function.comp_def, rideD]]
      refine g1_tup (l := (s.rs.map fun r => (r.1 - ls, r.2)).map rideD) rfl ?_
      refine ⟨by decide, by decide, by decide, ?_⟩
      refine q ⟨s.ah - ls, s.hs, s.rs.map fun r => (r.1 - ls, r.2), []⟩ false _ ⟨by omega, by show _ ≤ s.ah - ls; omega, by show s.ah - ls ≤ _; omega, sh0, by show (s.hs.length : Int) ≤ _; omega, fun r hr => ?_, by rw [List.length_map]; omega, fun i h => (nomatch h), Nat.zero_le 1⟩
      obtain ⟨z, hz, rfl⟩ := List.mem_map.mp hr
      obtain ⟨a1, a2, a3, a4⟩ := sr0 z hz
      exact ⟨by show _ ≤ z.1 - ls; omega, by show z.1 - ls ≤ _; omega, a3, by show z.2 ≤ _; omega⟩
  | miss =>
    obtain ⟨p1, p2⟩ := pre rfl
    rw [gIx_of p1 p2]
    refine ⟨by decide, ?_⟩
    rw [unp_seq (by rfl)]
    refine ⟨rfl, ?_⟩
    simp only [List.map_cons, List.map_nil]
    rw [unp_seq (by rfl)]
    refine ⟨rfl, ?_⟩
    dsimp only
    refine ⟨by first | rfl | trivial, by first | rfl | trivial, ?_⟩
    try simp only [frz, params, List.zipWith, List.length_cons, List.length_nil, Nat.reduceAdd, Nat.reduceSub, List.replicate, List.append_nil, List.cons_append, List.nil_append, getV_va, Pt.sl, true_and, List.getElem?_cons_zero, List.getElem?_cons_succ, List.set_cons_zero, List.set_cons_succ, ite_self, Bool.false_eq_true, if_false, if_true]
    rw [gEq_str (by decide +kernel) (by decide +kernel), bl_of]
    simp only [Bool.false_eq_true, if_false]
    rw [if_neg (by decide +kernel)]
    rw [gEq_str (by decide +kernel) (by decide +kernel), bl_of]
    simp only [Bool.false_eq_true, if_false]
    rw [if_neg (by decide +kernel)]
    refine ⟨by decide, ?_⟩
    rw [gIn_two]
    simp only [bl_of]
    rw [if_pos (by decide +kernel)]
    rw [gEq_str (by decide +kernel) (by decide +kernel), bl_of]
    simp only [Bool.false_eq_true, if_false]
    rw [if_neg (by decide +kernel)]
    refine ⟨by decide, by decide, by decide, ?_⟩
    refine q ⟨s.ah, s.hs, s.rs, []⟩ false _ ⟨by omega, by show _ ≤ s.ah; omega, by show s.ah ≤ _; omega, sh0, by show (s.hs.length : Int) ≤ _; omega, fun r hr => ?_, ?_, ?_, ?_⟩
    · obtain ⟨a1, a2, a3, a4⟩ := sr0 r hr
      exact ⟨by omega, by omega, a3, by omega⟩
    · show (s.rs.length : Int) ≤ _
      omega
    · exact fun i h => (nomatch h)
    · exact Nat.zero_le 1
  | tell =>
    obtain ⟨p1, p2⟩ := pre rfl
    rw [gIx_of p1 p2]
    refine ⟨by decide, ?_⟩
    rw [unp_seq (by rfl)]
    refine ⟨rfl, ?_⟩
    simp only [List.map_cons, List.map_nil]
    rw [unp_seq (by rfl)]
    refine ⟨rfl, ?_⟩
    dsimp only
    refine ⟨by first | rfl | trivial, by first | rfl | trivial, ?_⟩
    try simp only [frz, params, List.zipWith, List.length_cons, List.length_nil, Nat.reduceAdd, Nat.reduceSub, List.replicate, List.append_nil, List.cons_append, List.nil_append, getV_va, Pt.sl, true_and, List.getElem?_cons_zero, List.getElem?_cons_succ, List.set_cons_zero, List.set_cons_succ, ite_self, Bool.false_eq_true, if_false, if_true]
    rw [gEq_str (by decide +kernel) (by decide +kernel), bl_of]
    simp only [Bool.false_eq_true, if_false]
    rw [if_neg (by decide +kernel)]
    rw [gEq_str (by decide +kernel) (by decide +kernel), bl_of]
    simp only [Bool.false_eq_true, if_false]
    rw [if_neg (by decide +kernel)]
    refine ⟨by decide, ?_⟩
    rw [gIn_two]
    simp only [bl_of]
    rw [if_pos (by decide +kernel)]
    rw [gEq_str (by decide +kernel) (by decide +kernel), bl_of]
    simp only [Bool.false_eq_true, if_false]
    rw [if_pos (by decide +kernel)]
    refine ⟨by decide, by decide, by decide, ?_⟩
    refine q ⟨s.ah, s.hs, s.rs, [s.ah]⟩ false _ ⟨by omega, by show _ ≤ s.ah; omega, by show s.ah ≤ _; omega, sh0, by show (s.hs.length : Int) ≤ _; omega, fun r hr => ?_, ?_, ?_, ?_⟩
    · obtain ⟨a1, a2, a3, a4⟩ := sr0 r hr
      exact ⟨by omega, by omega, a3, by omega⟩
    · show (s.rs.length : Int) ≤ _
      omega
    · intro i h
      simp at h
      omega
    · exact Nat.le_refl 1
  | @send l h0 h1 =>
    obtain ⟨p1, p2⟩ := pre rfl
    rw [gIx_of p1 p2]
    refine ⟨by decide, ?_⟩
    rw [unp_seq (by rfl)]
    refine ⟨rfl, ?_⟩
    simp only [List.map_cons, List.map_nil]
    rw [unp_seq (by rfl)]
    refine ⟨rfl, ?_⟩
    dsimp only
    refine ⟨by first | rfl | trivial, by first | rfl | trivial, ?_⟩
    try simp only [frz, params, List.zipWith, List.length_cons, List.length_nil, Nat.reduceAdd, Nat.reduceSub, List.replicate, List.append_nil, List.cons_append, List.nil_append, getV_va, Pt.sl, true_and, List.getElem?_cons_zero, List.getElem?_cons_succ, List.set_cons_zero, List.set_cons_succ, ite_self, Bool.false_eq_true, if_false, if_true]
    rw [gEq_str (by decide +kernel) (by decide +kernel), bl_of]
    simp only [Bool.false_eq_true, if_false]
    rw [if_neg (by decide +kernel)]
    rw [gEq_str (by decide +kernel) (by decide +kernel), bl_of]
    simp only [Bool.false_eq_true, if_false]
    rw [if_pos (by decide +kernel)]
    rw [gIx_of (ds := [.str "send", .int l]) (by rfl) (show atI [D.str "send", .int l] 1 = some (.int l) from rfl)]
    refine ⟨by decide, by decide, ?_⟩
    rw [gAdd_tup]
    refine ⟨by simp only [List.length_map, List.length_cons, List.length_nil]; omega, by decide, by decide, ?_⟩
    have er : s.rs.map rideD ++ [rideD (l, 0)] = (s.rs ++ [(l, 0)]).map rideD := by simp
    have ok : St.Ok ⟨s.ah, s.hs, s.rs ++ [(l, 0)], s.ts⟩ (m + 1) := by
      refine ⟨by omega, by show _ ≤ s.ah; omega, by show s.ah ≤ _; omega, sh0, by show (s.hs.length : Int) ≤ _; omega, fun r hr => ?_, ?_, fun i h => ?_, st1⟩
      · rcases List.mem_append.mp hr with hr | hr
        · obtain ⟨a1, a2, a3, a4⟩ := sr0 r hr
          exact ⟨by omega, by omega, a3, by omega⟩
        · simp at hr
          rw [hr]
          exact ⟨by show _ ≤ l; omega, by show l ≤ _; omega, by show (0 : Int) ≤ 0; omega, by show (0 : Int) ≤ _; omega⟩
      · rw [List.length_append]
        simp
        omega
      · obtain ⟨b1, b2⟩ := st0 i h
        exact ⟨by omega, by omega⟩
    have this : ∀ f, Q ⟨.tup [.tup [.int s.ah, .tup (s.hs.map D.int), .tup (s.rs.map rideD ++ [rideD (l, 0)]), .tup (s.ts.map D.int)], .bl false], f, none⟩ := fun f => by rw [er]; exact q _ false f ok
    exact this _
  | @lose i hi =>
    obtain ⟨p1, p2⟩ := pre rfl
    rw [gIx_of p1 p2]
    refine ⟨by decide, ?_⟩
    rw [unp_seq (by rfl)]
    refine ⟨rfl, ?_⟩
    simp only [List.map_cons, List.map_nil]
    rw [unp_seq (by rfl)]
    refine ⟨rfl, ?_⟩
    dsimp only
    refine ⟨by first | rfl | trivial, by first | rfl | trivial, ?_⟩
    try simp only [frz, params, List.zipWith, List.length_cons, List.length_nil, Nat.reduceAdd, Nat.reduceSub, List.replicate, List.append_nil, List.cons_append, List.nil_append, getV_va, Pt.sl, true_and, List.getElem?_cons_zero, List.getElem?_cons_succ, List.set_cons_zero, List.set_cons_succ, ite_self, Bool.false_eq_true, if_false, if_true]
    rw [gEq_str (by decide +kernel) (by decide +kernel), bl_of]
    simp only [Bool.false_eq_true, if_false]
    rw [if_neg (by decide +kernel)]
    rw [gEq_str (by decide +kernel) (by decide +kernel), bl_of]
    simp only [Bool.false_eq_true, if_false]
    rw [if_neg (by decide +kernel)]
    refine ⟨by decide, ?_⟩
    rw [gIn_two]
    simp only [bl_of]
    rw [if_neg (by decide +kernel)]
    rw [gIx_of (ds := [.str "lose", .int i]) (by rfl) (show atI [D.str "lose", .int i] 1 = some (.int i) from rfl)]
    try simp only [frz, params, List.zipWith, List.length_cons, List.length_nil, Nat.reduceAdd, Nat.reduceSub, List.replicate, List.append_nil, List.cons_append, List.nil_append, getV_va, Pt.sl, true_and, List.getElem?_cons_zero, List.getElem?_cons_succ, List.set_cons_zero, List.set_cons_succ, ite_self, Bool.false_eq_true, if_false, if_true]
    rw [gEq_str (by decide +kernel) (by decide +kernel), bl_of]
    simp only [Bool.false_eq_true, if_false]
    rw [if_pos (by decide +kernel)]
    refine ⟨_, rfl, ?_⟩
    rw [gSl_seq (ds := s.rs.map rideD) (by rfl), gAdd_int]
    refine ⟨_, rfl, ?_⟩
    rw [gSl_seq (ds := s.rs.map rideD) (by rfl), cutL_map, cutL_map]
    simp only [D.like]
    have ll := cutL_lose s.rs i hi
    rw [gAdd_tup]
    refine ⟨by simp only [List.length_map]; omega, by decide, by decide, ?_⟩
    have ok : St.Ok ⟨s.ah, s.hs, cutL s.rs none (some (i : Int)) ++ cutL s.rs (some ((i : Int) + 1)) none, s.ts⟩ (m + 1) := by
      refine ⟨by omega, by show _ ≤ s.ah; omega, by show s.ah ≤ _; omega, sh0, by show (s.hs.length : Int) ≤ _; omega, fun r hr => ?_, ?_, fun i h => ?_, st1⟩
      · obtain ⟨a1, a2, a3, a4⟩ := sr0 r ((List.mem_append.mp hr).elim cutL_mem cutL_mem)
        exact ⟨by omega, by omega, a3, by omega⟩
      · rw [List.length_append]
        omega
      · obtain ⟨b1, b2⟩ := st0 i h
        exact ⟨by omega, by omega⟩
    rw [← List.map_append]
    exact q _ false _ ok
  | @come i hi =>
    obtain ⟨p1, p2⟩ := pre rfl
    rw [gIx_of p1 p2]
    refine ⟨by decide, ?_⟩
    rw [unp_seq (by rfl)]
    refine ⟨rfl, ?_⟩
    simp only [List.map_cons, List.map_nil]
    rw [unp_seq (by rfl)]
    refine ⟨rfl, ?_⟩
    dsimp only
    refine ⟨by first | rfl | trivial, by first | rfl | trivial, ?_⟩
    try simp only [frz, params, List.zipWith, List.length_cons, List.length_nil, Nat.reduceAdd, Nat.reduceSub, List.replicate, List.append_nil, List.cons_append, List.nil_append, getV_va, Pt.sl, true_and, List.getElem?_cons_zero, List.getElem?_cons_succ, List.set_cons_zero, List.set_cons_succ, ite_self, Bool.false_eq_true, if_false, if_true]
    rw [gEq_str (by decide +kernel) (by decide +kernel), bl_of]
    simp only [Bool.false_eq_true, if_false]
    rw [if_neg (by decide +kernel)]
    rw [gEq_str (by decide +kernel) (by decide +kernel), bl_of]
    simp only [Bool.false_eq_true, if_false]
    rw [if_neg (by decide +kernel)]
    refine ⟨by decide, ?_⟩
    rw [gIn_two]
    simp only [bl_of]
    rw [if_neg (by decide +kernel)]
    rw [gIx_of (ds := [.str "come", .int i]) (by rfl) (show atI [D.str "come", .int i] 1 = some (.int i) from rfl)]
    try simp only [frz, params, List.zipWith, List.length_cons, List.length_nil, Nat.reduceAdd, Nat.reduceSub, List.replicate, List.append_nil, List.cons_append, List.nil_append, getV_va, Pt.sl, true_and, List.getElem?_cons_zero, List.getElem?_cons_succ, List.set_cons_zero, List.set_cons_succ, ite_self, Bool.false_eq_true, if_false, if_true]
    rw [gEq_str (by decide +kernel) (by decide +kernel), bl_of]
    simp only [Bool.false_eq_true, if_false]
    rw [if_neg (by decide +kernel)]
    obtain ⟨r, hr⟩ : ∃ r, r = s.rs[i] := ⟨_, rfl⟩
    have aI : atI (s.rs.map rideD) (i : Int) = some (rideD r) := by
      unfold atI ixN
      simp [hr, hi]
    have ll := cutL_lose s.rs i hi
    obtain ⟨lf, hlf⟩ : ∃ lf, (cutL s.rs none (some (i : Int))).map (fun r => (r.1, r.2 + 1)) ++ cutL s.rs (some ((i : Int) + 1)) none = lf := ⟨_, rfl⟩
    have lf0 : ∀ r ∈ lf, -(100 * (m + 1)) ≤ r.1 ∧ r.1 ≤ 100 * (m + 1) + 10 ∧ 0 ≤ r.2 ∧ r.2 ≤ m + 1 := fun r hr => by
      rw [← hlf] at hr
      rcases List.mem_append.mp hr with hr | hr
      · obtain ⟨z, hz, rfl⟩ := List.mem_map.mp hr
        obtain ⟨a1, a2, a3, a4⟩ := sr0 z (cutL_mem hz)
        dsimp only
        omega
      · obtain ⟨a1, a2, a3, a4⟩ := sr0 r (cutL_mem hr)
        omega
    have lf1 : (lf.length : Int) ≤ m + 1 := by
      rw [← hlf, List.length_append, List.length_map]
      omega
    have st2 : ∀ i ∈ s.ts, -(100 * (m + 1)) ≤ i ∧ i ≤ 100 * (m + 1) := fun i h => by
      obtain ⟨b1, b2⟩ := st0 i h
      exact ⟨by omega, by omega⟩
    rw [gIx_of (ds := s.rs.map rideD) (by rfl) aI, gIx_of (ds := [.int r.1, .int r.2]) (by rfl) (show atI [D.int r.1, .int r.2] 0 = some (.int r.1) from rfl)]
    refine gCall_of fun _ => ⟨n, s, r.1, rfl, hnK, fun f => ?_, fun p h0 h1 f => ?_⟩
    · dsimp only
      rw [gIx_of (ds := s.rs.map rideD) (by rfl) aI, gIx_of (ds := [.int r.1, .int r.2]) (by rfl) (show atI [D.int r.1, .int r.2] 0 = some (.int r.1) from rfl)]
      try simp only [frz, params, List.zipWith, List.length_cons, List.length_nil, Nat.reduceAdd, Nat.reduceSub, List.replicate, List.append_nil, List.cons_append, List.nil_append, getV_va, Pt.sl, true_and, List.getElem?_cons_zero, List.getElem?_cons_succ, List.set_cons_zero, List.set_cons_succ, ite_self, Bool.false_eq_true, if_false, if_true]
      refine ⟨_, rfl, ?_⟩
      rw [gSl_seq (ds := s.rs.map rideD) (by rfl), cutL_map]
      simp only [D.like]
      rw [items_seq (ds := (cutL s.rs none (some (i : Int))).map rideD) (by rfl)]
      refine ⟨by simp only [List.length_map]; omega, lc_map (fun x => match x.d with | .tup [.int a, .int b] => .tup [.int a, .int (b + 1)] | d => d) (fun y hy K1 K0 kk => ?_) fun f1 => ?_⟩
      · try simp only [lcStep, true_and, wipeR, List.map_cons, List.map_nil, List.set_cons_succ, List.set_cons_zero, List.getElem?_cons_succ, List.getElem?_cons_zero, getV_va, if_true]
        obtain ⟨z, hz, rfl⟩ := List.mem_map.mp hy
        obtain ⟨r2, _, rfl⟩ := List.mem_map.mp hz
        rw [unp_seq (by rfl)]
        refine ⟨rfl, rfl, ?_⟩
        try simp only [frz, params, List.zipWith, List.length_cons, List.length_nil, Nat.reduceAdd, Nat.reduceSub, List.replicate, List.append_nil, List.cons_append, List.nil_append, getV_va, Pt.sl, true_and, List.getElem?_cons_zero, List.getElem?_cons_succ, List.set_cons_zero, List.set_cons_succ, ite_self, Bool.false_eq_true, if_false, if_true]
        rw [gAdd_int]
        exact ⟨by decide, kk _ _⟩
      rw [show ∀ {fl : Bool}, List.map (fun x : Dv => match x.d with | .tup [.int a, .int b] => D.tup [.int a, .int (b + 1)] | d => d) (((cutL s.rs none (some (i : Int))).map rideD).map fun d => (⟨d, fl, none⟩ : Dv)) = ((cutL s.rs none (some (i : Int))).map fun r => (r.1, r.2 + 1)).map rideD from fun {fl} => by simp [List.map_map, Function.comp_def, rideD]]
      refine g1_tup (l := ((cutL s.rs none (some (i : Int))).map fun r => (r.1, r.2 + 1)).map rideD) rfl ?_
      rw [gAdd_int]
      refine ⟨_, rfl, ?_⟩
      rw [gSl_seq (ds := s.rs.map rideD) (by rfl), cutL_map]
      simp only [D.like]
      rw [gAdd_tup]
      refine ⟨by simp only [List.length_map]; omega, ?_⟩
      rw [← List.map_append]
      simp only [hlf]
      try simp only [frz, params, List.zipWith, List.length_cons, List.length_nil, Nat.reduceAdd, Nat.reduceSub, List.replicate, List.append_nil, List.cons_append, List.nil_append, getV_va, Pt.sl, true_and, List.getElem?_cons_zero, List.getElem?_cons_succ, List.set_cons_zero, List.set_cons_succ, ite_self, Bool.false_eq_true, if_false, if_true]
      exact ⟨⟨by decide, by decide, q ⟨s.ah, s.hs, lf, s.ts⟩ false _ ⟨by omega, by show _ ≤ s.ah; omega, by show s.ah ≤ _; omega, sh0, by show (s.hs.length : Int) ≤ _; omega, lf0, lf1, st2, st1⟩⟩, fun v => nofun⟩
    · dsimp only
      rw [gIx_of (ds := s.rs.map rideD) (by rfl) aI, gIx_of (ds := [.int r.1, .int r.2]) (by rfl) (show atI [D.int r.1, .int r.2] 0 = some (.int r.1) from rfl)]
      try simp only [frz, params, List.zipWith, List.length_cons, List.length_nil, Nat.reduceAdd, Nat.reduceSub, List.replicate, List.append_nil, List.cons_append, List.nil_append, getV_va, Pt.sl, true_and, List.getElem?_cons_zero, List.getElem?_cons_succ, List.set_cons_zero, List.set_cons_succ, ite_self, Bool.false_eq_true, if_false, if_true]
      refine ⟨_, rfl, ?_⟩
      rw [gSl_seq (ds := s.rs.map rideD) (by rfl), cutL_map]
      simp only [D.like]
      rw [items_seq (ds := (cutL s.rs none (some (i : Int))).map rideD) (by rfl)]
      refine ⟨by simp only [List.length_map]; omega, lc_map (fun x => match x.d with | .tup [.int a, .int b] => .tup [.int a, .int (b + 1)] | d => d) (fun y hy K1 K0 kk => ?_) fun f1 => ?_⟩
      · try simp only [lcStep, true_and, wipeR, List.map_cons, List.map_nil, List.set_cons_succ, List.set_cons_zero, List.getElem?_cons_succ, List.getElem?_cons_zero, getV_va, if_true]
        obtain ⟨z, hz, rfl⟩ := List.mem_map.mp hy
        obtain ⟨r2, _, rfl⟩ := List.mem_map.mp hz
        rw [unp_seq (by rfl)]
        refine ⟨rfl, rfl, ?_⟩
        try simp only [frz, params, List.zipWith, List.length_cons, List.length_nil, Nat.reduceAdd, Nat.reduceSub, List.replicate, List.append_nil, List.cons_append, List.nil_append, getV_va, Pt.sl, true_and, List.getElem?_cons_zero, List.getElem?_cons_succ, List.set_cons_zero, List.set_cons_succ, ite_self, Bool.false_eq_true, if_false, if_true]
        rw [gAdd_int]
        exact ⟨by decide, kk _ _⟩
      rw [show ∀ {fl : Bool}, List.map (fun x : Dv => match x.d with | .tup [.int a, .int b] => D.tup [.int a, .int (b + 1)] | d => d) (((cutL s.rs none (some (i : Int))).map rideD).map fun d => (⟨d, fl, none⟩ : Dv)) = ((cutL s.rs none (some (i : Int))).map fun r => (r.1, r.2 + 1)).map rideD from fun {fl} => by simp [List.map_map, Function.comp_def, rideD]]
      refine g1_tup (l := ((cutL s.rs none (some (i : Int))).map fun r => (r.1, r.2 + 1)).map rideD) rfl ?_
      rw [gAdd_int]
      refine ⟨_, rfl, ?_⟩
      rw [gSl_seq (ds := s.rs.map rideD) (by rfl), cutL_map]
      simp only [D.like]
      rw [gAdd_tup]
      refine ⟨by simp only [List.length_map]; omega, ?_⟩
      rw [← List.map_append]
      simp only [hlf]
      try simp only [frz, params, List.zipWith, List.length_cons, List.length_nil, Nat.reduceAdd, Nat.reduceSub, List.replicate, List.append_nil, List.cons_append, List.nil_append, getV_va, Pt.sl, true_and, List.getElem?_cons_zero, List.getElem?_cons_succ, List.set_cons_zero, List.set_cons_succ, ite_self, Bool.false_eq_true, if_false, if_true]
      refine ⟨?_, fun v => nofun⟩
      rw [gI_of, bl_of]
      refine ⟨trivial, ?_⟩
      simp only [decide_eq_true_eq]
      split
      · refine ⟨by decide, ?_⟩
        rw [gAdd_tup]
        refine ⟨by simp only [List.length_map, List.length_cons, List.length_nil]; omega, ?_⟩
        rw [g1_of]
        dsimp only
        refine ⟨s.hs ++ [p], by simp [D.seq], fun ns' hp hq => ?_⟩
        refine g1_tup (l := ns'.map D.int) rfl ?_
        refine ⟨by decide, ?_⟩
        rw [gAdd_int, gEq_int]
        refine ⟨by decide, q ⟨s.ah, ns', lf, s.ts⟩ _ _ ⟨by omega, by show _ ≤ s.ah; omega, by show s.ah ≤ _; omega, fun a ha => ?_, ?_, lf0, lf1, st2, st1⟩⟩
        · rcases List.mem_append.mp (hp.mem_iff.mp ha) with ha | ha
          · exact sh0 a ha
          · simp at ha
            omega
        · have := hp.length_eq
          simp at this
          show (ns'.length : Int) ≤ _
          omega
      · refine ⟨3, ?_⟩
        unfold whN
        try simp only [frz, params, List.zipWith, List.length_cons, List.length_nil, Nat.reduceAdd, Nat.reduceSub, List.replicate, List.append_nil, List.cons_append, List.nil_append, getV_va, Pt.sl, true_and, List.getElem?_cons_zero, List.getElem?_cons_succ, List.set_cons_zero, List.set_cons_succ, ite_self, Bool.false_eq_true, if_false, if_true]
        rw [gIn_ints, bl_of]
        simp only [Bool.false_eq_true, if_false, decide_eq_true_eq]
        split
        · try simp only [frz, params, List.zipWith, List.length_cons, List.length_nil, Nat.reduceAdd, Nat.reduceSub, List.replicate, List.append_nil, List.cons_append, List.nil_append, getV_va, Pt.sl, true_and, List.getElem?_cons_zero, List.getElem?_cons_succ, List.set_cons_zero, List.set_cons_succ, ite_self, Bool.false_eq_true, if_false, if_true]
          rw [gAdd_int]
          try simp only [frz, params, List.zipWith, List.length_cons, List.length_nil, Nat.reduceAdd, Nat.reduceSub, List.replicate, List.append_nil, List.cons_append, List.nil_append, getV_va, Pt.sl, true_and, List.getElem?_cons_zero, List.getElem?_cons_succ, List.set_cons_zero, List.set_cons_succ, ite_self, Bool.false_eq_true, if_false, if_true]
          unfold whN
          try simp only [frz, params, List.zipWith, List.length_cons, List.length_nil, Nat.reduceAdd, Nat.reduceSub, List.replicate, List.append_nil, List.cons_append, List.nil_append, getV_va, Pt.sl, true_and, List.getElem?_cons_zero, List.getElem?_cons_succ, List.set_cons_zero, List.set_cons_succ, ite_self, Bool.false_eq_true, if_false, if_true]
          rw [gIn_ints, bl_of]
          simp only [Bool.false_eq_true, if_false, decide_eq_true_eq]
          split
          · try simp only [frz, params, List.zipWith, List.length_cons, List.length_nil, Nat.reduceAdd, Nat.reduceSub, List.replicate, List.append_nil, List.cons_append, List.nil_append, getV_va, Pt.sl, true_and, List.getElem?_cons_zero, List.getElem?_cons_succ, List.set_cons_zero, List.set_cons_succ, ite_self, Bool.false_eq_true, if_false, if_true]
            rw [gAdd_int]
            try simp only [frz, params, List.zipWith, List.length_cons, List.length_nil, Nat.reduceAdd, Nat.reduceSub, List.replicate, List.append_nil, List.cons_append, List.nil_append, getV_va, Pt.sl, true_and, List.getElem?_cons_zero, List.getElem?_cons_succ, List.set_cons_zero, List.set_cons_succ, ite_self, Bool.false_eq_true, if_false, if_true]
            unfold whN
            try simp only [frz, params, List.zipWith, List.length_cons, List.length_nil, Nat.reduceAdd, Nat.reduceSub, List.replicate, List.append_nil, List.cons_append, List.nil_append, getV_va, Pt.sl, true_and, List.getElem?_cons_zero, List.getElem?_cons_succ, List.set_cons_zero, List.set_cons_succ, ite_self, Bool.false_eq_true, if_false, if_true]
            rw [gIn_ints, bl_of]
            simp only [Bool.false_eq_true, if_false, decide_eq_true_eq]
            rw [if_neg (fun h => by have := sh0 _ h; omega)]
            try simp only [frz, params, List.zipWith, List.length_cons, List.length_nil, Nat.reduceAdd, Nat.reduceSub, List.replicate, List.append_nil, List.cons_append, List.nil_append, getV_va, Pt.sl, true_and, List.getElem?_cons_zero, List.getElem?_cons_succ, List.set_cons_zero, List.set_cons_succ, ite_self, Bool.false_eq_true, if_false, if_true]
            rw [gAdd_int, items_seq (ds := s.hs.map D.int) (by rfl)]
            refine ⟨by simp only [List.length_map]; omega, lc_any (fun x => match x.d with | .int a => if (1 + 1 + 1) < a then some (.int (a - (1 + 1 + 1))) else none | _ => none) (fun y hy K1 K0 k1 k0 => ?_) fun f2 => ?_⟩
            · try simp only [lcStep, true_and, wipeR, List.map_cons, List.map_nil, List.set_cons_succ, List.set_cons_zero, List.getElem?_cons_succ, List.getElem?_cons_zero, getV_va, if_true]
              obtain ⟨z, hz, rfl⟩ := List.mem_map.mp hy
              obtain ⟨a, _, rfl⟩ := List.mem_map.mp hz
              rw [gI_of, bl_of]
              refine ⟨trivial, ?_⟩
              simp only [decide_eq_true_eq]
              split
              · rename_i hc
                rw [gI_of]
                exact ⟨trivial, k1 _ (if_pos hc) _ _⟩
              · rename_i hc
                exact k0 (if_neg hc)
            rw [List.nil_append, show ∀ {fl : Bool}, List.filterMap (fun x : Dv => match x.d with | .int a => if (1 + 1 + 1) < a then some (D.int (a - (1 + 1 + 1))) else none | _ => none) ((s.hs.map D.int).map fun d => (⟨d, fl, none⟩ : Dv)) = (s.hs.filterMap fun a => if (1 + 1 + 1) < a then some (a - (1 + 1 + 1)) else none).map D.int from fun {fl} => by
              simp only [List.filterMap_map, List.map_filterMap, Function.comp_def]
              congr 1
              funext a
              split <;> rfl]
            refine g1_tup (l := (s.hs.filterMap fun a => if (1 + 1 + 1) < a then some (a - (1 + 1 + 1)) else none).map D.int) rfl ?_
            refine ⟨by decide, ?_⟩
            rw [gEq_int]
            refine ⟨by decide, q ⟨s.ah + (1 + 1 + 1), s.hs.filterMap fun a => if (1 + 1 + 1) < a then some (a - (1 + 1 + 1)) else none, lf, s.ts⟩ _ _ ⟨by omega, by show _ ≤ s.ah + (1 + 1 + 1); omega, by show s.ah + (1 + 1 + 1) ≤ _; omega, fun a ha => ?_, ?_, lf0, lf1, st2, st1⟩⟩
            · obtain ⟨z, hz, e⟩ := List.mem_filterMap.mp ha
              have := sh0 z hz
              split at e
              · cases e; omega
              · cases e
            · have := List.length_filterMap_le (fun a : Int => if (1 + 1 + 1) < a then some (a - (1 + 1 + 1)) else none) s.hs
              show ((s.hs.filterMap fun a => if (1 + 1 + 1) < a then some (a - (1 + 1 + 1)) else none).length : Int) ≤ _
              omega
          · skip
            try simp only [frz, params, List.zipWith, List.length_cons, List.length_nil, Nat.reduceAdd, Nat.reduceSub, List.replicate, List.append_nil, List.cons_append, List.nil_append, getV_va, Pt.sl, true_and, List.getElem?_cons_zero, List.getElem?_cons_succ, List.set_cons_zero, List.set_cons_succ, ite_self, Bool.false_eq_true, if_false, if_true]
            rw [gAdd_int, items_seq (ds := s.hs.map D.int) (by rfl)]
            refine ⟨by simp only [List.length_map]; omega, lc_any (fun x => match x.d with | .int a => if (1 + 1) < a then some (.int (a - (1 + 1))) else none | _ => none) (fun y hy K1 K0 k1 k0 => ?_) fun f2 => ?_⟩
            · try simp only [lcStep, true_and, wipeR, List.map_cons, List.map_nil, List.set_cons_succ, List.set_cons_zero, List.getElem?_cons_succ, List.getElem?_cons_zero, getV_va, if_true]
              obtain ⟨z, hz, rfl⟩ := List.mem_map.mp hy
              obtain ⟨a, _, rfl⟩ := List.mem_map.mp hz
              rw [gI_of, bl_of]
              refine ⟨trivial, ?_⟩
              simp only [decide_eq_true_eq]
              split
              · rename_i hc
                rw [gI_of]
                exact ⟨trivial, k1 _ (if_pos hc) _ _⟩
              · rename_i hc
                exact k0 (if_neg hc)
            rw [List.nil_append, show ∀ {fl : Bool}, List.filterMap (fun x : Dv => match x.d with | .int a => if (1 + 1) < a then some (D.int (a - (1 + 1))) else none | _ => none) ((s.hs.map D.int).map fun d => (⟨d, fl, none⟩ : Dv)) = (s.hs.filterMap fun a => if (1 + 1) < a then some (a - (1 + 1)) else none).map D.int from fun {fl} => by
              simp only [List.filterMap_map, List.map_filterMap, Function.comp_def]
              congr 1
              funext a
              split <;> rfl]
            refine g1_tup (l := (s.hs.filterMap fun a => if (1 + 1) < a then some (a - (1 + 1)) else none).map D.int) rfl ?_
            refine ⟨by decide, ?_⟩
            rw [gEq_int]
            refine ⟨by decide, q ⟨s.ah + (1 + 1), s.hs.filterMap fun a => if (1 + 1) < a then some (a - (1 + 1)) else none, lf, s.ts⟩ _ _ ⟨by omega, by show _ ≤ s.ah + (1 + 1); omega, by show s.ah + (1 + 1) ≤ _; omega, fun a ha => ?_, ?_, lf0, lf1, st2, st1⟩⟩
            · obtain ⟨z, hz, e⟩ := List.mem_filterMap.mp ha
              have := sh0 z hz
              split at e
              · cases e; omega
              · cases e
            · have := List.length_filterMap_le (fun a : Int => if (1 + 1) < a then some (a - (1 + 1)) else none) s.hs
              show ((s.hs.filterMap fun a => if (1 + 1) < a then some (a - (1 + 1)) else none).length : Int) ≤ _
              omega
        · skip
          try simp only [frz, params, List.zipWith, List.length_cons, List.length_nil, Nat.reduceAdd, Nat.reduceSub, List.replicate, List.append_nil, List.cons_append, List.nil_append, getV_va, Pt.sl, true_and, List.getElem?_cons_zero, List.getElem?_cons_succ, List.set_cons_zero, List.set_cons_succ, ite_self, Bool.false_eq_true, if_false, if_true]
          rw [gAdd_int, items_seq (ds := s.hs.map D.int) (by rfl)]
          refine ⟨by simp only [List.length_map]; omega, lc_any (fun x => match x.d with | .int a => if 1 < a then some (.int (a - 1)) else none | _ => none) (fun y hy K1 K0 k1 k0 => ?_) fun f2 => ?_⟩
          · try simp only [lcStep, true_and, wipeR, List.map_cons, List.map_nil, List.set_cons_succ, List.set_cons_zero, List.getElem?_cons_succ, List.getElem?_cons_zero, getV_va, if_true]
            obtain ⟨z, hz, rfl⟩ := List.mem_map.mp hy
            obtain ⟨a, _, rfl⟩ := List.mem_map.mp hz
            rw [gI_of, bl_of]
            refine ⟨trivial, ?_⟩
            simp only [decide_eq_true_eq]
            split
            · rename_i hc
              rw [gI_of]
              exact ⟨trivial, k1 _ (if_pos hc) _ _⟩
            · rename_i hc
              exact k0 (if_neg hc)
          rw [List.nil_append, show ∀ {fl : Bool}, List.filterMap (fun x : Dv => match x.d with | .int a => if 1 < a then some (D.int (a - 1)) else none | _ => none) ((s.hs.map D.int).map fun d => (⟨d, fl, none⟩ : Dv)) = (s.hs.filterMap fun a => if 1 < a then some (a - 1) else none).map D.int from fun {fl} => by
            simp only [List.filterMap_map, List.map_filterMap, Function.comp_def]
            congr 1
            funext a
            split <;> rfl]
          refine g1_tup (l := (s.hs.filterMap fun a => if 1 < a then some (a - 1) else none).map D.int) rfl ?_
          refine ⟨by decide, ?_⟩
          rw [gEq_int]
          refine ⟨by decide, q ⟨s.ah + 1, s.hs.filterMap fun a => if 1 < a then some (a - 1) else none, lf, s.ts⟩ _ _ ⟨by omega, by show _ ≤ s.ah + 1; omega, by show s.ah + 1 ≤ _; omega, fun a ha => ?_, ?_, lf0, lf1, st2, st1⟩⟩
          · obtain ⟨z, hz, e⟩ := List.mem_filterMap.mp ha
            have := sh0 z hz
            split at e
            · cases e; omega
            · cases e
          · have := List.length_filterMap_le (fun a : Int => if 1 < a then some (a - 1) else none) s.hs
            show ((s.hs.filterMap fun a => if 1 < a then some (a - 1) else none).length : Int) ≤ _
            omega

end
end My

set_option Elab.async false
set_option linter.all false
set_option maxRecDepth 100000
set_option maxHeartbeats 4000000
set_option pp.maxSteps 800
namespace My
open PySem PySem.Spec PyProof.Rows L2 DL
section
variable {P : Program} {w : World} {K : PySem.W.Frag} {mg : Str → Option Value} {base : Heap}
theorem St.Ok.mono {s : St} {m m' : Int} (h : s.Ok m) (l : m ≤ m') : s.Ok m' := by
  obtain ⟨sn, sa0, sa1, sh0, sh1, sr0, sr1, st0, st1⟩ := h
  exact ⟨by omega, by omega, by omega, sh0, by omega, fun r hr => by have := sr0 r hr; omega, by omega, fun i hi => by have := st0 i hi; omega, st1⟩
theorem sc__law_walked : FnScope ["stream", "numbering", "many", "state", "turn", "later", "is_off"] ["stream", "numbering", "many"] (defScope s__law_walked) := ⟨rfl, rfl, rfl, by decide +kernel, rfl, by decide +kernel, by decide +kernel⟩
def c__law_walked : DC := fun ds _ _ Q => ∃ (n : Num) (many : Int), ds = [.strm, n.d, .int many] ∧ n.Ok ∧ 0 ≤ many ∧ many ≤ 30 ∧ ∀ (s : St) f, s.Ok 30 → Q ⟨s.d, f, none⟩
theorem ok__law_walked (T : Txt K mg) : FnD P w K mg base 3 T.f__law_walked.f T.f__law_walked.fd ["stream", "numbering", "many"] (BIG * 10) c__law_walked := by
  refine fn_ok T.f__law_walked.ok sc__law_walked fun cdv A outer s H E hr => ⟨_, _, (dss_cons (ds_asg [] (de_tup (da_cons de_int (da_cons (de_tup da_nil) (da_cons (de_tup da_nil) (da_cons (de_tup da_nil) da_nil))))) (dg_name (pg_name (i := 3) sc__law_walked.nd rfl (Or.inl rfl))) (fun _ _ a b => ps_asg a b))
      (dss_cons (ds_for [] (passes_of rfl) rfl (di_range1 (by rfl) T.n_range (da_cons (de_var (pv 2)) da_nil)) (dg_name (pg_name (i := 4) sc__law_walked.nd rfl (Or.inl rfl)))
      (dss_cons (ds_asg [] (de_call ((ok__law_behind T).mono (by decide)) hr (by rfl) T.f__law_behind.g T.f__law_behind.ok.kp T.f__law_behind.b (passE (takes_of rfl rfl rfl rfl)) rfl (da_cons (de_var (pv 1)) (da_cons (de_var (pv 3)) (da_cons (de_call ((ok__law_pick T).mono (by decide)) hr (by rfl) T.f__law_pick.g T.f__law_pick.ok.kp T.f__law_pick.b (passE (takes_of rfl rfl rfl rfl)) rfl (da_cons (de_var (pv 0)) (da_cons (de_call ((ok__law_steps T).mono (by decide)) hr (by rfl) T.f__law_steps.g T.f__law_steps.ok.kp T.f__law_steps.b (passE (takes_of rfl rfl rfl rfl)) rfl (da_cons (de_var (pv 1)) (da_cons (de_var (pv 3)) da_nil))) da_nil))) da_nil)))) (dg_tup (n := 2) rfl (dgs_cons (dg_name (pg_name (i := 5) sc__law_walked.nd rfl (Or.inl rfl))) (dgs_cons (dg_name (pg_name (i := 6) sc__law_walked.nd rfl (Or.inl rfl))) dgs_nil))) (fun _ _ a b => ps_asg a b))
      (dss_one (ds_asg [] (de_if (dt_val (de_var (pv 6))) (de_var (pv 3)) (de_var (pv 5))) (dg_name (pg_name (i := 3) sc__law_walked.nd rfl (Or.inl rfl))) (fun _ _ a b => ps_asg a b)))))
      (dss_one (ds_ret [] (de_var (pv 3)))))), by decide +kernel, fun ds vs XQ Q hd hv h => ?_⟩
  obtain ⟨n, many, rfl, hn, h0, h1, q⟩ := h
  match vs, hv with
  | [v, v2, v3], _ =>
  try simp only [frz, params, List.zipWith, List.length_cons, List.length_nil, Nat.reduceAdd, Nat.reduceSub, List.replicate, List.append_nil, List.cons_append, List.nil_append, getV_va, Pt.sl, true_and, List.getElem?_cons_zero, List.getElem?_cons_succ, List.set_cons_zero, List.set_cons_succ, ite_self, Bool.false_eq_true, if_false, if_true]
  refine ⟨by decide, by decide, by decide, by decide, by omega, by omega, .inr (by rw [rgD_len]; show _ ≤ 16777216; omega), ?_⟩
  refine for_idx (fun i ρ => ∃ s f sl sl2 sl3, ρ = [Sl.va ⟨.strm, D.strm.imm, some v⟩, .va ⟨n.d, n.d.imm, some v2⟩, .va ⟨.int many, (D.int many).imm, some v3⟩, .va ⟨St.d s, f, none⟩, sl, sl2, sl3] ∧ s.Ok (i : Int)) _ 0 _ ⟨⟨0, [], [], []⟩, _, _, _, _, rfl, by decide, by decide, by decide, fun i h => (nomatch h), by decide, fun i h => (nomatch h), by decide, fun i h => (nomatch h), by decide⟩ (fun i x hx ρ hI K kk => ?_) fun ρ hI => ?_
  · obtain ⟨s, f, sl, sl2, sl3, rfl, ok⟩ := hI
    obtain ⟨hi, rfl⟩ := rgD_get hx
    simp only [Nat.zero_add] at ok
    try simp only [frz, params, List.zipWith, List.length_cons, List.length_nil, Nat.reduceAdd, Nat.reduceSub, List.replicate, List.append_nil, List.cons_append, List.nil_append, getV_va, Pt.sl, true_and, List.getElem?_cons_zero, List.getElem?_cons_succ, List.set_cons_zero, List.set_cons_succ, ite_self, Bool.false_eq_true, if_false, if_true]
    refine gCall_of fun _ => ⟨n, s, i, rfl, hn, ok, by omega, fun xs hne hl hxs f1 => ?_⟩
    refine gCall_of fun _ => ⟨_, xs, rfl, rfl, hne, by omega, fun y hy f2 => ?_⟩
    refine gCall_of fun _ => ⟨n, s, i, y, rfl, hn, ok, by omega, hxs y hy, fun s2 b f3 ok2 => ?_⟩
    dsimp only
    rw [unp_seq (by rfl)]
    refine ⟨rfl, ?_⟩
    simp only [List.map_cons, List.map_nil]
    refine ⟨trivial, ?_⟩
    try simp only [frz, params, List.zipWith, List.length_cons, List.length_nil, Nat.reduceAdd, Nat.reduceSub, List.replicate, List.append_nil, List.cons_append, List.nil_append, getV_va, Pt.sl, true_and, List.getElem?_cons_zero, List.getElem?_cons_succ, List.set_cons_zero, List.set_cons_succ, ite_self, Bool.false_eq_true, if_false, if_true]
    refine ⟨b, rfl, ?_⟩
    cases b
    · exact kk _ ⟨s2, _, _, _, _, rfl, by simpa using ok2⟩
    · exact kk _ ⟨s, _, _, _, _, rfl, ok.mono (by omega)⟩
  · obtain ⟨s, f, sl, sl2, sl3, rfl, ok⟩ := hI
    rw [rgD_len] at ok
    try simp only [frz, params, List.zipWith, List.length_cons, List.length_nil, Nat.reduceAdd, Nat.reduceSub, List.replicate, List.append_nil, List.cons_append, List.nil_append, getV_va, Pt.sl, true_and, List.getElem?_cons_zero, List.getElem?_cons_succ, List.set_cons_zero, List.set_cons_succ, ite_self, Bool.false_eq_true, if_false, if_true]
    exact q s _ (ok.mono (by omega))

end
end My

set_option Elab.async false
set_option linter.all false
set_option maxRecDepth 100000
set_option maxHeartbeats 4000000
set_option pp.maxSteps 2500
namespace My
open PySem PySem.Spec PyProof.Rows L2 DL
theorem looseL_mem : ∀ {xs ys : List D}, LooseL xs ys → ys.length = xs.length ∧ ∀ y ∈ ys, ∃ x ∈ xs, Loose x y
  | _, _, .nil => ⟨rfl, fun y h => (nomatch h)⟩
  | _, _, .cons a t => by
    obtain ⟨h1, h2⟩ := looseL_mem t
    refine ⟨by simp [h1], fun y hy => ?_⟩
    rcases List.mem_cons.mp hy with rfl | hy
    · exact ⟨_, by simp, a⟩
    · obtain ⟨x, hx, l⟩ := h2 y hy
      exact ⟨x, by simp [hx], l⟩
theorem Nic.loose {k w : Nat} {x : D} (h : Nic k w x) : ∀ {y : D}, Loose x y → Nic k w y := by
  induction h with
  | int h => intro y l; cases l.none rfl; exact .int h
  | bl => intro y l; cases l.none rfl; exact .bl
  | non => intro y l; cases l.none rfl; exact .non
  | str h h2 => intro y l; cases l.none rfl; exact .str h h2
  | dct => intro y l; cases l.none rfl; exact .dct
  | mono _ h1 h2 ih => intro y l; exact .mono (ih l) h1 h2
  | @tup k w l xs h1 h2 h3 ih =>
    intro y lo
    have key : ∀ {ys}, LooseL xs ys → ys.length ≤ l ∧ ∀ y ∈ ys, Nic k w y := fun e => by
      obtain ⟨e1, e2⟩ := looseL_mem e
      refine ⟨by omega, fun y hy => ?_⟩
      obtain ⟨x, hx, lx⟩ := e2 y hy
      exact ih x hx lx
    cases lo with
    | tl e => exact .lst (key e).1 h2 (key e).2
    | tt e => exact .tup (key e).1 h2 (key e).2
    | same e => cases e
  | @lst k w l xs h1 h2 h3 ih =>
    intro y lo
    have key : ∀ {ys}, LooseL xs ys → ys.length ≤ l ∧ ∀ y ∈ ys, Nic k w y := fun e => by
      obtain ⟨e1, e2⟩ := looseL_mem e
      refine ⟨by omega, fun y hy => ?_⟩
      obtain ⟨x, hx, lx⟩ := e2 y hy
      exact ih x hx lx
    cases lo with
    | ll e => exact .lst (key e).1 h2 (key e).2
    | lt e => exact .tup (key e).1 h2 (key e).2
    | same e => cases e
section
variable {P : Program} {w : World} {K : PySem.W.Frag} {mg : Str → Option Value} {base : Heap}
theorem ni {i : Int} (h : i.natAbs ≤ 10 ^ 30) : Nic 1 2000 (.int i) := .mono (.int h) (by decide) (by decide)
theorem nt6 {xs : List D} (h : xs.length ≤ 20) (hx : ∀ x ∈ xs, Nic 1 2000 x) : Nic 2 50000 (.tup xs) := .mono (.tup h (by decide) hx) (by decide) (by decide)
theorem Num.mem {n : Num} (hn : n.Ok) : ∀ x ∈ [D.int n.s, .int n.w, .int n.k, .int n.p, .int n.u], Nic 1 2000 x := fun x hx => by
  obtain ⟨hs0, hs1, hw0, hw1, hk0, hk1, hk2, hp0, hp1, hu0, hu1⟩ := hn
  simp only [List.mem_cons, List.not_mem_nil, or_false] at hx
  rcases hx with rfl | rfl | rfl | rfl | rfl <;> exact ni (by omega)
theorem Num.at {n : Num} (hn : n.Ok) {i : Nat} (h : i < 5) : ∃ z : Int, atI [D.int n.s, .int n.w, .int n.k, .int n.p, .int n.u] (i : Int) = some (.int z) ∧ -100 ≤ z ∧ z ≤ 100 := by
  obtain ⟨hs0, hs1, hw0, hw1, hk0, hk1, hk2, hp0, hp1, hu0, hu1⟩ := hn
  match i, h with
  | 0, _ => exact ⟨n.s, rfl, by omega, by omega⟩
  | 1, _ => exact ⟨n.w, rfl, by omega, by omega⟩
  | 2, _ => exact ⟨n.k, rfl, by omega, by omega⟩
  | 3, _ => exact ⟨n.p, rfl, by omega, by omega⟩
  | 4, _ => exact ⟨n.u, rfl, by omega, by omega⟩
theorem sc__law_numberings : FnScope ["stream", "numbering", "found", "at", "odd"] ["stream", "numbering"] (defScope s__law_numberings) := ⟨rfl, rfl, rfl, by decide +kernel, rfl, by decide +kernel, by decide +kernel⟩
def c__law_numberings : DC := fun ds _ _ Q => ∃ (n : Num), ds = [.strm, n.d] ∧ n.Ok ∧ ∀ xs f, xs.length ≤ 1000 → (∀ x ∈ xs, Nic 2 50000 x) → Q ⟨.lst xs, f, none⟩
theorem ok__law_numberings (T : Txt K mg) : FnD P w K mg base 1 T.f__law_numberings.f T.f__law_numberings.fd ["stream", "numbering"] 0 c__law_numberings := by
  refine fn_ok T.f__law_numberings.ok sc__law_numberings fun cdv A outer s H E hr => ⟨_, _, (dss_cons (ds_own [] (dn_lst (da_cons (de_var (pv 1)) (da_cons (de_slice (de_var (pv 1)) do_none (do_some de_int)) (da_cons (de_op dop_add (de_var (pv 1)) (de_tup (da_cons de_int da_nil))) (da_cons (de_rev (de_var (pv 1))) (da_cons de_non (da_cons de_int (da_cons de_str (da_cons (DN.de dn_dnew) (da_cons (de_lst da_nil) (da_cons (de_tup da_nil) (da_cons de_str (da_cons de_bl da_nil))))))))))))) (pg_name (i := 2) sc__law_numberings.nd rfl (Or.inl rfl)) (fun _ _ a b => ps_asg a b))
      (dss_cons (ds_for [] (passes_of rfl) rfl (di_range1 (by rfl) T.n_range (da_cons de_int da_nil)) (dg_name (pg_name (i := 3) sc__law_numberings.nd rfl (Or.inl rfl)))
      (dss_one (ds_for [] (passes_of rfl) rfl (di_seq (de_tup (da_cons (de_neg de_int) (da_cons de_int (da_cons de_int (da_cons de_int (da_cons de_int (da_cons (de_op dop_pow de_int de_int) (da_cons de_bl (da_cons de_non (da_cons de_str (da_cons (de_lst (da_cons de_int da_nil)) (da_cons (de_op dop_add (de_ix (de_var (pv 1)) (de_var (pv 3)) (fun _ _ => rfl)) de_int) (da_cons (de_op dop_sub (de_ix (de_var (pv 1)) (de_var (pv 3)) (fun _ _ => rfl)) de_int) da_nil)))))))))))))) (dg_name (pg_name (i := 4) sc__law_numberings.nd rfl (Or.inl rfl)))
      (dss_one (ds_append [] (de_op dop_add (de_op dop_add (de_slice (de_var (pv 1)) do_none (do_some (de_var (pv 3)))) (de_tup (da_cons (de_var (pv 4)) da_nil))) (de_slice (de_var (pv 1)) (do_some (de_op dop_add (de_var (pv 3)) de_int)) do_none)) (fun _ a => ps_expr (pe_bm PySem.F.plainAttrs_list PySem.F.slot_list_append PySem.F.type_list_append mt_append (pv 2) (pa_cons a pa_nil))))))))
      (dss_one (ds_ret [2] (de_var (pv 2)))))), by decide +kernel, fun ds vs XQ Q hd hv h => ?_⟩
  obtain ⟨n, rfl, hn, q⟩ := h
  match vs, hv with
  | [v, v2], _ =>
  try simp only [frz, params, List.zipWith, List.length_cons, List.length_nil, Nat.reduceAdd, Nat.reduceSub, List.replicate, List.append_nil, List.cons_append, List.nil_append, getV_va, Pt.sl, true_and, List.getElem?_cons_zero, List.getElem?_cons_succ, List.set_cons_zero, List.set_cons_succ, ite_self, Bool.false_eq_true, if_false, if_true]
  have nm := Num.mem hn
  refine ⟨4, rfl, ?_⟩
  have nq : n.d.seq = some [.int n.s, .int n.w, .int n.k, .int n.p, .int n.u] := rfl
  rw [gSl_seq nq]
  refine ⟨by decide, ?_⟩
  rw [show n.d = .tup [.int n.s, .int n.w, .int n.k, .int n.p, .int n.u] from rfl]
  rw [gAdd_tup]
  refine ⟨by simp [BIG], _, rfl, by decide, by decide, by decide, by decide, by decide, .inl rfl, ?_⟩
  simp only [D.like, List.map_cons, List.map_nil]
  refine for_idx (fun i ρ => ∃ xs f sl sl2, ρ = [Sl.va ⟨.strm, D.strm.imm, some v⟩, .va ⟨n.d, n.d.imm, some v2⟩, .ow (.lst xs) f, sl, sl2] ∧ xs.length ≤ 12 + 12 * i ∧ ∀ x ∈ xs, Nic 2 50000 x) _ 0 _ ⟨_, _, _, _, rfl, ?_, fun x hx => ?_⟩ (fun i x hx ρ hI K kk => ?_) fun ρ hI => ?_
  · simp
  · simp only [List.mem_cons, List.not_mem_nil, or_false] at hx
    rcases hx with rfl | rfl | rfl | rfl | rfl | rfl | rfl | rfl | rfl | rfl | rfl | rfl
    · exact nt6 (by simp) nm
    · exact nt6 (Nat.le_trans (cutL_len _ _ _) (by simp)) fun x hx => nm x (cutL_mem hx)
    · exact nt6 (by simp) fun x hx => by
        rcases List.mem_append.mp hx with hx | hx
        · exact nm x hx
        · simp at hx
          rw [hx]; exact ni (by decide)
    · exact nt6 (by simp) fun x hx => nm x (List.mem_reverse.mp hx)
    · exact .mono .non (by decide) (by decide)
    · exact .mono (ni (by decide)) (by decide) (by decide)
    · exact .mono (.str (by decide +kernel) (by decide +kernel)) (by decide) (by decide)
    · exact .mono .dct (by decide) (by decide)
    · exact .mono (.lst (k := 0) (w := 0) (l := 0) (by decide) (by decide) fun x h => nomatch h) (by decide) (by decide)
    · exact nt6 (by decide) fun x h => nomatch h
    · exact .mono (.str (by decide +kernel) (by decide +kernel)) (by decide) (by decide)
    · exact .mono .bl (by decide) (by decide)
  · obtain ⟨xs, f, sl, sl2, rfl, h1, h2⟩ := hI
    obtain ⟨hi, rfl⟩ := rgD_get hx
    have hi5 : i < 5 := by simpa using hi
    obtain ⟨z, ez, z0, z1⟩ := Num.at hn hi5
    try simp only [frz, params, List.zipWith, List.length_cons, List.length_nil, Nat.reduceAdd, Nat.reduceSub, List.replicate, List.append_nil, List.cons_append, List.nil_append, getV_va, Pt.sl, true_and, List.getElem?_cons_zero, List.getElem?_cons_succ, List.set_cons_zero, List.set_cons_succ, ite_self, Bool.false_eq_true, if_false, if_true]
    simp only [Int.zero_add]
    rw [gI_of]
    refine ⟨⟨by decide, by decide, by decide +kernel⟩, by decide, ?_⟩
    rw [gIx_of nq ez, gAdd_int, gIx_of nq ez, gI_of]
    refine ⟨trivial, by decide, ?_⟩
    rw [items_seq (by rfl)]
    refine ⟨.inl trivial, ?_⟩
    refine for_idx (fun j ρ => ∃ xs f sl2, ρ = [Sl.va ⟨.strm, D.strm.imm, some v⟩, .va ⟨n.d, n.d.imm, some v2⟩, .ow (.lst xs) f, .va ⟨.int i, true, none⟩, sl2] ∧ xs.length ≤ 12 + 12 * i + j ∧ ∀ x ∈ xs, Nic 2 50000 x) _ 0 _ ⟨xs, f, sl2, rfl, by omega, h2⟩ (fun j x hx2 ρ hI K kk2 => ?_) fun ρ hI => ?_
    · obtain ⟨xs, f, sl2, rfl, h1, h2⟩ := hI
      obtain ⟨y, hy, rfl⟩ := List.mem_map.mp (List.mem_of_getElem? hx2)
      have hyn : Nic 1 2000 y := by
        simp only [List.mem_cons, List.not_mem_nil, or_false] at hy
        rcases hy with rfl | rfl | rfl | rfl | rfl | rfl | rfl | rfl | rfl | rfl | rfl | rfl
        · exact ni (by decide)
        · exact ni (by decide)
        · exact ni (by decide)
        · exact ni (by decide)
        · exact ni (by decide)
        · exact ni (by decide +kernel)
        · exact .mono .bl (by decide) (by decide)
        · exact .mono .non (by decide) (by decide)
        · exact .mono (.str (by decide +kernel) (by decide +kernel)) (by decide) (by decide)
        · exact .mono (.lst (k := 0) (w := 1921) (l := 1) (Nat.le_refl _) (by decide) fun x h => by
            simp at h
            rw [h]; exact .int (by decide)) (by decide) (by decide)
        · exact ni (by omega)
        · exact ni (by omega)
      try simp only [frz, params, List.zipWith, List.length_cons, List.length_nil, Nat.reduceAdd, Nat.reduceSub, List.replicate, List.append_nil, List.cons_append, List.nil_append, getV_va, Pt.sl, true_and, List.getElem?_cons_zero, List.getElem?_cons_succ, List.set_cons_zero, List.set_cons_succ, ite_self, Bool.false_eq_true, if_false, if_true]
      refine ⟨⟨_, _, rfl⟩, _, rfl, ?_⟩
      rw [gSl_seq nq]
      refine ⟨by decide, ?_⟩
      rw [show n.d = .tup [.int n.s, .int n.w, .int n.k, .int n.p, .int n.u] from rfl]
      simp only [D.like]
      rw [gAdd_tup, gAdd_int]
      have hj : j < 12 := by simpa using (List.getElem?_eq_some_iff.mp hx2).1
      have c1 := cutL_len [D.int n.s, .int n.w, .int n.k, .int n.p, .int n.u] none (some (i : Int))
      have c2 := cutL_len [D.int n.s, .int n.w, .int n.k, .int n.p, .int n.u] (some ((i : Int) + 1)) none
      have m1 : ∀ x ∈ cutL [D.int n.s, .int n.w, .int n.k, .int n.p, .int n.u] none (some (i : Int)), Nic 1 2000 x := fun x hx => nm x (cutL_mem hx)
      have m2 : ∀ x ∈ cutL [D.int n.s, .int n.w, .int n.k, .int n.p, .int n.u] (some ((i : Int) + 1)) none, Nic 1 2000 x := fun x hx => nm x (cutL_mem hx)
      have hB : BIG = 16777216 := rfl
      simp only [List.length_cons, List.length_nil] at c1 c2
      refine ⟨by simp only [List.length_cons, List.length_nil]; omega, _, rfl, ?_⟩
      rw [gSl_seq (ds := [D.int n.s, .int n.w, .int n.k, .int n.p, .int n.u]) (by rfl)]
      simp only [D.like]
      generalize cutL [D.int n.s, .int n.w, .int n.k, .int n.p, .int n.u] none (some (i : Int)) = ca at *
      generalize cutL [D.int n.s, .int n.w, .int n.k, .int n.p, .int n.u] (some ((i : Int) + 1)) none = cb at *
      rw [gAdd_tup]
      refine ⟨by simp only [List.length_append, List.length_cons, List.length_nil]; omega, xs, f, rfl, by omega, kk2 _ ⟨_, _, _, rfl, by simp only [List.length_append, List.length_cons, List.length_nil]; omega, fun x hx => ?_⟩⟩
      rcases List.mem_append.mp hx with hx | hx
      · exact h2 x hx
      · simp only [List.mem_cons, List.not_mem_nil, or_false] at hx
        rw [hx]
        refine nt6 (by simp only [List.length_append, List.length_cons, List.length_nil]; omega) fun x hx => ?_
        rcases List.mem_append.mp hx with hx | hx
        · rcases List.mem_append.mp hx with hx | hx
          · exact m1 x hx
          · simp only [List.mem_cons, List.not_mem_nil, or_false] at hx
            rw [hx]; exact hyn
        · exact m2 x hx
    · obtain ⟨xs, f, sl2, rfl, h1, h2⟩ := hI
      simp only [List.length_map, List.length_cons, List.length_nil] at h1
      exact kk _ ⟨xs, f, _, _, rfl, by omega, h2⟩
  · obtain ⟨xs, f, sl, sl2, rfl, h1, h2⟩ := hI
    rw [rgD_len] at h1
    try simp only [frz, params, List.zipWith, List.length_cons, List.length_nil, Nat.reduceAdd, Nat.reduceSub, List.replicate, List.append_nil, List.cons_append, List.nil_append, getV_va, Pt.sl, true_and, List.getElem?_cons_zero, List.getElem?_cons_succ, List.set_cons_zero, List.set_cons_succ, ite_self, Bool.false_eq_true, if_false, if_true]
    exact q xs _ (Nat.le_trans h1 (by decide)) h2

end
end My

set_option Elab.async false
set_option linter.all false
set_option maxRecDepth 100000
set_option maxHeartbeats 4000000
set_option pp.maxSteps 6000
namespace My
open PySem PySem.Spec PyProof.Rows L2 DL
section
variable {P : Program} {w : World} {K : PySem.W.Frag} {mg : Str → Option Value} {base : Heap}
theorem gMul_tup {xs : List D} {n n' : Bool} {v v' : Option V} {k : Int} {Q : Dv → Prop} : gMul ⟨.tup xs, n, v⟩ ⟨.int k, n', v'⟩ Q = (1 ≤ k ∧ k ≤ 1000 ∧ xs.length ≤ 1000 ∧ Q ⟨.tup (List.replicate k.toNat xs).flatten, Dv.fr ⟨.tup xs, n, v⟩, none⟩) := rfl
def OddOk (x : D) : Prop := Nic 1 2000 x ∧ low1 x = true ∧ low2 x = true
theorem odd_of {n : Num} (hn : n.Ok) {x : D} (h : x ∈ [D.non, .bl true, .int (-1), .int 0, .int 1, .int 2, .int 3, .str "1", .lst [.int 1], .int (10 ^ 20)] ++ cutL [D.int n.s, .int n.w, .int n.k, .int n.p, .int n.u] (some 1) (some 4)) : OddOk x := by
  have nI : ∀ i : Int, i.natAbs ≤ 10 ^ 30 → -(10 ^ 9) ≤ i → OddOk (.int i) := fun i h1 h2 => ⟨ni h1, by simpa [low1] using h2, rfl⟩
  rcases List.mem_append.mp h with h | h
  · simp only [List.mem_cons, List.not_mem_nil, or_false] at h
    rcases h with rfl | rfl | rfl | rfl | rfl | rfl | rfl | rfl | rfl | rfl
    · exact ⟨.mono .non (by decide) (by decide), rfl, rfl⟩
    · exact ⟨.mono .bl (by decide) (by decide), rfl, rfl⟩
    · exact nI _ (by decide) (by decide)
    · exact nI _ (by decide) (by decide)
    · exact nI _ (by decide) (by decide)
    · exact nI _ (by decide) (by decide)
    · exact nI _ (by decide) (by decide)
    · exact ⟨.mono (.str (by decide +kernel) (by decide +kernel)) (by decide) (by decide), rfl, rfl⟩
    · exact ⟨.mono (.lst (k := 0) (w := 1921) (l := 1) (by decide) (by decide) fun x h => by
        rw [List.mem_singleton.mp h]; exact .int (by decide)) (by decide) (by decide), rfl, rfl⟩
    · exact nI _ (by decide +kernel) (by decide +kernel)
  · have hm := cutL_mem h
    obtain ⟨hs0, hs1, hw0, hw1, hk0, hk1, hk2, hp0, hp1, hu0, hu1⟩ := hn
    simp only [List.mem_cons, List.not_mem_nil, or_false] at hm
    rcases hm with rfl | rfl | rfl | rfl | rfl <;> exact nI _ (by omega) (by omega)
def RideOk (x : D) : Prop := Nic 2 7000 x ∧ low2 x = true
theorem ride_tup {xs : List D} (hl : xs.length ≤ 3) (h : ∀ x ∈ xs, Nic 1 2000 x ∧ low1 x = true) : RideOk (.tup xs) :=
  ⟨.mono (.tup hl (by decide) fun x hx => (h x hx).1) (by decide) (by decide), List.all_eq_true.mpr fun x hx => (h x hx).2⟩
theorem ride_of {n : Num} (hn : n.Ok) {odd x : D} (ho : OddOk odd) (h : x ∈ [D.tup [odd, .int 0], .tup [.int 0, odd], .tup [.int 0, .int 0, .int 0], .tup [.int 0], odd, .tup [.int (-5), .int 0], .tup [.int (n.w - 1), .int n.p]]) : RideOk x := by
  have nI : ∀ i : Int, i.natAbs ≤ 10 ^ 30 → -(10 ^ 9) ≤ i → Nic 1 2000 (.int i) ∧ low1 (.int i) = true := fun i h1 h2 => ⟨ni h1, by simpa [low1] using h2⟩
  have n0 := nI 0 (by decide) (by decide)
  have n5 := nI (-5) (by decide) (by decide)
  have oo : Nic 1 2000 odd ∧ low1 odd = true := ⟨ho.1, ho.2.1⟩
  obtain ⟨hs0, hs1, hw0, hw1, hk0, hk1, hk2, hp0, hp1, hu0, hu1⟩ := hn
  have nw := nI (n.w - 1) (by omega) (by omega)
  have np := nI n.p (by omega) (by omega)
  simp only [List.mem_cons, List.not_mem_nil, or_false] at h
  rcases h with rfl | rfl | rfl | rfl | rfl | rfl | rfl
  · exact ride_tup (by simp) (by simpa using ⟨oo, n0⟩)
  · exact ride_tup (by simp) (by simpa using ⟨n0, oo⟩)
  · exact ride_tup (by simp) (by simpa using n0)
  · exact ride_tup (by simp) (by simpa using n0)
  · exact ⟨ho.1.mono (by decide) (by decide), ho.2.2⟩
  · exact ride_tup (by simp) (by simpa using ⟨n5, n0⟩)
  · exact ride_tup (by simp) (by simpa using ⟨nw, np⟩)
def Ms (x : D) : Prop := Nic 4 1000000 x ∧ lowS x = true
theorem ms_of {a h t : D} {rs : List D} (ha : Nic 3 240000 a) (hh : Nic 3 240000 h) (hr : rs.length ≤ 31) (hrs : ∀ x ∈ rs, RideOk x) (ht : Nic 3 240000 t) : Ms (.tup [a, h, .tup rs, t]) := by
  refine ⟨.mono (.tup (k := 3) (w := 240000) (l := 4) (by simp) (by decide) fun x hx => ?_) (by decide) (by decide), List.all_eq_true.mpr fun x hx => (hrs x hx).2⟩
  simp only [List.mem_cons, List.not_mem_nil, or_false] at hx
  rcases hx with rfl | rfl | rfl | rfl
  · exact ha
  · exact hh
  · exact .mono (.tup hr (by decide) fun x hx => (hrs x hx).1) (by decide) (by decide)
  · exact ht
theorem has_ok {xs : List D} (h : xs.length ≤ 100) (hx : ∀ x ∈ xs, Nic 1 2000 x) : Nic 3 240000 (.tup xs) := .mono (.tup h (by decide) hx) (by decide) (by decide)
theorem ints_ok {l : List Int} (h : ∀ i ∈ l, i.natAbs ≤ 10 ^ 30) : ∀ x ∈ l.map D.int, Nic 1 2000 x := fun x hx => by
  obtain ⟨i, hi, rfl⟩ := List.mem_map.mp hx
  exact ni (h i hi)
theorem St.Ok.parts {s : St} (ok : s.Ok 30) : Nic 3 240000 (.int s.ah) ∧ (∀ x ∈ s.hs.map D.int, Nic 1 2000 x) ∧ (∀ x ∈ s.rs.map rideD, RideOk x) ∧ (∀ x ∈ s.ts.map D.int, Nic 1 2000 x) := by
  have a0 := ok.a0
  have a1 := ok.a1
  refine ⟨(ni (by omega)).mono (by decide) (by decide), ints_ok fun i hi => ?_, fun x hx => ?_, ints_ok fun i hi => ?_⟩
  · have := ok.h0 i hi; omega
  · obtain ⟨r, hr, rfl⟩ := List.mem_map.mp hx
    have := ok.r0 r hr
    refine ride_tup (by simp) fun x hx => ?_
    simp only [List.mem_cons, List.not_mem_nil, or_false] at hx
    rcases hx with rfl | rfl
    · exact ⟨ni (by omega), by simp only [low1, decide_eq_true_eq]; omega⟩
    · exact ⟨ni (by omega), by simp only [low1, decide_eq_true_eq]; omega⟩
  · have := ok.t0 i hi; omega
theorem sc__law_states : FnScope ["stream", "numbering", "found", "turn", "odd", "ride", "ahead", "has", "rides", "told"] ["stream", "numbering"] (defScope s__law_states) := ⟨rfl, rfl, rfl, by decide +kernel, rfl, by decide +kernel, by decide +kernel⟩
def c__law_states : DC := fun ds _ _ Q => ∃ (n : Num), ds = [.strm, n.d] ∧ n.Ok ∧ ∀ xs f, xs.length ≤ 1000 → (∀ x ∈ xs, Ms x) → Q ⟨.lst xs, f, none⟩
theorem ok__law_states (T : Txt K mg) : FnD P w K mg base 4 T.f__law_states.f T.f__law_states.fd ["stream", "numbering"] (BIG * (BIG * 20)) c__law_states := by
  refine fn_ok T.f__law_states.ok sc__law_states fun cdv A outer s H E hr => ⟨_, _, (dss_cons (ds_own [] (dn_lst (da_cons de_non (da_cons de_int (da_cons de_str (da_cons (DN.de dn_dnew) (da_cons (de_lst da_nil) (da_cons (de_tup da_nil) (da_cons (de_tup (da_cons de_int (da_cons (de_lst da_nil) (da_cons (de_lst da_nil) da_nil)))) (da_cons (de_tup (da_cons de_int (da_cons (de_lst da_nil) (da_cons (de_lst da_nil) (da_cons (de_lst da_nil) (da_cons (de_lst da_nil) da_nil)))))) (da_cons (de_tup (da_cons de_int (da_cons (de_lst da_nil) (da_cons de_non (da_cons (de_lst da_nil) da_nil))))) (da_cons (de_tup (da_cons de_int (da_cons (DN.de dn_dnew) (da_cons (de_lst da_nil) (da_cons (de_lst da_nil) da_nil))))) da_nil))))))))))) (pg_name (i := 2) sc__law_states.nd rfl (Or.inl rfl)) (fun _ _ a b => ps_asg a b))
      (dss_cons (ds_append [] (de_tup (da_cons de_int (da_cons de_str (da_cons (de_lst da_nil) (da_cons (de_lst da_nil) da_nil))))) (fun _ a => ps_expr (pe_bm PySem.F.plainAttrs_list PySem.F.slot_list_append PySem.F.type_list_append mt_append (pv 2) (pa_cons a pa_nil))))
      (dss_cons (ds_for [] (passes_of rfl) rfl (di_range1 (by rfl) T.n_range (da_cons de_int da_nil)) (dg_name (pg_name (i := 3) sc__law_states.nd rfl (Or.inl rfl)))
      (dss_cons (ds_asg [] (de_call ((ok__law_walked T).mono (by decide)) hr (by rfl) T.f__law_walked.g T.f__law_walked.ok.kp T.f__law_walked.b (passE (takes_of rfl rfl rfl rfl)) rfl (da_cons (de_var (pv 0)) (da_cons (de_var (pv 1)) (da_cons (de_call ((ok__law_draw T).mono (by decide)) hr (by rfl) T.f__law_draw.g T.f__law_draw.ok.kp T.f__law_draw.b (passE (takes_of rfl rfl rfl rfl)) rfl (da_cons (de_var (pv 0)) (da_cons de_int da_nil))) da_nil)))) (dg_tup (n := 4) rfl (dgs_cons (dg_name (pg_name (i := 6) sc__law_states.nd rfl (Or.inl rfl))) (dgs_cons (dg_name (pg_name (i := 7) sc__law_states.nd rfl (Or.inl rfl))) (dgs_cons (dg_name (pg_name (i := 8) sc__law_states.nd rfl (Or.inl rfl))) (dgs_cons (dg_name (pg_name (i := 9) sc__law_states.nd rfl (Or.inl rfl))) dgs_nil))))) (fun _ _ a b => ps_asg a b))
      (dss_cons (ds_asg [] (de_call ((ok__law_pick T).mono (by decide)) hr (by rfl) T.f__law_pick.g T.f__law_pick.ok.kp T.f__law_pick.b (passE (takes_of rfl rfl rfl rfl)) rfl (da_cons (de_var (pv 0)) (da_cons (de_op dop_add (de_lst (da_cons de_non (da_cons de_bl (da_cons (de_neg de_int) (da_cons de_int (da_cons de_int (da_cons de_int (da_cons de_int (da_cons de_str (da_cons (de_lst (da_cons de_int da_nil)) (da_cons (de_op dop_pow de_int de_int) da_nil))))))))))) (de_callTy dcl_list (by rfl) T.n_list (by decide +kernel) (da_cons (de_slice (de_var (pv 1)) (do_some de_int) (do_some de_int)) da_nil))) da_nil))) (dg_name (pg_name (i := 4) sc__law_states.nd rfl (Or.inl rfl))) (fun _ _ a b => ps_asg a b))
      (dss_cons (ds_extend [] (de_lst (da_cons (de_tup (da_cons (de_var (pv 6)) (da_cons (de_var (pv 7)) (da_cons (de_var (pv 8)) (da_cons (de_var (pv 9)) da_nil))))) (da_cons (de_tup (da_cons (de_var (pv 4)) (da_cons (de_var (pv 7)) (da_cons (de_var (pv 8)) (da_cons (de_var (pv 9)) da_nil))))) (da_cons (de_tup (da_cons (de_var (pv 6)) (da_cons (de_op dop_add (de_var (pv 7)) (de_tup (da_cons (de_var (pv 4)) da_nil))) (da_cons (de_var (pv 8)) (da_cons (de_var (pv 9)) da_nil))))) da_nil)))) (fun _ a => ps_expr (pe_bm PySem.F.plainAttrs_list PySem.F.slot_list_extend PySem.F.type_list_extend mt_extend (pv 2) (pa_cons a pa_nil))))
      (dss_cons (ds_extend [] (de_lst (da_cons (de_tup (da_cons (de_var (pv 6)) (da_cons (de_var (pv 7)) (da_cons (de_var (pv 8)) (da_cons (de_op dop_add (de_var (pv 9)) (de_tup (da_cons (de_var (pv 4)) da_nil))) da_nil))))) (da_cons (de_tup (da_cons (de_var (pv 6)) (da_cons (de_var (pv 7)) (da_cons (de_var (pv 8)) (da_cons (de_tup (da_cons (de_var (pv 4)) da_nil)) da_nil))))) (da_cons (de_tup (da_cons (de_var (pv 6)) (da_cons (de_tup (da_cons (de_var (pv 4)) da_nil)) (da_cons (de_var (pv 8)) (da_cons (de_var (pv 9)) da_nil))))) da_nil)))) (fun _ a => ps_expr (pe_bm PySem.F.plainAttrs_list PySem.F.slot_list_extend PySem.F.type_list_extend mt_extend (pv 2) (pa_cons a pa_nil))))
      (dss_cons (ds_asg [] (de_call ((ok__law_pick T).mono (by decide)) hr (by rfl) T.f__law_pick.g T.f__law_pick.ok.kp T.f__law_pick.b (passE (takes_of rfl rfl rfl rfl)) rfl (da_cons (de_var (pv 0)) (da_cons (de_lst (da_cons (de_tup (da_cons (de_var (pv 4)) (da_cons de_int da_nil))) (da_cons (de_tup (da_cons de_int (da_cons (de_var (pv 4)) da_nil))) (da_cons (de_tup (da_cons de_int (da_cons de_int (da_cons de_int da_nil)))) (da_cons (de_tup (da_cons de_int da_nil)) (da_cons (de_var (pv 4)) (da_cons (de_tup (da_cons (de_neg de_int) (da_cons de_int da_nil))) (da_cons (de_tup (da_cons (de_op dop_sub (de_ix (de_var (pv 1)) de_int (fun _ _ => rfl)) de_int) (da_cons (de_ix (de_var (pv 1)) de_int (fun _ _ => rfl)) da_nil))) da_nil)))))))) da_nil))) (dg_name (pg_name (i := 5) sc__law_states.nd rfl (Or.inl rfl))) (fun _ _ a b => ps_asg a b))
      (dss_cons (ds_extend [] (de_lst (da_cons (de_tup (da_cons (de_var (pv 6)) (da_cons (de_var (pv 7)) (da_cons (de_op dop_add (de_var (pv 8)) (de_tup (da_cons (de_var (pv 5)) da_nil))) (da_cons (de_var (pv 9)) da_nil))))) (da_cons (de_tup (da_cons (de_var (pv 6)) (da_cons (de_var (pv 7)) (da_cons (de_tup (da_cons (de_var (pv 5)) da_nil)) (da_cons (de_var (pv 9)) da_nil))))) da_nil))) (fun _ a => ps_expr (pe_bm PySem.F.plainAttrs_list PySem.F.slot_list_extend PySem.F.type_list_extend mt_extend (pv 2) (pa_cons a pa_nil))))
      (dss_cons (ds_extend [] (de_lst (da_cons (de_tup (da_cons (de_var (pv 6)) (da_cons (de_rev (de_var (pv 7))) (da_cons (de_var (pv 8)) (da_cons (de_var (pv 9)) da_nil))))) (da_cons (de_tup (da_cons (de_var (pv 6)) (da_cons (de_op dop_mul (de_var (pv 7)) de_int) (da_cons (de_var (pv 8)) (da_cons (de_var (pv 9)) da_nil))))) da_nil))) (fun _ a => ps_expr (pe_bm PySem.F.plainAttrs_list PySem.F.slot_list_extend PySem.F.type_list_extend mt_extend (pv 2) (pa_cons a pa_nil))))
      (dss_cons (ds_append [] (de_tup (da_cons (de_var (pv 6)) (da_cons (de_var (pv 7)) (da_cons (de_op dop_mul (de_slice (de_var (pv 8)) do_none (do_some de_int)) (de_ix (de_var (pv 1)) de_int (fun _ _ => rfl))) (da_cons (de_var (pv 9)) da_nil))))) (fun _ a => ps_expr (pe_bm PySem.F.plainAttrs_list PySem.F.slot_list_append PySem.F.type_list_append mt_append (pv 2) (pa_cons a pa_nil))))
      (dss_one (ds_append [] (de_tup (da_cons (de_var (pv 6)) (da_cons (de_var (pv 7)) (da_cons (de_op dop_mul (de_slice (de_var (pv 8)) do_none (do_some de_int)) (de_op dop_add (de_ix (de_var (pv 1)) de_int (fun _ _ => rfl)) de_int)) (da_cons (de_var (pv 9)) da_nil))))) (fun _ a => ps_expr (pe_bm PySem.F.plainAttrs_list PySem.F.slot_list_append PySem.F.type_list_append mt_append (pv 2) (pa_cons a pa_nil))))))))))))))
      (dss_one (ds_ret [2] (de_var (pv 2))))))), by decide +kernel, fun ds vs XQ Q hd hv h => ?_⟩
  obtain ⟨n, rfl, hn, q⟩ := h
  match vs, hv with
  | [v, v2], _ =>
  try simp only [frz, params, List.zipWith, List.length_cons, List.length_nil, Nat.reduceAdd, Nat.reduceSub, List.replicate, List.append_nil, List.cons_append, List.nil_append, getV_va, Pt.sl, true_and, List.getElem?_cons_zero, List.getElem?_cons_succ, List.set_cons_zero, List.set_cons_succ, ite_self, Bool.false_eq_true, if_false, if_true]
  refine ⟨by decide, by decide, by decide, by decide, by decide, by decide, by decide, by decide, by decide, by decide, by decide, by decide, by decide, by decide, by decide, by decide, by decide, ⟨_, _, rfl⟩, by decide, by decide, by decide, _, _, rfl, by decide, by decide, by decide, .inr (by rw [rgD_len]; decide), ?_⟩
  simp only [List.map_cons, List.map_nil, List.cons_append, List.nil_append]
  refine for_idx (fun i ρ => ∃ xs f s1 s2 s3 s4 s5 s6 s7, ρ = [Sl.va ⟨.strm, D.strm.imm, some v⟩, .va ⟨n.d, n.d.imm, some v2⟩, .ow (.lst xs) f, s1, s2, s3, s4, s5, s6, s7] ∧ xs.length ≤ 11 + 12 * i ∧ ∀ x ∈ xs, Ms x) _ 0 _ ⟨_, _, _, _, _, _, _, _, _, rfl, by simp, fun x hx => ?_⟩ (fun i x hx ρ hI K kk => ?_) fun ρ hI => ?_
  · have n0 : Nic 1 10000 (.int 0) := .mono (.int (by decide)) (by decide) (by decide)
    have ne : Nic 1 10000 (.lst []) := .mono (.lst (k := 0) (w := 0) (l := 0) (by decide) (by decide) fun x h => nomatch h) (by decide) (by decide)
    have nn : Nic 1 10000 .non := .mono .non (by decide) (by decide)
    have nd : Nic 2 10000 (.dct []) := .mono .dct (by decide) (by decide)
    have ns : Nic 1 10000 (.str "") := .mono (.str (by decide +kernel) (by decide +kernel)) (by decide) (by decide)
    have tp : ∀ {xs : List D}, xs.length ≤ 5 → (∀ x ∈ xs, x = .int 0 ∨ x = .lst [] ∨ x = .non ∨ x = .dct [] ∨ x = .str "") → Nic 4 1000000 (.tup xs) := fun h hx => .mono (.tup (k := 2) (w := 10000) (l := 5) h (by decide) fun x hm => by
      rcases hx x hm with rfl | rfl | rfl | rfl | rfl
      · exact n0.mono (by decide) (by decide)
      · exact ne.mono (by decide) (by decide)
      · exact nn.mono (by decide) (by decide)
      · exact nd
      · exact ns.mono (by decide) (by decide)) (by decide) (by decide)
    simp only [List.mem_cons, List.not_mem_nil, or_false] at hx
    rcases hx with rfl | rfl | rfl | rfl | rfl | rfl | rfl | rfl | rfl | rfl | rfl
    · exact ⟨nn.mono (by decide) (by decide), rfl⟩
    · exact ⟨.mono (.int (by decide)) (by decide) (by decide), rfl⟩
    · exact ⟨.mono (.str (by decide +kernel) (by decide +kernel)) (by decide) (by decide), rfl⟩
    · exact ⟨nd.mono (by decide) (by decide), rfl⟩
    · exact ⟨ne.mono (by decide) (by decide), rfl⟩
    · exact ⟨tp (by decide) (fun x h => nomatch h), rfl⟩
    · exact ⟨tp (by decide) (by simp), rfl⟩
    · exact ⟨tp (by decide) (by simp), rfl⟩
    · exact ⟨tp (by decide) (by simp), rfl⟩
    · exact ⟨tp (by decide) (by simp), rfl⟩
    · exact ⟨tp (by decide) (by simp), rfl⟩
  · obtain ⟨xs, f, s1, s2, s3, s4, s5, s6, s7, rfl, h1, h2⟩ := hI
    obtain ⟨hi, rfl⟩ := rgD_get hx
    have hi6 : i < 6 := by simpa using hi
    try simp only [frz, params, List.zipWith, List.length_cons, List.length_nil, Nat.reduceAdd, Nat.reduceSub, List.replicate, List.append_nil, List.cons_append, List.nil_append, getV_va, Pt.sl, true_and, List.getElem?_cons_zero, List.getElem?_cons_succ, List.set_cons_zero, List.set_cons_succ, ite_self, Bool.false_eq_true, if_false, if_true]
    have nq : n.d.seq = some [.int n.s, .int n.w, .int n.k, .int n.p, .int n.u] := rfl
    refine gCall_of fun _ => ⟨30, rfl, by decide, by decide, fun m m0 m1 => ?_⟩
    dsimp only
    refine gCall_of fun _ => ⟨n, m, rfl, hn, m0, by omega, fun st f2 ok => ?_⟩
    dsimp only
    rw [unp_seq (by rfl)]
    refine ⟨rfl, ?_⟩
    simp only [List.map_cons, List.map_nil]
    refine ⟨trivial, ?_⟩
    try simp only [frz, params, List.zipWith, List.length_cons, List.length_nil, Nat.reduceAdd, Nat.reduceSub, List.replicate, List.append_nil, List.cons_append, List.nil_append, getV_va, Pt.sl, true_and, List.getElem?_cons_zero, List.getElem?_cons_succ, List.set_cons_zero, List.set_cons_succ, ite_self, Bool.false_eq_true, if_false, if_true]
    refine ⟨by decide, ?_⟩
    rw [gI_of]
    refine ⟨⟨by decide, by decide, by decide +kernel⟩, by decide, _, rfl, _, rfl, ?_⟩
    rw [gSl_seq nq]
    refine g1_list (l := cutL [.int n.s, .int n.w, .int n.k, .int n.p, .int n.u] (some 1) (some 4)) rfl ?_
    rw [gAdd_lst]
    have hB : BIG = 16777216 := rfl
    have c1 := cutL_len [D.int n.s, .int n.w, .int n.k, .int n.p, .int n.u] (some 1) (some 4)
    simp only [List.length_cons, List.length_nil] at c1
    refine ⟨by simp only [List.length_cons, List.length_nil]; omega, gCall_of fun _ => ⟨_, _, rfl, rfl, by simp, by simp only [List.length_append, List.length_cons, List.length_nil]; omega, fun odd ho f3 => ?_⟩⟩
    dsimp only
    simp (config := {maxSteps := 2000000}) only [List.set_cons_zero, List.set_cons_succ, List.getElem?_cons_zero, List.getElem?_cons_succ, getV_va]
    try simp only [frz, params, List.zipWith, List.length_cons, List.length_nil, Nat.reduceAdd, Nat.reduceSub, List.replicate, List.append_nil, List.cons_append, List.nil_append, getV_va, Pt.sl, true_and, List.getElem?_cons_zero, List.getElem?_cons_succ, List.set_cons_zero, List.set_cons_succ, ite_self, Bool.false_eq_true, if_false, if_true]
    generalize Dv.fr ⟨St.d st, f2, none⟩ = fs
    have t1 := ok.t1
    have r1 := ok.r1
    have h1' := ok.h1
    refine ⟨⟨_, _, rfl⟩, by decide, by decide, by decide, ?_⟩
    rw [gAdd_tup]
    refine ⟨by simp only [List.length_map, List.length_cons, List.length_nil]; omega, by decide, by decide, xs, f, _, rfl, rfl, by simp only [List.length_map, List.length_cons, List.length_nil]; omega, ⟨_, _, rfl⟩, by decide, ?_⟩
    rw [gAdd_tup]
    refine ⟨by simp only [List.length_map, List.length_cons, List.length_nil]; omega, by decide, by decide, by decide, by decide, by decide, by decide, _, _, _, rfl, rfl, by simp only [List.length_append, List.length_map, List.length_cons, List.length_nil]; omega, ?_⟩
    dsimp only
    simp (config := {maxSteps := 2000000}) only [List.append_assoc, List.cons_append, List.nil_append]
    generalize fg1 : ((f && _) && _ : Bool) = g1
    clear fg1
    refine ⟨by decide, by decide, by decide, by decide, by decide, ?_⟩
    rw [gIx_of nq (show atI [D.int n.s, .int n.w, .int n.k, .int n.p, .int n.u] 1 = some (.int n.w) from rfl), gI_of]
    refine ⟨trivial, ?_⟩
    rw [gIx_of nq (show atI [D.int n.s, .int n.w, .int n.k, .int n.p, .int n.u] 3 = some (.int n.p) from rfl)]
    refine ⟨by decide, by decide, gCall_of fun _ => ⟨_, _, rfl, rfl, by simp, by simp, fun ride hd f4 => ?_⟩⟩
    dsimp only
    have hrd := ride_of hn (odd_of hn ho) hd
    obtain ⟨pa, ph, pr, pt⟩ := ok.parts
    obtain ⟨oo1, oo2, oo3⟩ := odd_of hn ho
    have lh : st.hs.length ≤ 30 := by omega
    have lr : st.rs.length ≤ 30 := by omega
    have pa1 : Nic 3 240000 odd := oo1.mono (by decide) (by decide)
    have mh : Nic 3 240000 (.tup (st.hs.map D.int)) := has_ok (by rw [List.length_map]; omega) ph
    have mt : Nic 3 240000 (.tup (st.ts.map D.int)) := has_ok (by rw [List.length_map]; omega) pt
    have lr31 : (st.rs.map rideD).length ≤ 31 := by rw [List.length_map]; omega
    have app : ∀ {l : List D}, l.length ≤ 30 → (∀ x ∈ l, Nic 1 2000 x) → Nic 3 240000 (.tup (l ++ [odd])) := fun h hx => has_ok (by rw [List.length_append, List.length_singleton]; omega) fun x hm => by
      rcases List.mem_append.mp hm with hm | hm
      · exact hx x hm
      · rw [List.mem_singleton.mp hm]; exact oo1
    have mo : Nic 3 240000 (.tup [odd]) := app (l := []) (by simp) fun x h => nomatch h
    obtain ⟨ys, hys, hy1, hy2⟩ : ∃ ys, ys = xs ++ [.tup [.int st.ah, .tup (st.hs.map D.int), .tup (st.rs.map rideD), .tup (st.ts.map D.int)], .tup [odd, .tup (st.hs.map D.int), .tup (st.rs.map rideD), .tup (st.ts.map D.int)], .tup [.int st.ah, .tup (st.hs.map D.int ++ [odd]), .tup (st.rs.map rideD), .tup (st.ts.map D.int)],
        .tup [.int st.ah, .tup (st.hs.map D.int), .tup (st.rs.map rideD), .tup (st.ts.map D.int ++ [odd])], .tup [.int st.ah, .tup (st.hs.map D.int), .tup (st.rs.map rideD), .tup [odd]], .tup [.int st.ah, .tup [odd], .tup (st.rs.map rideD), .tup (st.ts.map D.int)]] ∧ ys.length ≤ 17 + 12 * i ∧ ∀ x ∈ ys, Ms x := by
      refine ⟨_, rfl, by rw [List.length_append]; simp only [List.length_cons, List.length_nil]; omega, fun x hx => ?_⟩
      rcases List.mem_append.mp hx with hx | hx
      · exact h2 x hx
      · simp only [List.mem_cons, List.not_mem_nil, or_false] at hx
        rcases hx with rfl | rfl | rfl | rfl | rfl | rfl
        · exact ms_of pa mh lr31 pr mt
        · exact ms_of pa1 mh lr31 pr mt
        · exact ms_of pa (app (by rw [List.length_map]; omega) ph) lr31 pr mt
        · exact ms_of pa mh lr31 pr (app (by rw [List.length_map]; omega) pt)
        · exact ms_of pa mh lr31 pr mo
        · exact ms_of pa mo lr31 pr mt
    rw [← hys]
    clear hys h2 h1
    refine ⟨⟨_, _, rfl⟩, by decide, ?_⟩
    rw [gAdd_tup]
    refine ⟨by simp only [List.length_map, List.length_cons, List.length_nil, hB]; omega, by decide, by decide, by decide, by decide, _, _, _, rfl, rfl, by simp only [List.length_cons, List.length_nil, hB]; omega, ⟨_, _, rfl⟩, ?_⟩
    refine ⟨_, rfl, by decide, ?_⟩
    rw [gMul_tup]
    have mx2 : ∀ x ∈ (List.replicate (2 : Int).toNat (st.hs.map D.int)).flatten, Nic 1 2000 x := fun x hx => by
      obtain ⟨l, hl, hx⟩ := List.mem_flatten.mp hx
      rw [List.eq_of_mem_replicate hl] at hx
      exact ph x hx
    have mrev : Nic 3 240000 (.tup (st.hs.map D.int).reverse) := has_ok (by rw [List.length_reverse, List.length_map]; omega) fun x hx => ph x (List.mem_reverse.mp hx)
    have mm2 : Nic 3 240000 (.tup (List.replicate (2 : Int).toNat (st.hs.map D.int)).flatten) := has_ok (by simp; omega) mx2
    obtain ⟨zs, hzs, hz1, hz2⟩ : ∃ zs, zs = ys ++ [.tup [.int st.ah, .tup (st.hs.map D.int), .tup (st.rs.map rideD ++ [ride]), .tup (st.ts.map D.int)], .tup [.int st.ah, .tup (st.hs.map D.int), .tup [ride], .tup (st.ts.map D.int)], .tup [.int st.ah, .tup (st.hs.map D.int).reverse, .tup (st.rs.map rideD), .tup (st.ts.map D.int)], .tup [.int st.ah, .tup (List.replicate (2 : Int).toNat (st.hs.map D.int)).flatten, .tup (st.rs.map rideD), .tup (st.ts.map D.int)]] ∧ zs.length ≤ 21 + 12 * i ∧ ∀ x ∈ zs, Ms x := by
      refine ⟨_, rfl, by rw [List.length_append]; simp only [List.length_cons, List.length_nil]; omega, fun x hx => ?_⟩
      rcases List.mem_append.mp hx with hx | hx
      · exact hy2 x hx
      · simp only [List.mem_cons, List.not_mem_nil, or_false] at hx
        rcases hx with rfl | rfl | rfl | rfl
        · exact ms_of pa mh (by rw [List.length_append, List.length_map, List.length_singleton]; omega) (fun x hx => by
            rcases List.mem_append.mp hx with hx | hx
            · exact pr x hx
            · rw [List.mem_singleton.mp hx]; exact hrd) mt
        · exact ms_of pa mh (by simp) (fun x hx => by rw [List.mem_singleton.mp hx]; exact hrd) mt
        · exact ms_of pa mrev lr31 pr mt
        · exact ms_of pa mm2 lr31 pr mt
    refine ⟨by decide, by decide, by rw [List.length_map]; omega, by decide, by decide, _, _, _, rfl, rfl, by simp only [List.length_append, List.length_cons, List.length_nil, hB]; omega, ?_⟩
    dsimp only [D.like]
    simp (config := {maxSteps := 2000000}) only [List.append_assoc, List.cons_append, List.nil_append]
    rw [← hzs]
    clear hzs hy2 hy1
    obtain ⟨hs0, hs1, hw0, hw1, hk0, hk1, hk2, hp0, hp1, hu0, hu1⟩ := id hn
    have c2 := cutL_len (st.rs.map rideD) none (some 1)
    rw [List.length_map] at c2
    have c3 : (cutL (st.rs.map rideD) none (some 1)).length ≤ 1 := by
      unfold cutL
      rw [List.length_take]
      refine Nat.le_trans (Nat.min_le_left _ _) ?_
      simp only [HT.sIx]
      rw [if_neg (by decide)]
      exact Nat.le_trans (Nat.sub_le _ _) (Nat.min_le_left _ _)
    have mr : ∀ x ∈ cutL (st.rs.map rideD) none (some 1), RideOk x := fun x hx => pr x (cutL_mem hx)
    have mm : ∀ k : Int, 1 ≤ k → k ≤ 3 → Ms (.tup [.int st.ah, .tup (st.hs.map D.int), .tup (List.replicate k.toNat (cutL (st.rs.map rideD) none (some 1))).flatten, .tup (st.ts.map D.int)]) := fun k k1 k3 => ms_of pa mh (by
        rw [List.length_flatten, List.map_replicate, List.sum_replicate_nat]
        have := Nat.mul_le_mul (show k.toNat ≤ 3 by omega) c3
        omega) (fun x hx => by
        obtain ⟨l, hl, hx⟩ := List.mem_flatten.mp hx
        rw [List.eq_of_mem_replicate hl] at hx
        exact mr x hx) mt
    refine ⟨⟨_, _, rfl⟩, _, rfl, ?_⟩
    rw [gSl_seq (x := ⟨.tup (st.rs.map rideD), _, _⟩) (by rfl)]
    dsimp only [D.like]
    rw [gIx_of nq (show atI [D.int n.s, .int n.w, .int n.k, .int n.p, .int n.u] 4 = some (.int n.u) from rfl), gMul_tup]
    refine ⟨by omega, by omega, by omega, by decide, _, _, rfl, by omega, ⟨_, _, rfl⟩, _, rfl, ?_⟩
    rw [gSl_seq (x := ⟨.tup (st.rs.map rideD), _, _⟩) (by rfl)]
    dsimp only [D.like]
    rw [gIx_of nq (show atI [D.int n.s, .int n.w, .int n.k, .int n.p, .int n.u] 4 = some (.int n.u) from rfl), gAdd_int, gMul_tup]
    refine ⟨by omega, by omega, by omega, by decide, _, _, rfl, by simp only [List.length_append, List.length_singleton]; omega, ?_⟩
    refine kk _ ⟨_, _, _, _, _, _, _, _, _, rfl, by simp only [List.length_append, List.length_singleton]; omega, fun x hx => ?_⟩
    rcases List.mem_append.mp hx with hx | hx
    · rcases List.mem_append.mp hx with hx | hx
      · exact hz2 x hx
      · rw [List.mem_singleton.mp hx]; exact mm n.u (by omega) (by omega)
    · rw [List.mem_singleton.mp hx]; exact mm (n.u + 1) (by omega) (by omega)
  · obtain ⟨xs, f, s1, s2, s3, s4, s5, s6, s7, rfl, h1, h2⟩ := hI
    rw [rgD_len] at h1
    try simp only [frz, params, List.zipWith, List.length_cons, List.length_nil, Nat.reduceAdd, Nat.reduceSub, List.replicate, List.append_nil, List.cons_append, List.nil_append, getV_va, Pt.sl, true_and, List.getElem?_cons_zero, List.getElem?_cons_succ, List.set_cons_zero, List.set_cons_succ, ite_self, Bool.false_eq_true, if_false, if_true]
    exact q xs _ (Nat.le_trans h1 (by decide)) h2

end
end My

set_option Elab.async false
set_option linter.all false
set_option maxRecDepth 100000
set_option maxHeartbeats 4000000
set_option pp.maxSteps 6000
namespace My
open PySem PySem.Spec PyProof.Rows L2 DL
mutual
theorem Loose.symm : ∀ {x y : D}, Loose x y → Loose y x
  | _, _, .ll h => .ll (LooseL.symm h)
  | _, _, .lt h => .tl (LooseL.symm h)
  | _, _, .tl h => .lt (LooseL.symm h)
  | _, _, .tt h => .tt (LooseL.symm h)
  | _, _, .same h => .same h
theorem LooseL.symm : ∀ {x y : List D}, LooseL x y → LooseL y x
  | _, _, .nil => .nil
  | _, _, .cons a t => .cons (Loose.symm a) (LooseL.symm t)
end
theorem LooseL.ints : ∀ {ns : List Int} {ys : List D}, LooseL (ns.map D.int) ys → ys = ns.map D.int
  | [], _, h => by cases h; rfl
  | i :: ns, _, h => by
    cases h with
    | cons a t => rw [a.none rfl, LooseL.ints t]; rfl
theorem loose_num1 {x y : D} (h : Loose x y) (e : isNumbering x = true) : isNumbering y = true := by
  obtain ⟨s, w, k, p, u, es⟩ := isNumbering_seq e
  obtain ⟨ys, ey, l⟩ := h.seq es
  have e2 := LooseL.ints (ns := [s, w, k, p, u]) l
  subst e2
  unfold isNumbering at e ⊢
  rw [es] at e
  rw [ey]
  exact e
theorem bool_two {a b : Bool} (h1 : a = true → b = true) (h2 : b = true → a = true) : b = a := by
  cases a <;> cases b <;> simp_all
theorem loose_num {x y : D} (h : Loose x y) : isNumbering y = isNumbering x := bool_two (loose_num1 h) (loose_num1 h.symm)
theorem loose_ride1 {w p : Int} {x y : D} (h : Loose x y) (e : isRide w p x = true) : isRide w p y = true := by
  have e0 := e
  unfold isRide at e
  split at e
  · rename_i a b es
    obtain ⟨ys, ey, l⟩ := h.seq es
    have e2 := LooseL.ints (ns := [a, b]) l
    subst e2
    unfold isRide
    rw [ey]
    exact e
  · cases e
theorem looseL_rides {w p : Int} : ∀ {xs ys : List D}, LooseL xs ys → xs.all (isRide w p) = true → ys.all (isRide w p) = true
  | _, _, .nil, _ => rfl
  | _, _, .cons a t, e => by
    simp only [List.all_cons, Bool.and_eq_true] at e ⊢
    exact ⟨loose_ride1 a e.1, looseL_rides t e.2⟩
theorem looseL_numIn {lo hi : Int} {xs ys : List D} (h : LooseL xs ys) (e : xs.all (numIn lo hi) = true) : ys = xs := by
  have e1 := numIn_ints e
  rw [e1] at h
  rw [LooseL.ints h, ← e1]
theorem loose_state1 {w k p u : Int} {x y : D} (h : Loose x y) (e : isState w k p u x = true) : isState w k p u y = true := by
  unfold isState at e
  split at e
  · rename_i ah hh r t es
    obtain ⟨ys, ey, l⟩ := h.seq es
    cases l with
    | cons l0 l =>
    cases l with
    | cons l1 l =>
    cases l with
    | cons l2 l =>
    cases l with
    | cons l3 l =>
    cases l
    rw [l0.none rfl] at ey
    split at e
    · rename_i hs rs ts e1 e2 e3
      obtain ⟨hs', f1, m1⟩ := l1.seq e1
      obtain ⟨rs', f2, m2⟩ := l2.seq e2
      obtain ⟨ts', f3, m3⟩ := l3.seq e3
      simp only [Bool.and_eq_true] at e
      obtain ⟨⟨⟨⟨⟨⟨q1, q2⟩, q3⟩, q4⟩, q5⟩, q6⟩, q7⟩ := e
      rw [looseL_numIn m1 q2] at f1
      rw [looseL_numIn m3 q7] at f3
      have lr := (looseL_mem m2).1
      unfold isState
      rw [ey]
      simp only [f1, f2, f3, Bool.and_eq_true]
      exact ⟨⟨⟨⟨⟨⟨q1, q2⟩, q3⟩, by rw [lr]; exact q4⟩, looseL_rides m2 q5⟩, q6⟩, q7⟩
    · cases e
  · cases e
theorem loose_state {w k p u : Int} {x y : D} (h : Loose x y) : isState w k p u y = isState w k p u x := bool_two (loose_state1 h) (loose_state1 h.symm)
theorem Num.good {n : Num} (hn : n.Ok) : isNumbering n.d = true := by
  obtain ⟨hs0, hs1, hw0, hw1, hk0, hk1, hk2, hp0, hp1, hu0, hu1⟩ := hn
  simp only [isNumbering, Num.d, D.seq, decide_eq_true_eq]
  omega
theorem Num.nic {n : Num} (hn : n.Ok) : Nic 2 50000 n.d := nt6 (by simp) (Num.mem hn)
section
variable {P : Program} {w : World} {K : PySem.W.Frag} {mg : Str → Option Value} {base : Heap}
theorem sc__law_stream : FnScope ["script"] ["script"] (defScope s__law_stream) := ⟨rfl, rfl, rfl, by decide +kernel, rfl, by decide +kernel, by decide +kernel⟩
theorem ok__law_stream (T : Txt K mg) : FnOk P w K mg base (L2.CX P w) 1 T.f__law_stream.f T.f__law_stream.fd ["script"] spLay :=
  T.f__law_stream.ok.ok sc__law_stream (fun vs H Q E h => h.1) (fun cdv A outer s H vs Q E hr h => by
    obtain ⟨hl, a, xs, rfl, ha, l, q⟩ := h
    refine ⟨_, pss_one (ps_ret (pe_lst (pa_cons (pe_callTy call_list_of (by rfl) T.n_list (by decide +kernel) (pa_cons (pv 0) pa_nil)) (pa_cons pe_int (pa_cons pe_int (pa_cons pe_int pa_nil)))))), ?_⟩
    refine ⟨_, rfl, a, xs, rfl, .inl (.of ha), fun p hp => ?_⟩
    refine ⟨by show 4 ≤ sizeLine; rw [sizeLine_eq]; decide, fun r hr => ?_⟩
    exact q p r hp hr)
end
end My

set_option Elab.async false
set_option linter.all false
set_option maxRecDepth 100000
set_option maxHeartbeats 4000000
set_option pp.maxSteps 6000
namespace My
open PySem PySem.Spec PyProof.Rows L2 DL
section
variable {P : Program} {w : World} {K : PySem.W.Frag} {mg : Str → Option Value} {base : Heap}
theorem sc__law_met : FnScope ["ask", "e"] ["ask"] (defScope s__law_met) := ⟨rfl, rfl, rfl, by decide +kernel, rfl, by decide +kernel, by decide +kernel⟩
theorem iteB {c : Prop} [Decidable c] {A B : Prop} (ha : A) (hb : B) : if c then A else B := by
  by_cases h : c
  · rw [if_pos h]; exact ha
  · rw [if_neg h]; exact hb
theorem gRepr_of {x : D} {k w : Nat} {n : Bool} {v : Option V} {Q : Dv → Prop} (h : Nic k w x) (hk : k ≤ 60) (hw : w ≤ BIG) (hsm : ∃ o, K.lookup sysModules = some o) (q : Q ⟨.str x.pyd.shown, true, none⟩) : gRepr K ⟨x, n, v⟩ Q :=
  ⟨h.all.2.2.1, Nat.le_trans h.all.2.2.2.2.2 hw, Nat.le_trans h.all.2.2.2.2.1 hk, fun _ => hsm, q⟩
theorem sc_law : FnScope ["script", "turn", "stream", "numbering", "thing", "lain", "number", "due", "handed", "passed", "was", "found"] ["script"] (defScope s_law) := ⟨rfl, rfl, rfl, by decide +kernel, rfl, by decide +kernel, by decide +kernel⟩
def c_law : DC := fun ds vs XQ Q => ∃ a : Addr, ds = [.vee (.ref a)] ∧ vs = [.ref a] ∧ XQ .none "" .non ∧ XQ .none "script" (.ref a) ∧ Q ⟨.bl true, true, none⟩
theorem ok_law (T : Txt K mg) (hsm : ∃ o, K.lookup sysModules = some o) (TB : LamX.TabB base mg (He.codeOf K ("law", none)) (He.tabOf K (He.codeOf K ("law", none)))) (hcc : T.f_law.fd.code = .ref (He.codeOf K ("law", none))) (exm : PySem.W.exmOne K (.ref T.e_BadNumbering.C) (.ref T.e_BadNumbering.C) = some true) : FnG P w K mg base 10 T.f_law.f T.f_law.fd ["script"] (BIG ^ 20) c_law := by
  refine fnG_ok T.f_law.ok sc_law fun A outer s H E hr hgd => ⟨_, _, (dss_cons (ds_for [] (passes_of rfl) rfl (di_range1 (by rfl) T.n_range (da_cons de_int da_nil)) (dg_name (pg_name (i := 1) sc_law.nd rfl (Or.inl rfl)))
      (dss_strm (dstrm_call ((ok__law_stream T).mono (by decide)) hr (by rfl) T.f__law_stream.g T.f__law_stream.ok.kp T.f__law_stream.b (passE (takes_of rfl rfl rfl rfl)) rfl (da_cons (de_op dop_add (de_scr (by rfl) T.n_list (da_cons (de_var (pv 0)) da_nil)) (de_lst (da_cons (de_var (pv 1)) da_nil))) da_nil)) (pg_name (i := 2) sc_law.nd rfl (Or.inl rfl)) (fun _ _ a b => ps_asg a b)
      (dss_cons (ds_asg [] (de_call ((ok__law_numbering T).mono (by decide)) hr (by rfl) T.f__law_numbering.g T.f__law_numbering.ok.kp T.f__law_numbering.b (passE (takes_of rfl rfl rfl rfl)) rfl (da_cons (de_var (pv 2)) (da_cons de_int da_nil))) (dg_name (pg_name (i := 3) sc_law.nd rfl (Or.inl rfl))) (fun _ _ a b => ps_asg a b))
      (dss_cons (ds_for [] (passes_of rfl) rfl (di_seq (de_call ((ok__law_mixed T).mono (by decide)) hr (by rfl) T.f__law_mixed.g T.f__law_mixed.ok.kp T.f__law_mixed.b (passE (takes_of rfl rfl rfl rfl)) rfl (da_cons (de_var (pv 2)) (da_cons (de_call ((ok__law_numberings T).mono (by decide)) hr (by rfl) T.f__law_numberings.g T.f__law_numberings.ok.kp T.f__law_numberings.b (passE (takes_of rfl rfl rfl rfl)) rfl (da_cons (de_var (pv 2)) (da_cons (de_var (pv 3)) da_nil))) da_nil)))) (dg_name (pg_name (i := 4) sc_law.nd rfl (Or.inl rfl)))
      (dss_cons (ds_asg [] (de_tup (da_cons (de_call ((ok__law_is_numbering T).mono (by decide)) hr (by rfl) T.f__law_is_numbering.g T.f__law_is_numbering.ok.kp T.f__law_is_numbering.b (passE (takes_of rfl rfl rfl rfl)) rfl (da_cons (de_var (pv 4)) da_nil)) (da_cons (de_call ((ok__law_loose T 7).mono (by decide)) hr (by rfl) T.f__law_loose.g T.f__law_loose.ok.kp T.f__law_loose.b (passE (takes_of rfl rfl rfl rfl)) rfl (da_cons (de_var (pv 2)) (da_cons (de_var (pv 4)) da_nil))) da_nil))) (dg_tup (n := 2) rfl (dgs_cons (dg_name (pg_name (i := 7) sc_law.nd rfl (Or.inl rfl))) (dgs_cons (dg_name (pg_name (i := 8) sc_law.nd rfl (Or.inr rfl))) dgs_nil))) (fun _ _ a b => ps_asg a b))
      (dss_cons (ds_asg [] (de_callB (dcl_repr hgd (hr.mono (by decide))) (by rfl) T.n_repr (by decide +kernel) (da_cons (de_var (pv 8)) da_nil)) (dg_name (pg_name (i := 5) sc_law.nd rfl (Or.inl rfl))) (fun _ _ a b => ps_asg a b))
      (dss_cons (ds_if [] (DW.dt (dw_or (dt_not (dt_val (de_call ((ok__law_same T 7).mono (by decide)) hr (by rfl) T.f__law_same.g T.f__law_same.ok.kp T.f__law_same.b (passE (takes_of rfl rfl rfl rfl)) rfl (da_cons (de_lst (da_cons (de_call ((ok_is_numbering T).mono (by decide)) hr (by rfl) T.f_is_numbering.g T.f_is_numbering.ok.kp T.f_is_numbering.b (passE (takes_of rfl rfl rfl rfl)) rfl (da_cons (de_var (pv 8)) da_nil)) (da_cons (de_callNK (ks := ["thing"]) (ix := [0]) ((ok_is_numbering T).mono (by decide)) hr (by rfl) T.f_is_numbering.g T.f_is_numbering.ok.kp (kbn_of [0] T.f_is_numbering.ok fun _ _ _ _ _ _ ws hl => match ws, hl with | [_], _ => rfl) (passE (takes_of rfl rfl rfl rfl)) (dk_cons (de_var (pv 8)) dk_nil)) da_nil))) (da_cons (de_lst (da_cons (de_var (pv 7)) (da_cons (de_var (pv 7)) da_nil))) da_nil))))) (dw_or1 (dt_cmp dop_neS (de_callB (dcl_repr hgd (hr.mono (by decide))) (by rfl) T.n_repr (by decide +kernel) (da_cons (de_var (pv 8)) da_nil)) (de_var (pv 5)) (nomark _))))) (dss_one (ds_ret [] de_bl)) dss_nil)
      (dss_one (ds_if [] (DW.dt (dw_and (dt_not (dt_val (de_var (pv 7)))) (dw_and1 (dt_not (dt_val (de_call ((ok__law_same T 7).mono (by decide)) hr (by rfl) T.f__law_same.g T.f__law_same.ok.kp T.f__law_same.b (passE (takes_of rfl rfl rfl rfl)) rfl (da_cons (de_met (i := 8) (k := 5) (E := _) T.f__law_met.ok (by rfl) T.f__law_met.g T.f__law_met.b sc__law_met rfl (by first | exact Or.inl rfl | exact Or.inr (Or.inl rfl)) (fun cdg => met_gives (p14 := ⟨0, 0, 0, 0⟩) T.e_BadNumbering.xf T.e_BadNumbering.no rfl T.e_BadNumbering.g (by decide) rfl sc__law_met.nd rfl) TB hcc (List.Mem.head _) (fun p hp _ => by rw [List.mem_singleton.mp hp]; rfl) (hr.mono (by decide)) (LamX.lamS_by (sc := defScope s_law) (by decide +kernel)) rfl (fun _ _ _ _ _ => rfl) exm (fun A outer s H E f c hr => (de_call ((ok_is_state T).mono (by decide)) hr (by rfl) T.f_is_state.g T.f_is_state.ok.kp T.f_is_state.b (passE (takes_of rfl rfl rfl rfl)) rfl (da_cons (de_var (pv 8)) (da_cons de_non da_nil))))) (da_cons (de_tup (da_cons de_str (da_cons (de_var (pv 8)) da_nil))) da_nil)))))))) (dss_one (ds_ret [] de_bl)) dss_nil))))))
      (dss_one (ds_for [] (passes_of rfl) rfl (di_enum (by rfl) T.n_enumerate (da_cons (de_call ((ok__law_mixed T).mono (by decide)) hr (by rfl) T.f__law_mixed.g T.f__law_mixed.ok.kp T.f__law_mixed.b (passE (takes_of rfl rfl rfl rfl)) rfl (da_cons (de_var (pv 2)) (da_cons (de_call ((ok__law_states T).mono (by decide)) hr (by rfl) T.f__law_states.g T.f__law_states.ok.kp T.f__law_states.b (passE (takes_of rfl rfl rfl rfl)) rfl (da_cons (de_var (pv 2)) (da_cons (de_var (pv 3)) da_nil))) da_nil))) da_nil)) (dg_tup (n := 2) rfl (dgs_cons (dg_name (pg_name (i := 6) sc_law.nd rfl (Or.inl rfl))) (dgs_cons (dg_name (pg_name (i := 4) sc_law.nd rfl (Or.inl rfl))) dgs_nil)))
      (dss_cons (ds_par2 (i := 7) (j := 9) [] (dp_va (de_call ((ok__law_is_state T).mono (by decide)) hr (by rfl) T.f__law_is_state.g T.f__law_is_state.ok.kp T.f__law_is_state.b (passE (takes_of rfl rfl rfl rfl)) rfl (da_cons (de_var (pv 3)) (da_cons (de_var (pv 4)) da_nil)))) (dp_va (de_lst (da_cons (de_call ((ok__law_loose T 7).mono (by decide)) hr (by rfl) T.f__law_loose.g T.f__law_loose.ok.kp T.f__law_loose.b (passE (takes_of rfl rfl rfl rfl)) rfl (da_cons (de_var (pv 2)) (da_cons (de_var (pv 3)) da_nil))) (da_cons (de_call ((ok__law_loose T 7).mono (by decide)) hr (by rfl) T.f__law_loose.g T.f__law_loose.ok.kp T.f__law_loose.b (passE (takes_of rfl rfl rfl rfl)) rfl (da_cons (de_var (pv 2)) (da_cons (de_var (pv 4)) da_nil))) da_nil)))) rfl sc_law.nd rfl rfl (by decide) (by rfl) (by rfl) (by rfl))
      (dss_cons (ds_par2 (i := 10) (j := 11) [] (dp_va (de_callB (dcl_repr hgd (hr.mono (by decide))) (by rfl) T.n_repr (by decide +kernel) (da_cons (de_var (pv 9)) da_nil))) (dp_va (de_call ((ok_is_state T).mono (by decide)) hr (by rfl) T.f_is_state.g T.f_is_state.ok.kp T.f_is_state.b (passE (takes_of rfl rfl rfl rfl)) rfl (da_cons (de_ix (de_var (pv 9)) de_int (fun _ _ => rfl)) (da_cons (de_ix (de_var (pv 9)) de_int (fun _ _ => rfl)) da_nil)))) rfl sc_law.nd rfl rfl (by decide) (by rfl) (by rfl) (by rfl))
      (dss_cons (ds_if [] (dt_cmp (dop_eq hr.units) (de_op dop_mod (de_var (pv 6)) de_int) de_int (nomark _)) (dss_one (ds_asg [] (de_callNK (ks := ["thing", "numbering"]) (ix := [1, 0]) ((ok_is_state T).mono (by decide)) hr (by rfl) T.f_is_state.g T.f_is_state.ok.kp (kbn_of [1, 0] T.f_is_state.ok fun _ _ _ _ _ _ ws hl => match ws, hl with | [_, _], _ => rfl) (passE (takes_of rfl rfl rfl rfl)) (dk_cons (de_ix (de_var (pv 9)) de_int (fun _ _ => rfl)) (dk_cons (de_ix (de_var (pv 9)) de_int (fun _ _ => rfl)) dk_nil))) (dg_name (pg_name (i := 11) sc_law.nd rfl (Or.inl rfl))) (fun _ _ a b => ps_asg a b))) dss_nil)
      (dss_one (ds_if [] (DW.dt (dw_or (dt_not (dt_val (de_call ((ok__law_same T 7).mono (by decide)) hr (by rfl) T.f__law_same.g T.f__law_same.ok.kp T.f__law_same.b (passE (takes_of rfl rfl rfl rfl)) rfl (da_cons (de_var (pv 11)) (da_cons (de_var (pv 7)) da_nil))))) (dw_or1 (dt_cmp dop_neS (de_callB (dcl_repr hgd (hr.mono (by decide))) (by rfl) T.n_repr (by decide +kernel) (da_cons (de_var (pv 9)) da_nil)) (de_var (pv 10)) (nomark _))))) (dss_one (ds_ret [] de_bl)) dss_nil)))))))))))
      (dss_one (ds_ret [] de_bl))), by decide +kernel, fun ds vs XQ Q hd hv h => ?_⟩
  obtain ⟨a, rfl, rfl, x1, x2, q⟩ := h
  try simp only [frz, params, List.zipWith, List.length_cons, List.length_nil, Nat.reduceAdd, Nat.reduceSub, List.replicate, List.append_nil, List.cons_append, List.nil_append, getV_va, Pt.sl, true_and, List.getElem?_cons_zero, List.getElem?_cons_succ, List.set_cons_zero, List.set_cons_succ, ite_self, Bool.false_eq_true, if_false, if_true]
  refine ⟨by decide, by decide, .inr (by rw [rgD_len]; decide), ?_⟩
  refine for_idx (fun i ρ => ∃ s1 s2 s3 s4 s5 s6 s7 s8 s9 s10 s11, ρ = [.va ⟨.vee (.ref a), (D.vee (.ref a)).imm, some (.ref a)⟩, s1, s2, s3, s4, s5, s6, s7, s8, s9, s10, s11]) _ 0 _ ⟨_, _, _, _, _, _, _, _, _, _, _, rfl⟩ (fun i x hx ρ hI K kk => ?_) fun ρ hI => ?_
  · obtain ⟨s1, s2, s3, s4, s5, s6, s7, s8, s9, s10, s11, rfl⟩ := hI
    obtain ⟨hi, rfl⟩ := rgD_get hx
    refine ⟨x1, ?_, ?_⟩
    · try simp only [frz, params, List.zipWith, List.length_cons, List.length_nil, Nat.reduceAdd, Nat.reduceSub, List.replicate, List.append_nil, List.cons_append, List.nil_append, getV_va, Pt.sl, true_and, List.getElem?_cons_zero, List.getElem?_cons_succ, List.set_cons_zero, List.set_cons_succ, ite_self, Bool.false_eq_true, if_false, if_true]
      refine ⟨_, a, rfl, rfl, x2, fun ns hns => ⟨by decide, ?_⟩⟩
      rw [gAdd_lst]
      refine ⟨by simp only [List.length_map, List.length_cons, List.length_nil, show BIG = 16777216 from rfl]; omega, _, ns ++ [(0 : Int) + (i : Int)], rfl, by simp, by rw [List.length_append, List.length_singleton]; omega⟩
    · try simp only [frz, params, List.zipWith, List.length_cons, List.length_nil, Nat.reduceAdd, Nat.reduceSub, List.replicate, List.append_nil, List.cons_append, List.nil_append, getV_va, Pt.sl, true_and, List.getElem?_cons_zero, List.getElem?_cons_succ, List.set_cons_zero, List.set_cons_succ, ite_self, Bool.false_eq_true, if_false, if_true]
      refine gCall_of fun _ => ⟨4, rfl, by decide, by decide, fun n hn f => ?_⟩
      dsimp only
      try simp only [frz, params, List.zipWith, List.length_cons, List.length_nil, Nat.reduceAdd, Nat.reduceSub, List.replicate, List.append_nil, List.cons_append, List.nil_append, getV_va, Pt.sl, true_and, List.getElem?_cons_zero, List.getElem?_cons_succ, List.set_cons_zero, List.set_cons_succ, ite_self, Bool.false_eq_true, if_false, if_true]
      refine gCall_of fun _ => ⟨n, rfl, hn, fun xs f1 hl hx1 => ?_⟩
      dsimp only
      refine gCall_of fun _ => ⟨_, xs, rfl, rfl, by omega, fun ys f2 hyl hym => ?_⟩
      dsimp only
      rw [items_seq (by rfl)]
      refine ⟨.inr (by rw [List.length_map, hyl]; show _ ≤ 16777216; omega), ?_⟩
      refine for_idx (fun j ρ => ∃ s4 s5 s6 s7 s8 s9 s10 s11, ρ = [.va ⟨.vee (.ref a), (D.vee (.ref a)).imm, some (.ref a)⟩, .va ⟨.int ((0 : Int) + (i : Int)), true, none⟩, .va ⟨.strm, true, none⟩, .va ⟨n.d, f, none⟩, s4, s5, s6, s7, s8, s9, s10, s11]) _ 0 _ ⟨_, _, _, _, _, _, _, _, rfl⟩ (fun j x hx2 ρ hI K2 kk2 => ?_) fun ρ hI => ?_
      · obtain ⟨s4, s5, s6, s7, s8, s9, s10, s11, rfl⟩ := hI
        obtain ⟨y, hy, rfl⟩ := List.mem_map.mp (List.mem_of_getElem? hx2)
        have hyn := hx1 y (hym y hy)
        obtain ⟨g1, g2, g3, g4, g5, g6⟩ := hyn.all
        try simp only [frz, params, List.zipWith, List.length_cons, List.length_nil, Nat.reduceAdd, Nat.reduceSub, List.replicate, List.append_nil, List.cons_append, List.nil_append, getV_va, Pt.sl, true_and, List.getElem?_cons_zero, List.getElem?_cons_succ, List.set_cons_zero, List.set_cons_succ, ite_self, Bool.false_eq_true, if_false, if_true]
        refine gCall_of fun _ => ⟨y, rfl, g1, ?_⟩
        dsimp only
        refine gCall_of fun _ => ⟨y, rfl, g1, by omega, fun z fz lz => ?_⟩
        dsimp only
        have hzn := Nic.loose hyn lz
        obtain ⟨k1, k2, k3, k4, k5, k6⟩ := hzn.all
        refine ⟨by decide, ?_⟩
        rw [unp_seq (by rfl)]
        refine ⟨rfl, ?_⟩
        simp only [List.map_cons, List.map_nil]
        refine ⟨trivial, ?_⟩
        try simp only [frz, params, List.zipWith, List.length_cons, List.length_nil, Nat.reduceAdd, Nat.reduceSub, List.replicate, List.append_nil, List.cons_append, List.nil_append, getV_va, Pt.sl, true_and, List.getElem?_cons_zero, List.getElem?_cons_succ, List.set_cons_zero, List.set_cons_succ, ite_self, Bool.false_eq_true, if_false, if_true]
        rw [g1_of]
        refine gRepr_of hzn (by decide) (by decide) hsm ?_
        refine gCall_of fun _ => ⟨z, rfl, k1, ?_⟩
        dsimp only
        refine ⟨rfl, gCall_of fun _ => ⟨z, rfl, k1, ?_⟩⟩
        dsimp only
        rw [loose_num lz]
        refine ⟨by decide, by decide, gCall_of fun _ => ⟨.lst [.bl (isNumbering y), .bl (isNumbering y)], rfl, rfl, rfl, by simp [D.rnk, D.rnkL], ?_⟩⟩
        dsimp only
        refine ⟨_, rfl, ?_⟩
        rw [if_neg (by decide)]
        rw [g1_of]
        refine gRepr_of hzn (by decide) (by decide) hsm ?_
        refine ⟨_, _, rfl, rfl, _, rfl, ?_⟩
        rw [if_neg (by simp)]
        refine ⟨_, rfl, ?_⟩
        cases hb : isNumbering y with
        | true =>
          rw [if_neg (by decide)]
          exact kk2 _ ⟨_, _, _, _, _, _, _, _, rfl⟩
        | false =>
          rw [if_pos (show (!false) = true from rfl)]
          refine ⟨_, rfl, fun u => ?_⟩
          simp only [reb, List.map_cons, List.map_nil]
          try simp only [frz, params, List.zipWith, List.length_cons, List.length_nil, Nat.reduceAdd, Nat.reduceSub, List.replicate, List.append_nil, List.cons_append, List.nil_append, getV_va, Pt.sl, true_and, List.getElem?_cons_zero, List.getElem?_cons_succ, List.set_cons_zero, List.set_cons_succ, ite_self, Bool.false_eq_true, if_false, if_true]
          intro us hp
          cases hp with
          | @cons _ u1 _ us c1 hp =>
          cases hp with
          | @cons _ u2 _ us c2 hp =>
          cases hp
          have e1 : u = u1 := c1.1 u rfl
          subst e1
          refine ⟨z, .non, u, u2, rfl, rfl, k1, rfl, fun _ => ⟨rfl, rfl, rfl, by decide, ?_⟩, fun s w k p u e1 e2 => ?_⟩
          · refine gCall_of fun _ => ⟨.tup [.str "numbering", z], rfl, ?_, ?_, ?_, ?_⟩
            · show (PyData.strOk "numbering" && decide _ && (z.good && true) && decide _) = true
              rw [k1, show PyData.strOk "numbering" = true from by decide +kernel, show decide (("numbering" : Str).length ≤ 100000) = true from by decide +kernel]
              rfl
            · show (z.smp && true) = true
              rw [k2]; rfl
            · show max 0 (max z.rnk 0) + 1 < 7
              omega
            · dsimp only
              refine ⟨_, rfl, ?_⟩
              rw [if_neg (by decide)]
              exact kk2 _ ⟨_, _, _, _, _, _, _, _, rfl⟩
          · rw [loose_num lz, hb] at e2; cases e2
      · obtain ⟨s4, s5, s6, s7, s8, s9, s10, s11, rfl⟩ := hI
        try simp only [frz, params, List.zipWith, List.length_cons, List.length_nil, Nat.reduceAdd, Nat.reduceSub, List.replicate, List.append_nil, List.cons_append, List.nil_append, getV_va, Pt.sl, true_and, List.getElem?_cons_zero, List.getElem?_cons_succ, List.set_cons_zero, List.set_cons_succ, ite_self, Bool.false_eq_true, if_false, if_true]
        refine gCall_of fun _ => ⟨n, rfl, hn, fun xs2 f3 hl2 hx3 => ?_⟩
        dsimp only
        refine gCall_of fun _ => ⟨_, xs2, rfl, rfl, by omega, fun zs f4 hzl hzm => ?_⟩
        dsimp only
        refine ⟨.inr (by rw [enumD_len, hzl]; show _ ≤ 16777216; omega), ?_⟩
        refine for_idx (fun j ρ => ∃ s4 s5 s6 s7 s8 s9 s10 s11, ρ = [.va ⟨.vee (.ref a), (D.vee (.ref a)).imm, some (.ref a)⟩, .va ⟨.int ((0 : Int) + (i : Int)), true, none⟩, .va ⟨.strm, true, none⟩, .va ⟨n.d, f, none⟩, s4, s5, s6, s7, s8, s9, s10, s11]) _ 0 _ ⟨_, _, _, _, _, _, _, _, rfl⟩ (fun j x hx2 ρ hI K2 kk2 => ?_) fun ρ hI => ?_
        · obtain ⟨s4, s5, s6, s7, s8, s9, s10, s11, rfl⟩ := hI
          obtain ⟨y, hy, rfl⟩ := enumD_get hx2
          obtain ⟨hyn, hlow⟩ := hx3 y (hzm y (List.mem_of_getElem? hy))
          obtain ⟨g1, g2, g3, g4, g5, g6⟩ := hyn.all
          obtain ⟨q1, q2, q3, q4, q5, q6⟩ := (Num.nic hn).all
          obtain ⟨hs0, hs1, hw0, hw1, hk0, hk1, hk2, hp0, hp1, hu0, hu1⟩ := id hn
          rw [unp_seq (by rfl)]
          refine ⟨rfl, ?_⟩
          simp only [List.map_cons, List.map_nil]
          refine ⟨trivial, ?_⟩
          try simp only [frz, params, List.zipWith, List.length_cons, List.length_nil, Nat.reduceAdd, Nat.reduceSub, List.replicate, List.append_nil, List.cons_append, List.nil_append, getV_va, Pt.sl, true_and, List.getElem?_cons_zero, List.getElem?_cons_succ, List.set_cons_zero, List.set_cons_succ, ite_self, Bool.false_eq_true, if_false, if_true]
          refine gCall_of fun _ => ⟨n.d, y, n.s, n.w, n.k, n.p, n.u, rfl, rfl, q1, g1, by omega, by omega, hlow, ?_⟩
          dsimp only
          refine gCall_of fun _ => ⟨n.d, rfl, q1, by omega, fun m2 fm lm => ?_⟩
          dsimp only
          refine gCall_of fun _ => ⟨y, rfl, g1, by omega, fun z fz lz => ?_⟩
          dsimp only
          have hzn := Nic.loose hyn lz
          have hmn := Nic.loose (Num.nic hn) lm
          obtain ⟨ms, em, lms⟩ := lm.seq (x := n.d) (xs := [.int n.s, .int n.w, .int n.k, .int n.p, .int n.u]) rfl
          have ems := LooseL.ints (ns := [n.s, n.w, n.k, n.p, n.u]) lms
          subst ems
          have hnm : isNumbering m2 = true := by rw [loose_num lm, Num.good hn]
          have hpn : Nic 5 3000000 (.lst [m2, z]) := .mono (.lst (k := 4) (w := 1000000) (l := 2) (by simp) (by decide) fun x hx => by
            simp only [List.mem_cons, List.not_mem_nil, or_false] at hx
            rcases hx with rfl | rfl
            · exact hmn.mono (by decide) (by decide)
            · exact hzn) (by decide) (by decide)
          refine ⟨by decide, ?_⟩
          try simp only [frz, params, List.zipWith, List.length_cons, List.length_nil, Nat.reduceAdd, Nat.reduceSub, List.replicate, List.append_nil, List.cons_append, List.nil_append, getV_va, Pt.sl, true_and, List.getElem?_cons_zero, List.getElem?_cons_succ, List.set_cons_zero, List.set_cons_succ, ite_self, Bool.false_eq_true, if_false, if_true]
          have call : ∀ {ρ : Ro} {XQ : XQT} {n1 n2 : Bool} {v1 v2 : Option V} {Q : Dv → Prop}, Q ⟨.bl (isState n.w n.k n.p n.u y), true, none⟩ → gCall (c_is_state T) ρ XQ [⟨m2, n1, v1⟩, ⟨z, n2, v2⟩] Q := by
            intro ρ XQ n1 n2 v1 v2 Q q us hp
            cases hp with
            | @cons _ u1 _ us c1 hp =>
            cases hp with
            | @cons _ u2 _ us c2 hp =>
            cases hp
            refine ⟨m2, z, u1, u2, rfl, rfl, hmn.all.1, hzn.all.1, fun e => (by rw [hnm] at e; cases e), fun s w k p u e1 e2 => ?_⟩
            rw [em] at e1
            cases e1
            rw [loose_state lz]
            exact q
          have same : ∀ {ρ : Ro} {XQ : XQT} {n1 n2 : Bool} {v1 v2 : Option V} {Q : Dv → Prop}, Q ⟨.bl true, true, none⟩ → gCall (c__law_same 7) ρ XQ [⟨.bl (isState n.w n.k n.p n.u y), n1, v1⟩, ⟨.bl (isState n.w n.k n.p n.u y), n2, v2⟩] Q := fun q => gCall_of fun _ => ⟨.bl (isState n.w n.k n.p n.u y), rfl, rfl, rfl, by simp [D.rnk], q⟩
          rw [g1_of]
          refine gRepr_of hpn (by decide) (by decide) hsm ?_
          rw [gIx_of (by rfl) (show atI [m2, z] 0 = some m2 from rfl), gIx_of (by rfl) (show atI [m2, z] 1 = some z from rfl)]
          refine call ?_
          dsimp only
          rw [gI_of]
          refine ⟨by decide, ?_⟩
          rw [gEq_int]
          refine ⟨_, rfl, ?_⟩
          refine iteB ?_ ?_
          · rw [gIx_of (by rfl) (show atI [m2, z] 1 = some z from rfl), gIx_of (by rfl) (show atI [m2, z] 0 = some m2 from rfl)]
            refine ⟨rfl, ?_⟩
            refine call ?_
            refine same ?_
            refine ⟨_, rfl, ?_⟩
            rw [if_neg (by decide), g1_of]
            refine gRepr_of hpn (by decide) (by decide) hsm ?_
            refine ⟨_, _, rfl, rfl, _, rfl, ?_⟩
            rw [if_neg (by simp)]
            exact kk2 _ ⟨_, _, _, _, _, _, _, _, rfl⟩
          · refine same ?_
            refine ⟨_, rfl, ?_⟩
            rw [if_neg (by decide), g1_of]
            refine gRepr_of hpn (by decide) (by decide) hsm ?_
            refine ⟨_, _, rfl, rfl, _, rfl, ?_⟩
            rw [if_neg (by simp)]
            exact kk2 _ ⟨_, _, _, _, _, _, _, _, rfl⟩
        · obtain ⟨s4, s5, s6, s7, s8, s9, s10, s11, rfl⟩ := hI
          exact kk _ ⟨_, _, _, _, _, _, _, _, _, _, _, rfl⟩
  · obtain ⟨s1, s2, s3, s4, s5, s6, s7, s8, s9, s10, s11, rfl⟩ := hI
    try simp only [frz, params, List.zipWith, List.length_cons, List.length_nil, Nat.reduceAdd, Nat.reduceSub, List.replicate, List.append_nil, List.cons_append, List.nil_append, getV_va, Pt.sl, true_and, List.getElem?_cons_zero, List.getElem?_cons_succ, List.set_cons_zero, List.set_cons_succ, ite_self, Bool.false_eq_true, if_false, if_true]
    exact q

end
end My

set_option Elab.async false
set_option linter.all false
set_option maxRecDepth 100000
set_option maxHeartbeats 0
namespace My
open PySem PySem.Spec PyProof.Rows L2 DL
def d0 : He.DefD := ⟨("is_list", none), "is_list", "is_list", defArgs s_is_list, defBody s_is_list, defScope s_is_list, [], []⟩
def d1 : He.DefD := ⟨("is_whole", none), "is_whole", "is_whole", defArgs s_is_whole, defBody s_is_whole, defScope s_is_whole, [], []⟩
def d2 : He.DefD := ⟨("is_number", none), "is_number", "is_number", defArgs s_is_number, defBody s_is_number, defScope s_is_number, [], []⟩
def d3 : He.DefD := ⟨("is_row", none), "is_row", "is_row", defArgs s_is_row, defBody s_is_row, defScope s_is_row, [], []⟩
def d4 : He.DefD := ⟨("is_numbering", none), "is_numbering", "is_numbering", defArgs s_is_numbering, defBody s_is_numbering, defScope s_is_numbering, [], []⟩
def d5 : He.DefD := ⟨("check_numbering", none), "check_numbering", "check_numbering", defArgs s_check_numbering, defBody s_check_numbering, defScope s_check_numbering, [], []⟩
def d6 : He.DefD := ⟨("is_rising", none), "is_rising", "is_rising", defArgs s_is_rising, defBody s_is_rising, defScope s_is_rising, [], []⟩
def d7 : He.DefD := ⟨("is_ride", none), "is_ride", "is_ride", defArgs s_is_ride, defBody s_is_ride, defScope s_is_ride, [], []⟩
def d8 : He.DefD := ⟨("as_state", none), "as_state", "as_state", defArgs s_as_state, defBody s_as_state, defScope s_as_state, [], []⟩
def d9 : He.DefD := ⟨("is_state", none), "is_state", "is_state", defArgs s_is_state, defBody s_is_state, defScope s_is_state, [], []⟩
def d10 : He.DefD := ⟨("_law_stream", none), "_law_stream", "_law_stream", defArgs s__law_stream, defBody s__law_stream, defScope s__law_stream, [], []⟩
def d11 : He.DefD := ⟨("_law_draw", none), "_law_draw", "_law_draw", defArgs s__law_draw, defBody s__law_draw, defScope s__law_draw, [], []⟩
def d12 : He.DefD := ⟨("_law_pick", none), "_law_pick", "_law_pick", defArgs s__law_pick, defBody s__law_pick, defScope s__law_pick, [], []⟩
def d13 : He.DefD := ⟨("_law_mixed", none), "_law_mixed", "_law_mixed", defArgs s__law_mixed, defBody s__law_mixed, defScope s__law_mixed, [], []⟩
def d14 : He.DefD := ⟨("_law_same", none), "_law_same", "_law_same", defArgs s__law_same, defBody s__law_same, defScope s__law_same, [], []⟩
def d15 : He.DefD := ⟨("_law_loose", none), "_law_loose", "_law_loose", defArgs s__law_loose, defBody s__law_loose, defScope s__law_loose, [], []⟩
def d16 : He.DefD := ⟨("_law_numbering", none), "_law_numbering", "_law_numbering", defArgs s__law_numbering, defBody s__law_numbering, defScope s__law_numbering, [], []⟩
def d17 : He.DefD := ⟨("_law_place", none), "_law_place", "_law_place", defArgs s__law_place, defBody s__law_place, defScope s__law_place, [], []⟩
def d18 : He.DefD := ⟨("_law_steps", none), "_law_steps", "_law_steps", defArgs s__law_steps, defBody s__law_steps, defScope s__law_steps, [], []⟩
def d19 : He.DefD := ⟨("_law_behind", none), "_law_behind", "_law_behind", defArgs s__law_behind, defBody s__law_behind, defScope s__law_behind, [], []⟩
def d20 : He.DefD := ⟨("_law_walked", none), "_law_walked", "_law_walked", defArgs s__law_walked, defBody s__law_walked, defScope s__law_walked, [], []⟩
def d21 : He.DefD := ⟨("_law_is_numbering", none), "_law_is_numbering", "_law_is_numbering", defArgs s__law_is_numbering, defBody s__law_is_numbering, defScope s__law_is_numbering, [], []⟩
def d22 : He.DefD := ⟨("_law_are_numbers", none), "_law_are_numbers", "_law_are_numbers", defArgs s__law_are_numbers, defBody s__law_are_numbers, defScope s__law_are_numbers, [], []⟩
def d23 : He.DefD := ⟨("_law_is_state", none), "_law_is_state", "_law_is_state", defArgs s__law_is_state, defBody s__law_is_state, defScope s__law_is_state, [], []⟩
def d24 : He.DefD := ⟨("_law_met", none), "_law_met", "_law_met", defArgs s__law_met, defBody s__law_met, defScope s__law_met, [], []⟩
def d25 : He.DefD := ⟨("_law_numberings", none), "_law_numberings", "_law_numberings", defArgs s__law_numberings, defBody s__law_numberings, defScope s__law_numberings, [], []⟩
def d26 : He.DefD := ⟨("_law_states", none), "_law_states", "_law_states", defArgs s__law_states, defBody s__law_states, defScope s__law_states, [], []⟩
def d27 : He.DefD := ⟨("law", none), "law", "law", defArgs s_law, defBody s_law, defScope s_law, [], []⟩
def d28 : He.DefD := ⟨("BadNumbering", some "__init__"), "__init__", "BadNumbering.__init__", defArgs s_BadNumbering___init__, defBody s_BadNumbering___init__, defScope s_BadNumbering___init__, [], []⟩
def fn : List He.DefD := [d0, d1, d2, d3, d4, d5, d6, d7, d8, d9, d10, d11, d12, d13, d14, d15, d16, d17, d18, d19, d20, d21, d22, d23, d24, d25, d26, d27, d28]
def fa : List He.Fa := [.glo "is_list", .glo "is_whole", .glo "is_number", .glo "is_row", .glo "is_numbering", .glo "check_numbering", .glo "is_rising", .glo "is_ride", .glo "as_state", .glo "is_state", .glo "_law_stream", .glo "_law_draw", .glo "_law_pick", .glo "_law_mixed", .glo "_law_same", .glo "_law_loose", .glo "_law_numbering", .glo "_law_place", .glo "_law_steps", .glo "_law_behind", .glo "_law_walked", .glo "_law_is_numbering", .glo "_law_are_numbers", .glo "_law_is_state", .glo "_law_met", .glo "_law_numberings", .glo "_law_states", .glo "law", .glo "BadNumbering", .free "ValueError", .free "abs", .free "all", .free "any", .free "bool", .free "dict", .free "enumerate", .free "int", .free "isinstance", .free "len", .free "list", .free "max", .free "min", .free "range", .free "repr", .free "sorted", .free "str", .free "tuple", .free "zip"]
def names0 : List PySem.Str := ["is_list", "is_whole", "is_number", "is_row", "PostError", "BadNumbering", "is_numbering", "check_numbering", "is_rising", "is_ride", "as_state", "is_state", "_law_stream", "_law_draw", "_law_pick", "_law_mixed", "_law_same", "_law_loose", "_law_numbering", "_law_place", "_law_steps", "_law_behind", "_law_walked", "_law_is_numbering", "_law_are_numbers", "_law_is_state", "_law_met", "_law_numberings", "_law_states"]
def names : List PySem.Str := names0
def tf : List He.Defn := lamDefs.map fun d => (d, none)
def ex (K : PySem.W.Frag) : Bool := excB "BadNumbering" "numbering" K
abbrev R : PySem.W.OpenRow := PySem.W.OpenLaw.row PySem.Challenge.rw_postriders_k39_whole_numberings_and_stat
abbrev hk : PySem.W.Hook := hookH 6 fa fn tf ex
def ob (s : PySem.W.SharedT) : SeenT := seeH 6 fa fn tf ex (HandSHeadRun.getT s)
theorem ob_eq (s : PySem.W.SharedT) : ob s = hk.obs s.abs := seeH_eq (HandSHeadRun.getT_eq s)
theorem run (w : World) : HandSHeadRun.RunEq R (PySem.W.view R.prog [34]) hk ob 20000 names w := by
  intro os
  kernel_rfl
theorem txt_of {K : PySem.W.Frag} {h : Heap} {mg : Str → Option Value} (X : K.In h) (G : h.Ns mainGlobals mg) (t : Told fa fn tf ex h K) : ∃ T : Txt K mg, T.f_law.f = He.ga K "law" ∧ PySem.W.exmOne K (.ref T.e_BadNumbering.C) (.ref T.e_BadNumbering.C) = some true := by
  obtain ⟨fd_is_list, F_is_list⟩ := t.d.def_ 0 (d := d0) rfl
  obtain ⟨fd_is_whole, F_is_whole⟩ := t.d.def_ 1 (d := d1) rfl
  obtain ⟨fd_is_number, F_is_number⟩ := t.d.def_ 2 (d := d2) rfl
  obtain ⟨fd_is_row, F_is_row⟩ := t.d.def_ 3 (d := d3) rfl
  obtain ⟨fd_is_numbering, F_is_numbering⟩ := t.d.def_ 4 (d := d4) rfl
  obtain ⟨fd_check_numbering, F_check_numbering⟩ := t.d.def_ 5 (d := d5) rfl
  obtain ⟨fd_is_rising, F_is_rising⟩ := t.d.def_ 6 (d := d6) rfl
  obtain ⟨fd_is_ride, F_is_ride⟩ := t.d.def_ 7 (d := d7) rfl
  obtain ⟨fd_as_state, F_as_state⟩ := t.d.def_ 8 (d := d8) rfl
  obtain ⟨fd_is_state, F_is_state⟩ := t.d.def_ 9 (d := d9) rfl
  obtain ⟨fd__law_stream, F__law_stream⟩ := t.d.def_ 10 (d := d10) rfl
  obtain ⟨fd__law_draw, F__law_draw⟩ := t.d.def_ 11 (d := d11) rfl
  obtain ⟨fd__law_pick, F__law_pick⟩ := t.d.def_ 12 (d := d12) rfl
  obtain ⟨fd__law_mixed, F__law_mixed⟩ := t.d.def_ 13 (d := d13) rfl
  obtain ⟨fd__law_same, F__law_same⟩ := t.d.def_ 14 (d := d14) rfl
  obtain ⟨fd__law_loose, F__law_loose⟩ := t.d.def_ 15 (d := d15) rfl
  obtain ⟨fd__law_numbering, F__law_numbering⟩ := t.d.def_ 16 (d := d16) rfl
  obtain ⟨fd__law_place, F__law_place⟩ := t.d.def_ 17 (d := d17) rfl
  obtain ⟨fd__law_steps, F__law_steps⟩ := t.d.def_ 18 (d := d18) rfl
  obtain ⟨fd__law_behind, F__law_behind⟩ := t.d.def_ 19 (d := d19) rfl
  obtain ⟨fd__law_walked, F__law_walked⟩ := t.d.def_ 20 (d := d20) rfl
  obtain ⟨fd__law_is_numbering, F__law_is_numbering⟩ := t.d.def_ 21 (d := d21) rfl
  obtain ⟨fd__law_are_numbers, F__law_are_numbers⟩ := t.d.def_ 22 (d := d22) rfl
  obtain ⟨fd__law_is_state, F__law_is_state⟩ := t.d.def_ 23 (d := d23) rfl
  obtain ⟨fd__law_met, F__law_met⟩ := t.d.def_ 24 (d := d24) rfl
  obtain ⟨fd__law_numberings, F__law_numberings⟩ := t.d.def_ 25 (d := d25) rfl
  obtain ⟨fd__law_states, F__law_states⟩ := t.d.def_ 26 (d := d26) rfl
  obtain ⟨fd_law, F_law⟩ := t.d.def_ 27 (d := d27) rfl
  obtain ⟨fd_BadNumbering, F_BadNumbering⟩ := t.d.def_ 28 (d := d28) rfl
  obtain ⟨E_BadNumbering, _, M_BadNumbering⟩ := excB_ok (x := "BadNumbering") (fld := "numbering") (st := s_BadNumbering___init__) X G (t.d.fact 28 (f := .glo "BadNumbering") rfl) t.ex F_BadNumbering fun _ _ _ _ _ _ us hl => match us, hl with | [_, _], _ => rfl
  exact ⟨⟨He.free_ok X G (t.d.fact 29 (f := .free "ValueError") rfl), He.free_ok X G (t.d.fact 30 (f := .free "abs") rfl), He.free_ok X G (t.d.fact 31 (f := .free "all") rfl), He.free_ok X G (t.d.fact 32 (f := .free "any") rfl), He.free_ok X G (t.d.fact 33 (f := .free "bool") rfl), He.free_ok X G (t.d.fact 34 (f := .free "dict") rfl), He.free_ok X G (t.d.fact 35 (f := .free "enumerate") rfl), He.free_ok X G (t.d.fact 36 (f := .free "int") rfl), He.free_ok X G (t.d.fact 37 (f := .free "isinstance") rfl), He.free_ok X G (t.d.fact 38 (f := .free "len") rfl), He.free_ok X G (t.d.fact 39 (f := .free "list") rfl), He.free_ok X G (t.d.fact 40 (f := .free "max") rfl), He.free_ok X G (t.d.fact 41 (f := .free "min") rfl), He.free_ok X G (t.d.fact 42 (f := .free "range") rfl), He.free_ok X G (t.d.fact 43 (f := .free "repr") rfl), He.free_ok X G (t.d.fact 44 (f := .free "sorted") rfl), He.free_ok X G (t.d.fact 45 (f := .free "str") rfl), He.free_ok X G (t.d.fact 46 (f := .free "tuple") rfl), He.free_ok X G (t.d.fact 47 (f := .free "zip") rfl), ⟨He.ga K "is_list", fd_is_list, F_is_list, He.glo_ok X G (t.d.fact 0 (f := .glo "is_list") rfl), F_is_list.bindsN fun _ _ _ _ _ _ us hl => match us, hl with | [_], _ => rfl⟩, ⟨He.ga K "is_whole", fd_is_whole, F_is_whole, He.glo_ok X G (t.d.fact 1 (f := .glo "is_whole") rfl), F_is_whole.bindsN fun _ _ _ _ _ _ us hl => match us, hl with | [_], _ => rfl⟩, ⟨He.ga K "is_number", fd_is_number, F_is_number, He.glo_ok X G (t.d.fact 2 (f := .glo "is_number") rfl), F_is_number.bindsN fun _ _ _ _ _ _ us hl => match us, hl with | [_], _ => rfl⟩, ⟨He.ga K "is_row", fd_is_row, F_is_row, He.glo_ok X G (t.d.fact 3 (f := .glo "is_row") rfl), F_is_row.bindsN fun _ _ _ _ _ _ us hl => match us, hl with | [_, _], _ => rfl⟩, ⟨He.ga K "is_numbering", fd_is_numbering, F_is_numbering, He.glo_ok X G (t.d.fact 4 (f := .glo "is_numbering") rfl), F_is_numbering.bindsN fun _ _ _ _ _ _ us hl => match us, hl with | [_], _ => rfl⟩, ⟨He.ga K "check_numbering", fd_check_numbering, F_check_numbering, He.glo_ok X G (t.d.fact 5 (f := .glo "check_numbering") rfl), F_check_numbering.bindsN fun _ _ _ _ _ _ us hl => match us, hl with | [_], _ => rfl⟩, ⟨He.ga K "is_rising", fd_is_rising, F_is_rising, He.glo_ok X G (t.d.fact 6 (f := .glo "is_rising") rfl), F_is_rising.bindsN fun _ _ _ _ _ _ us hl => match us, hl with | [_], _ => rfl⟩, ⟨He.ga K "is_ride", fd_is_ride, F_is_ride, He.glo_ok X G (t.d.fact 7 (f := .glo "is_ride") rfl), F_is_ride.bindsN fun _ _ _ _ _ _ us hl => match us, hl with | [_, _], _ => rfl⟩, ⟨He.ga K "as_state", fd_as_state, F_as_state, He.glo_ok X G (t.d.fact 8 (f := .glo "as_state") rfl), F_as_state.bindsN fun _ _ _ _ _ _ us hl => match us, hl with | [_, _], _ => rfl⟩, ⟨He.ga K "is_state", fd_is_state, F_is_state, He.glo_ok X G (t.d.fact 9 (f := .glo "is_state") rfl), F_is_state.bindsN fun _ _ _ _ _ _ us hl => match us, hl with | [_, _], _ => rfl⟩, ⟨He.ga K "_law_stream", fd__law_stream, F__law_stream, He.glo_ok X G (t.d.fact 10 (f := .glo "_law_stream") rfl), F__law_stream.bindsN fun _ _ _ _ _ _ us hl => match us, hl with | [_], _ => rfl⟩, ⟨He.ga K "_law_draw", fd__law_draw, F__law_draw, He.glo_ok X G (t.d.fact 11 (f := .glo "_law_draw") rfl), F__law_draw.bindsN fun _ _ _ _ _ _ us hl => match us, hl with | [_, _], _ => rfl⟩, ⟨He.ga K "_law_pick", fd__law_pick, F__law_pick, He.glo_ok X G (t.d.fact 12 (f := .glo "_law_pick") rfl), F__law_pick.bindsN fun _ _ _ _ _ _ us hl => match us, hl with | [_, _], _ => rfl⟩, ⟨He.ga K "_law_mixed", fd__law_mixed, F__law_mixed, He.glo_ok X G (t.d.fact 13 (f := .glo "_law_mixed") rfl), F__law_mixed.bindsN fun _ _ _ _ _ _ us hl => match us, hl with | [_, _], _ => rfl⟩, ⟨He.ga K "_law_same", fd__law_same, F__law_same, He.glo_ok X G (t.d.fact 14 (f := .glo "_law_same") rfl), F__law_same.bindsN fun _ _ _ _ _ _ us hl => match us, hl with | [_, _], _ => rfl⟩, ⟨He.ga K "_law_loose", fd__law_loose, F__law_loose, He.glo_ok X G (t.d.fact 15 (f := .glo "_law_loose") rfl), F__law_loose.bindsN fun _ _ _ _ _ _ us hl => match us, hl with | [_, _], _ => rfl⟩, ⟨He.ga K "_law_numbering", fd__law_numbering, F__law_numbering, He.glo_ok X G (t.d.fact 16 (f := .glo "_law_numbering") rfl), F__law_numbering.bindsN fun _ _ _ _ _ _ us hl => match us, hl with | [_, _], _ => rfl⟩, ⟨He.ga K "_law_place", fd__law_place, F__law_place, He.glo_ok X G (t.d.fact 17 (f := .glo "_law_place") rfl), F__law_place.bindsN fun _ _ _ _ _ _ us hl => match us, hl with | [_, _, _], _ => rfl⟩, ⟨He.ga K "_law_steps", fd__law_steps, F__law_steps, He.glo_ok X G (t.d.fact 18 (f := .glo "_law_steps") rfl), F__law_steps.bindsN fun _ _ _ _ _ _ us hl => match us, hl with | [_, _], _ => rfl⟩, ⟨He.ga K "_law_behind", fd__law_behind, F__law_behind, He.glo_ok X G (t.d.fact 19 (f := .glo "_law_behind") rfl), F__law_behind.bindsN fun _ _ _ _ _ _ us hl => match us, hl with | [_, _, _], _ => rfl⟩, ⟨He.ga K "_law_walked", fd__law_walked, F__law_walked, He.glo_ok X G (t.d.fact 20 (f := .glo "_law_walked") rfl), F__law_walked.bindsN fun _ _ _ _ _ _ us hl => match us, hl with | [_, _, _], _ => rfl⟩, ⟨He.ga K "_law_is_numbering", fd__law_is_numbering, F__law_is_numbering, He.glo_ok X G (t.d.fact 21 (f := .glo "_law_is_numbering") rfl), F__law_is_numbering.bindsN fun _ _ _ _ _ _ us hl => match us, hl with | [_], _ => rfl⟩, ⟨He.ga K "_law_are_numbers", fd__law_are_numbers, F__law_are_numbers, He.glo_ok X G (t.d.fact 22 (f := .glo "_law_are_numbers") rfl), F__law_are_numbers.bindsN fun _ _ _ _ _ _ us hl => match us, hl with | [_, _, _], _ => rfl⟩, ⟨He.ga K "_law_is_state", fd__law_is_state, F__law_is_state, He.glo_ok X G (t.d.fact 23 (f := .glo "_law_is_state") rfl), F__law_is_state.bindsN fun _ _ _ _ _ _ us hl => match us, hl with | [_, _], _ => rfl⟩, ⟨He.ga K "_law_met", fd__law_met, F__law_met, He.glo_ok X G (t.d.fact 24 (f := .glo "_law_met") rfl), F__law_met.bindsN fun _ _ _ _ _ _ us hl => match us, hl with | [_], _ => rfl⟩, ⟨He.ga K "_law_numberings", fd__law_numberings, F__law_numberings, He.glo_ok X G (t.d.fact 25 (f := .glo "_law_numberings") rfl), F__law_numberings.bindsN fun _ _ _ _ _ _ us hl => match us, hl with | [_, _], _ => rfl⟩, ⟨He.ga K "_law_states", fd__law_states, F__law_states, He.glo_ok X G (t.d.fact 26 (f := .glo "_law_states") rfl), F__law_states.bindsN fun _ _ _ _ _ _ us hl => match us, hl with | [_, _], _ => rfl⟩, ⟨He.ga K "law", fd_law, F_law, He.glo_ok X G (t.d.fact 27 (f := .glo "law") rfl), F_law.bindsN fun _ _ _ _ _ _ us hl => match us, hl with | [_], _ => rfl⟩, E_BadNumbering⟩, rfl, M_BadNumbering⟩
theorem law_code {K : PySem.W.Frag} {mg : Str → Option Value} (T : Txt K mg) (e : T.f_law.f = He.ga K "law") : T.f_law.fd.code = .ref (He.codeOf K ("law", none)) := by
  obtain ⟨oc, od, dV, kV, doc, pm, an, cdv, ct, osl, efd, lk, hcd, _, _⟩ := T.f_law.ok.ex
  obtain ⟨c, ec⟩ := He.codeIn_ref hcd
  have e2 : T.f_law.fd.code = .ref c := by rw [efd]; exact ec
  rw [e] at lk
  rw [e2, He.codeOf_eq (p := ("law", none)) lk e2]
theorem walk : PySem.W.WalkO (PySem.W.view R.prog [34]) names (PySem.W.XL (PySem.W.view R.prog [34]) []) hk.says PySem.Challenge.rw_postriders_k39_whole_numberings_and_stat.row.toRowW (HandSHeadRun.topDef R.prog 34) [] (fun f vs => PySem.call f vs) := by
  refine walk_G (n := 63) rfl (by decide) (by kernel_rfl) ?F
  intro w mg fL h Y G hmg0
  obtain ⟨K, KX, t⟩ := Y
  have hmg : mg ("law" : PySem.Str) = some (.ref fL) := by
    have e : (HandSHeadRun.topDef R.prog 34).name = ("law" : PySem.Str) := by kernel_rfl
    rw [← e]
    exact hmg0
  obtain ⟨T, eL, mx⟩ := txt_of KX G t
  have ef := T.f_law.g.symm.trans hmg
  cases ef
  refine ⟨K, _, KX, lawG_of (k := 10) (fd := T.f_law.fd) KX t (by decide) (by unfold LIM; decide +kernel) (fun s u => T.f_law.ok.bindsA (ps := ["script"]) (fun _ _ _ _ _ _ us hl => match us, hl with | [_], _ => rfl) s [u] rfl) (fun base hK hN hT => ok_law T t.sm (hT "law" (by decide)) (law_code T eL) mx) fun a Q q => ⟨a, rfl, rfl, ⟨rfl, .inl rfl⟩, ⟨rfl, .inr ⟨rfl, rfl⟩⟩, q⟩⟩
end My
open PySem PySem.W PySem.Calls PyProof.Rows
theorem PySem.Challenge.cw_postriders_k39_whole_numberings_and_stat_holds : PySem.Challenge.rw_postriders_k39_whole_numberings_and_stat.Holds := by
  w_on; o_law
  refine HandSHeadRun.head_any (r := My.R) (q := view My.R.prog [34]) (H := My.hk) (ob := My.ob) (M := 20000) (loose := My.names) (d := HandSHeadRun.topDef My.R.prog 34) (kwd := []) My.ob_eq (by kernel_rfl) (fun s => by kernel_rfl) My.run (by kernel_rfl) (by kernel_rfl) (by kernel_rfl)
    (by rfl) (by first | assumption | decide +kernel) (by decide +kernel) ⟨rfl, rfl, rfl, rfl, rfl, by decide +kernel⟩ ?hw ?hc
  case hw => w_witness2
  case hc => exact My.walk

