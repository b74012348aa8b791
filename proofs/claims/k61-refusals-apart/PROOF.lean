import PyProof.Rows.All
import HandS.HeadHook4
import Wide.All
import OpenK.AllK
import Wide.FinOn
import KE.KStateDown
import HandS.ForMost
import HandS.ForExc
import HandS.ExcCtx
import HandS.Wide
import HandS.Conv
import HandS.Strs
import HandS.DictComp
import HandS.Flow
import HandS.Style
import HandS.Small
import HandS.SortInts
import HandS.Deep
import HandS.Zip
import HandS.Defaults
import HandS.HeadHook1
import HandS.HeadHook2
import HandS.Lambda
import HandS.IsInst
import HandS.TupAny
import HandS.More
import HandS.RaiseMore
import HandS.TryOnly
import HandS.Iter
import HandS.Comp
import HandS.HotCalls
import PyProof.CompFree
import PyProof.SumWalkG
import HandS.ExcIs
import HandS.ExcField
import HandS.NestedK
import KE.IntBitsLaws
import KE.SortData
import HandS.ExcInit
import HandS.MakeKwOnly
import HandS.HeadWalk
import HandS.EndBits
import HandS.Set
import HandS.SetFor
import HandS.TupSets
import HandS.SetKeys
import HandS.SetBool
import HandS.SetIn
import PyProof.FactsAll.set_2
import HandS.ListEq
import PyProof.CollectIter
import HandS.Star
import KE.GoesMore
import HandS.Base
import HandS.Call
import HandS.List
import HandS.Dict
import HandS.Exc
import HandS.Ends
import HandS.Words
import HandS.WordsExc
import HandS.Head0
import HandS.Head1
import HandS.Head2
import HandS.HeadEnd
import HandS.HeadHook3
import HandS.EndTab
import PySem.Challenge.RW_joinedfolk_k61_refusals_apart
set_option Elab.async false
set_option linter.all false
set_option maxRecDepth 100000
namespace JF
open PySem
/-- the defs in which lambdas are made, the lambdas' qualified name -/
def lamDefs : List (He.Defn × Str) := [((("_law_do", none)), "_law_do.<locals>.<lambda>"), ((("law", none)), "law.<locals>.<lambda>")]
end JF
/-! JA: values, cells, relations to the abstract heap of the hand layer. -/
namespace JF
open PySem PySem.Spec PyProof.Rows L2

/-- a value of the small interpreter: tuples and lists that nobody changes stand inline, what is changed is a cell -/
inductive IV where
  | non | bl (b : Bool) | int (i : Int) | str (x : Str)
  | tup (xs : List IV) | lst (xs : List IV)
  | scr (ns : List Int)
  | ref (n : Nat)
  | adr (a : Addr)
  | exn (c : Str) | exf (c : Str) (v : IV)
/-- what a cell holds -/
inductive IO where
  | lst (xs : List IV) | dic (kvs : List (Key × IV)) | dtu (kvs : List (List Key × IV)) | ins (fs : List (Str × IV))
structure Cell where
  o : IO
  lk : Bool := false
abbrev SH := List Cell
abbrev Ta := List (Option IV)
/-- an exception: its class, its field's value -/
structure Ex where
  cls : Str
  arg : Option IV := none
inductive R (α : Type) where
  | ok (a : α) (S : SH) | exc (e : Ex) (S : SH) | bad
def R.bind {α β : Type} (r : R α) (k : α → SH → R β) : R β := match r with
  | .ok a S => k a S
  | .exc e S => .exc e S
  | .bad => .bad
def ofO {α : Type} : Option (α × SH) → R α
  | some (a, S) => .ok a S
  | none => .bad
/-- what a statement comes to -/
inductive RS where
  | nx (τ : Ta) (S : SH) | ret (v : IV) (S : SH) | brk (τ : Ta) (S : SH) | cnt (τ : Ta) (S : SH) | exc (e : Ex) (τ : Ta) (S : SH) | bad
/-- the defs and methods that may be called, and the fuel of a while -/
structure En where
  fn : Nat → List IV → SH → R IV
  fuel : Nat
abbrev Ed := En → Ta → SH → R IV
abbrev Td := En → Ta → SH → R Bool
abbrev Ad := En → Ta → SH → R (List IV)
abbrev Sd := En → Ta → SH → RS

/-- the fields of an exception's class -/
def exField (c : Str) : Str := if c = "NoOne" then "who" else if c = "Taken" then "taken" else "row"
section
variable (K : PySem.W.Frag) (ρ : List Addr) (H : Hp)
/-- an exception kept as a value: its object for good -/
def ExV (a : Addr) (c : Str) (d : Option Addr) : Prop := ∃ (oe : Obj), H a = some (.frz oe (.ext fun h => h.get? a = some oe)) ∧ Zc (.ref (He.ga K c)) d oe ∧ ∃ vs, oe.data = .fields vs
/-- what a cell's address holds, locked or not -/
def Hc (lk : Bool) (a : Addr) (u : HO) : Prop := if lk = true then ∃ o, H a = some (.frz o u) else H a = some u
/-- a list that stays as it is: locked for good -/
def LstAt (a : Addr) (ys : List V) : Prop := ∃ o, H a = some (.frz o (.lst ys))
def SqK (a : Addr) (ys : List V) : Prop := ∃ (o : Obj) (its : Array Value) (n : Nat), K.lookup a = some o ∧ o.cls = .type "list" ∧ o.dict = none ∧ o.data = .seq its n ∧ its.size ≤ sizeLine ∧ Vals ys its.toList
mutual
def VR : IV → V → Prop
  | .non, v => v = .non
  | .bl b, v => v = .bl b
  | .int i, v => v = .int i
  | .str x, v => v = .str x
  | .tup xs, v => ∃ a ys, v = .ref a ∧ (a ∉ ρ ∧ H a = some (.tup ys)) ∧ VRs xs ys
  | .lst xs, v => ∃ a ys, v = .ref a ∧ LstAt H a ys ∧ VRs xs ys
  | .scr ns, v => ∃ a, v = .ref a ∧ (LstAt H a (ns.map V.int) ∨ SqK K a (ns.map V.int))
  | .ref n, v => ∃ a, ρ[n]? = some a ∧ v = .ref a
  | .adr a, v => v = .ref a
  | .exn c, v => ∃ a, v = .ref a ∧ ExV K H a c none
  | .exf c u, v => ∃ a dx x, v = .ref a ∧ ExV K H a c (some dx) ∧ (dx ∉ ρ ∧ H dx = some (.xd [(exField c, x)])) ∧ VR u x
def VRs : List IV → List V → Prop
  | [], ys => ys = []
  | x :: xs, ys => ∃ y r, ys = y :: r ∧ VR x y ∧ VRs xs r
end
/-- values by keys -/
def VRk {κ : Type} : List (κ × IV) → List (κ × V) → Prop
  | [], ys => ys = []
  | p :: xs, ys => ∃ v r, ys = (p.1, v) :: r ∧ VR K ρ H p.2 v ∧ VRk xs r
def OR (c : Cell) (a : Addr) : Prop := match c.o with
  | .lst xs => ∃ ys, Hc H c.lk a (.lst ys) ∧ VRs K ρ H xs ys
  | .dic kvs => ∃ ys, Hc H c.lk a (.dK ys) ∧ VRk K ρ H kvs ys
  | .dtu kvs => ∃ ys, Hc H c.lk a (.dT ys) ∧ VRk K ρ H kvs ys
  | .ins fs => ∃ dx ys, Hc H c.lk a (.ins (He.ga K "Roof") dx ys) ∧ VRk K ρ H fs ys
/-- the tables of code objects of the defs that make lambdas -/
def Tk : List (Addr × Str) := lamDefs.map fun p => ((He.cT K p.1).2, p.2)
structure HR (S : SH) : Prop where
  len : S.length = ρ.length
  nd : ρ.Nodup
  tab : LamX.Tabs (Tk K) H
  cell : ∀ (n : Nat) (c : Cell) (a : Addr), S[n]? = some c → ρ[n]? = some a → OR K ρ H c a
/-- the frame's names -/
def SR (τ : Ta) (σ : L2.St) : Prop := τ.length = σ.length ∧ ∀ (i : Nat) (v : IV), τ[i]? = some (some v) → ∃ x, σ[i]? = some (some x) ∧ VR K ρ H v x
def ExR (e : Ex) (cls : Value) (d : Option Addr) : Prop := cls = .ref (He.ga K e.cls) ∧ match e.arg with
  | none => d = none
  | some v => ∃ dx x, d = some dx ∧ dx ∉ ρ ∧ H dx = some (.xd [(exField e.cls, x)]) ∧ VR K ρ H v x
end
/-- no table, no such thing -/
def NT (o : Option HO) : Prop := (∀ ps, o ≠ some (.tbl ps)) ∧ ∀ f, o ≠ some (.ext f)
theorem tabs_upd {T : List (Addr × Str)} {H : Hp} {a : Addr} {o : HO} (n : NT (H a)) (t : LamX.Tabs T H) : LamX.Tabs T (upd H a o) := fun p hp => by
  obtain ⟨ps, h1, h2, h3⟩ := t p hp
  have z : p.1 ≠ a := fun z => n.1 ps (z ▸ h1)
  refine ⟨ps, by rw [upd_ne z]; exact h1, h2, fun pos cv hc => ?_⟩
  obtain ⟨c, e1, e2⟩ := h3 pos cv hc
  refine ⟨c, e1, ?_⟩
  have z : c ≠ a := fun z => n.2 _ (by rw [← z]; exact e2)
  rw [upd_ne z]
  exact e2
theorem nt_none {H : Hp} {a : Addr} (h : H a = none) : NT (H a) := ⟨fun ps z => (by rw [h] at z; cases z), fun f z => (by rw [h] at z; cases z)⟩
theorem nt_lst {H : Hp} {a : Addr} {xs : List V} (h : H a = some (.lst xs)) : NT (H a) := ⟨fun ps z => (by rw [h] at z; cases z), fun f z => (by rw [h] at z; cases z)⟩
theorem nt_dK {H : Hp} {a : Addr} {xs : List (Key × V)} (h : H a = some (.dK xs)) : NT (H a) := ⟨fun ps z => (by rw [h] at z; cases z), fun f z => (by rw [h] at z; cases z)⟩
theorem nt_dT {H : Hp} {a : Addr} {xs : List (List Key × V)} (h : H a = some (.dT xs)) : NT (H a) := ⟨fun ps z => (by rw [h] at z; cases z), fun f z => (by rw [h] at z; cases z)⟩
theorem nt_ins {H : Hp} {a c dx : Addr} {xs : List (Str × V)} (h : H a = some (.ins c dx xs)) : NT (H a) := ⟨fun ps z => (by rw [h] at z; cases z), fun f z => (by rw [h] at z; cases z)⟩
theorem nt_frz {H : Hp} {a : Addr} {o : Obj} {u : HO} (h : H a = some (.frz o u)) : NT (H a) := ⟨fun ps z => (by rw [h] at z; cases z), fun f z => (by rw [h] at z; cases z)⟩
/-- the heap goes on: new cells, what is no cell stays -/
structure Ext (K : PySem.W.Frag) (ρ : List Addr) (H : Hp) (ρ' : List Addr) (H' : Hp) : Prop where
  pre : ∃ new, ρ' = ρ ++ new ∧ ∀ a ∈ new, a ∉ ρ ∧ ∀ o, H a = some o → ∃ ps, o = .tbl ps
  keep : ∀ b o, H b = some o → b ∉ ρ → (∀ ps, o ≠ .tbl ps) → H' b = some o
  frz : ∀ b o u, H b = some (.frz o u) → H' b = some (.frz o u)
  tbs : LamX.Tabs (Tk K) H → LamX.Tabs (Tk K) H'

theorem no_tbl {H : Hp} {a : Addr} (h : H a = none) : ∀ o, H a = some o → ∃ ps, o = HO.tbl ps := fun o z => by rw [h] at z; cases z
theorem Ext.refl {K : PySem.W.Frag} (ρ : List Addr) (H : Hp) : Ext K ρ H ρ H := ⟨⟨[], by simp, by simp⟩, fun _ _ h _ _ => h, fun _ _ _ h => h, id⟩
theorem Ext.trans {K : PySem.W.Frag} {ρ ρ1 ρ2 : List Addr} {H H1 H2 : Hp} (a : Ext K ρ H ρ1 H1) (b : Ext K ρ1 H1 ρ2 H2) : Ext K ρ H ρ2 H2 := by
  obtain ⟨⟨n1, rfl, h1⟩, k1, z1, t1⟩ := a
  obtain ⟨⟨n2, rfl, h2⟩, k2, z2, t2⟩ := b
  have nin : ∀ c o, H c = some o → c ∉ ρ → (∀ ps, o ≠ .tbl ps) → c ∉ n1 := fun c o hc _ nt hm => by
    obtain ⟨ps, z⟩ := (h1 c hm).2 o hc
    exact nt ps z
  refine ⟨⟨n1 ++ n2, by rw [List.append_assoc], fun c hc => ?_⟩, fun c o hc hn nt => ?_, fun c o u h => z2 c o u (z1 c o u h), fun h => t2 (t1 h)⟩
  · rcases List.mem_append.mp hc with hc | hc
    · exact h1 c hc
    · obtain ⟨q1, q2⟩ := h2 c hc
      have q3 : c ∉ ρ := fun z => q1 (List.mem_append_left _ z)
      refine ⟨q3, fun o e => ?_⟩
      apply Classical.byContradiction
      intro nt
      have nt : ∀ ps, o ≠ .tbl ps := fun ps z => nt ⟨ps, z⟩
      obtain ⟨ps, z⟩ := q2 o (k1 c o e q3 nt)
      exact nt ps z
  · refine k2 c o (k1 c o hc hn nt) (fun z => ?_) nt
    exact (List.mem_append.mp z).elim hn (nin c o hc hn nt)
theorem Ext.notin {K : PySem.W.Frag} {ρ ρ' : List Addr} {H H' : Hp} (e : Ext K ρ H ρ' H') {a : Addr} {o : HO} (h : H a = some o) (n : a ∉ ρ) (nt : ∀ ps, o ≠ .tbl ps) : a ∉ ρ' := by
  obtain ⟨⟨n1, rfl, h1⟩, _, _⟩ := e
  intro z
  rcases List.mem_append.mp z with z | z
  · exact n z
  · obtain ⟨ps, q⟩ := (h1 a z).2 o h
    exact nt ps q
theorem Ext.at {K : PySem.W.Frag} {ρ ρ' : List Addr} {H H' : Hp} (e : Ext K ρ H ρ' H') {n : Nat} {a : Addr} (h : ρ[n]? = some a) : ρ'[n]? = some a := by
  obtain ⟨⟨n1, rfl, _⟩, _, _⟩ := e
  rw [List.getElem?_append_left (List.getElem?_eq_some_iff.mp h).1]
  exact h
theorem Ext.rd {K : PySem.W.Frag} {ρ ρ' : List Addr} {H H' : Hp} (e : Ext K ρ H ρ' H') {a : Addr} {u : HO} (h : a ∉ ρ ∧ H a = some u) (nt : ∀ ps, u ≠ .tbl ps := by intro ps z; cases z) : a ∉ ρ' ∧ H' a = some u :=
  ⟨e.notin h.2 h.1 nt, e.keep _ _ h.2 h.1 nt⟩

/-- what values stand on stays -/
structure Tr (K : PySem.W.Frag) (ρ : List Addr) (H : Hp) (ρ' : List Addr) (H' : Hp) : Prop where
  at_ : ∀ (n : Nat) (a : Addr), ρ[n]? = some a → ρ'[n]? = some a
  tup : ∀ a ys, a ∉ ρ → H a = some (.tup ys) → a ∉ ρ' ∧ H' a = some (.tup ys)
  frz : ∀ b o u, (∀ ys, u ≠ .dK ys) → H b = some (.frz o u) → H' b = some (.frz o u)
  tbs : LamX.Tabs (Tk K) H → LamX.Tabs (Tk K) H'
  xds : ∀ a fs, a ∉ ρ → H a = some (.xd fs) → a ∉ ρ' ∧ H' a = some (.xd fs)
theorem Ext.tr {K : PySem.W.Frag} {ρ ρ' : List Addr} {H H' : Hp} (e : Ext K ρ H ρ' H') : Tr K ρ H ρ' H' := ⟨fun n a h => e.at h, fun a ys n h => e.rd ⟨n, h⟩, fun b o u _ h => e.frz b o _ h, e.tbs, fun a fs n h => e.rd ⟨n, h⟩⟩
theorem ExV.tr {K : PySem.W.Frag} {ρ ρ' : List Addr} {H H' : Hp} {a : Addr} {c : Str} {d : Option Addr} (h : ExV K H a c d) (e : Tr K ρ H ρ' H') : ExV K H' a c d := by
  obtain ⟨oe, h1, r⟩ := h
  exact ⟨oe, e.frz _ _ _ (fun ys z => nomatch z) h1, r⟩
theorem LstAt.tr {K : PySem.W.Frag} {ρ ρ' : List Addr} {H H' : Hp} {a : Addr} {ys : List V} (h : LstAt H a ys) (e : Tr K ρ H ρ' H') : LstAt H' a ys := h.imp fun o q => e.frz _ _ _ (fun ys z => nomatch z) q
theorem LstAt.rd {H : Hp} {a : Addr} {ys : List V} (h : LstAt H a ys) : Rd H a (.lst ys) := .inr h
section
variable {K : PySem.W.Frag} {ρ ρ' : List Addr} {H H' : Hp}
mutual
theorem VR.tr (e : Tr K ρ H ρ' H') : ∀ {v : IV} {x : V}, VR K ρ H v x → VR K ρ' H' v x
  | .non, _, h => by simpa only [VR] using h
  | .bl _, _, h => by simpa only [VR] using h
  | .int _, _, h => by simpa only [VR] using h
  | .str _, _, h => by simpa only [VR] using h
  | .tup xs, _, h => by
    simp only [VR] at h ⊢
    obtain ⟨a, ys, rfl, q, r⟩ := h
    exact ⟨a, ys, rfl, e.tup a ys q.1 q.2, VRs.tr e r⟩
  | .lst xs, _, h => by
    simp only [VR] at h ⊢
    obtain ⟨a, ys, rfl, q, r⟩ := h
    exact ⟨a, ys, rfl, q.tr e, VRs.tr e r⟩
  | .scr ns, _, h => by
    simp only [VR] at h ⊢
    obtain ⟨a, rfl, q⟩ := h
    exact ⟨a, rfl, q.imp (fun q => q.tr e) id⟩
  | .ref n, _, h => by
    simp only [VR] at h ⊢
    obtain ⟨a, q, rfl⟩ := h
    exact ⟨a, e.at_ n a q, rfl⟩
  | .adr _, _, h => by simpa only [VR] using h
  | .exn _, _, h => by
    simp only [VR] at h ⊢
    obtain ⟨a, rfl, q⟩ := h
    exact ⟨a, rfl, q.tr e⟩
  | .exf _ _, _, h => by
    simp only [VR] at h ⊢
    obtain ⟨a, dx, x, rfl, q, q2, r⟩ := h
    exact ⟨a, dx, x, rfl, q.tr e, e.xds _ _ q2.1 q2.2, VR.tr e r⟩
theorem VRs.tr (e : Tr K ρ H ρ' H') : ∀ {xs : List IV} {ys : List V}, VRs K ρ H xs ys → VRs K ρ' H' xs ys
  | [], _, h => by simpa only [VRs] using h
  | v :: vs, _, h => by
    simp only [VRs] at h ⊢
    obtain ⟨y, r, rfl, a, b⟩ := h
    exact ⟨y, r, rfl, VR.tr e a, VRs.tr e b⟩
end
theorem VRk.tr {κ : Type} (e : Tr K ρ H ρ' H') : ∀ {xs : List (κ × IV)} {ys : List (κ × V)}, VRk K ρ H xs ys → VRk K ρ' H' xs ys
  | [], _, h => by simpa only [VRk] using h
  | v :: vs, _, h => by
    simp only [VRk] at h ⊢
    obtain ⟨y, r, rfl, a, b⟩ := h
    exact ⟨y, r, rfl, VR.tr e a, VRk.tr e b⟩
theorem VR.ext (e : Ext K ρ H ρ' H') {v : IV} {x : V} (h : VR K ρ H v x) : VR K ρ' H' v x := h.tr e.tr
theorem VRs.ext (e : Ext K ρ H ρ' H') {xs : List IV} {ys : List V} (h : VRs K ρ H xs ys) : VRs K ρ' H' xs ys := h.tr e.tr
theorem VRk.ext {κ : Type} (e : Ext K ρ H ρ' H') {xs : List (κ × IV)} {ys : List (κ × V)} (h : VRk K ρ H xs ys) : VRk K ρ' H' xs ys := h.tr e.tr
theorem SR.ext (e : Ext K ρ H ρ' H') {τ : Ta} {σ : L2.St} (h : SR K ρ H τ σ) : SR K ρ' H' τ σ := ⟨h.1, fun i v q => by
  obtain ⟨x, a, b⟩ := h.2 i v q
  exact ⟨x, a, b.ext e⟩⟩
theorem SR.set {τ : Ta} {σ : L2.St} (h : SR K ρ H τ σ) {v : IV} {x : V} (r : VR K ρ H v x) (i : Nat) : SR K ρ H (τ.set i (some v)) (σ.set i (some x)) := by
  refine ⟨by simp [h.1], fun j w q => ?_⟩
  by_cases e : i = j
  · subst e
    rw [List.getElem?_set] at q
    rw [List.getElem?_set]
    rw [if_pos rfl] at q ⊢
    by_cases l : i < τ.length
    · rw [if_pos l] at q
      rw [if_pos (by rw [← h.1]; exact l)]
      cases q
      exact ⟨x, rfl, r⟩
    · rw [if_neg l] at q
      cases q
  · rw [List.getElem?_set_ne e] at q ⊢
    exact h.2 j w q
theorem VRs.length : ∀ {xs : List IV} {ys : List V}, VRs K ρ H xs ys → xs.length = ys.length
  | [], _, h => by simp only [VRs] at h; rw [h]; rfl
  | v :: vs, _, h => by
    simp only [VRs] at h
    obtain ⟨y, r, rfl, a, b⟩ := h
    rw [List.length_cons, List.length_cons, VRs.length b]
theorem VRs.append : ∀ {xs xs2 : List IV} {ys ys2 : List V}, VRs K ρ H xs ys → VRs K ρ H xs2 ys2 → VRs K ρ H (xs ++ xs2) (ys ++ ys2)
  | [], _, _, _, h, q => by simp only [VRs] at h; rw [h]; exact q
  | v :: vs, _, _, _, h, q => by
    simp only [VRs] at h
    obtain ⟨y, r, rfl, a, b⟩ := h
    simp only [List.cons_append, VRs]
    exact ⟨y, _, rfl, a, VRs.append b q⟩
theorem VRs.get : ∀ {xs : List IV} {ys : List V} {i : Nat} {v : IV}, VRs K ρ H xs ys → xs[i]? = some v → ∃ x, ys[i]? = some x ∧ VR K ρ H v x
  | [], _, _, _, _, e => by simp at e
  | w :: vs, _, 0, v, h, e => by
    simp only [VRs] at h
    obtain ⟨y, r, rfl, a, b⟩ := h
    simp at e
    subst e
    exact ⟨y, by simp, a⟩
  | w :: vs, _, i + 1, v, h, e => by
    simp only [VRs] at h
    obtain ⟨y, r, rfl, a, b⟩ := h
    obtain ⟨x, q1, q2⟩ := VRs.get (i := i) b (by simpa using e)
    exact ⟨x, by simpa using q1, q2⟩
theorem VRs.set {v : IV} {x : V} (q : VR K ρ H v x) : ∀ {xs : List IV} {ys : List V} (i : Nat), VRs K ρ H xs ys → VRs K ρ H (xs.set i v) (ys.set i x)
  | [], _, _, h => by simp only [VRs] at h; rw [h]; simp [VRs]
  | w :: vs, _, 0, h => by
    simp only [VRs] at h
    obtain ⟨y, r, rfl, a, b⟩ := h
    simp only [List.set_cons_zero, VRs]
    exact ⟨x, r, rfl, q, b⟩
  | w :: vs, _, i + 1, h => by
    simp only [VRs] at h
    obtain ⟨y, r, rfl, a, b⟩ := h
    simp only [List.set_cons_succ, VRs]
    exact ⟨y, _, rfl, a, VRs.set q i b⟩
theorem VRs.take : ∀ {xs : List IV} {ys : List V} (n : Nat), VRs K ρ H xs ys → VRs K ρ H (xs.take n) (ys.take n)
  | _, _, 0, _ => by simp [VRs]
  | [], _, n + 1, h => by simp only [VRs] at h; rw [h]; simp [VRs]
  | w :: vs, _, n + 1, h => by
    simp only [VRs] at h
    obtain ⟨y, r, rfl, a, b⟩ := h
    simp only [List.take_succ_cons, VRs]
    exact ⟨y, _, rfl, a, VRs.take n b⟩
theorem VRs.drop : ∀ {xs : List IV} {ys : List V} (n : Nat), VRs K ρ H xs ys → VRs K ρ H (xs.drop n) (ys.drop n)
  | _, _, 0, h => by simpa using h
  | [], _, n + 1, h => by simp only [VRs] at h; rw [h]; simp [VRs]
  | w :: vs, _, n + 1, h => by
    simp only [VRs] at h
    obtain ⟨y, r, rfl, a, b⟩ := h
    simp only [List.drop_succ_cons]
    exact VRs.drop n b
theorem Hc.some {lk : Bool} {a : Addr} {u : HO} (h : Hc H lk a u) : ∃ o, H a = some o := by
  cases lk with
  | false => exact ⟨_, h⟩
  | true => exact ⟨_, h.choose_spec⟩
theorem Hc.rd {lk : Bool} {a : Addr} {u : HO} (h : Hc H lk a u) : Rd H a u := by
  cases lk with
  | false => exact .inl h
  | true => exact .inr h
theorem OR.some {c : Cell} {a : Addr} (h : OR K ρ H c a) : ∃ o, H a = some o := by
  obtain ⟨o, lk⟩ := c
  cases o <;> simp only [OR] at h
  · exact h.choose_spec.1.some
  · exact h.choose_spec.1.some
  · exact h.choose_spec.1.some
  · exact h.choose_spec.choose_spec.1.some
theorem Hc.ext {lk : Bool} {a : Addr} {u : HO} (h : Hc H lk a u) (q : H' a = H a) : Hc H' lk a u := by
  unfold Hc at h ⊢
  rw [q]
  exact h
theorem OR.tr {c : Cell} {a : Addr} (e : Tr K ρ H ρ' H') (q : H' a = H a) (h : OR K ρ H c a) : OR K ρ' H' c a := by
  obtain ⟨o, lk⟩ := c
  cases o <;> simp only [OR] at h ⊢
  · obtain ⟨ys, h1, h2⟩ := h
    exact ⟨ys, h1.ext q, h2.tr e⟩
  · obtain ⟨ys, h1, h2⟩ := h
    exact ⟨ys, h1.ext q, h2.tr e⟩
  · obtain ⟨ys, h1, h2⟩ := h
    exact ⟨ys, h1.ext q, h2.tr e⟩
  · obtain ⟨dx, ys, h1, h2⟩ := h
    exact ⟨dx, ys, h1.ext q, h2.tr e⟩
theorem OR.ext {c : Cell} {a : Addr} (e : Ext K ρ H ρ' H') (q : H' a = H a) (h : OR K ρ H c a) : OR K ρ' H' c a := h.tr e.tr q
theorem HR.there {S : SH} (h : HR K ρ H S) {n : Nat} {a : Addr} (q : ρ[n]? = some a) : ∃ c, S[n]? = some c := by
  have l : n < S.length := by rw [h.len]; exact (List.getElem?_eq_some_iff.mp q).1
  exact ⟨S[n], List.getElem?_eq_getElem l⟩
theorem HR.addr {S : SH} (h : HR K ρ H S) {n : Nat} {c : Cell} (q : S[n]? = some c) : ∃ a, ρ[n]? = some a := by
  have l : n < ρ.length := by rw [← h.len]; exact (List.getElem?_eq_some_iff.mp q).1
  exact ⟨ρ[n], List.getElem?_eq_getElem l⟩
theorem HR.ne {S : SH} (h : HR K ρ H S) {p : Addr} (hp : H p = none) : p ∉ ρ := fun z => by
  obtain ⟨n, l, e⟩ := List.getElem_of_mem z
  have q : ρ[n]? = some p := by rw [List.getElem?_eq_getElem l, e]
  obtain ⟨c, hc⟩ := h.there q
  obtain ⟨o, ho⟩ := (h.cell n c p hc q).some
  rw [ho] at hp
  cases hp
/-- what is no cell is changed -/
theorem HR.off {S : SH} (h : HR K ρ H S) (t : Tr K ρ H ρ H') (k : ∀ a ∈ ρ, H' a = H a) : HR K ρ H' S := ⟨h.len, h.nd, t.tbs h.tab, fun n c a q1 q2 => (h.cell n c a q1 q2).tr t (k a (List.mem_of_getElem? q2))⟩
/-- what was no cell is a cell from now on -/
theorem HR.push {S : SH} (h : HR K ρ H S) {p : Addr} (np : p ∉ ρ) (t : Tr K ρ H (ρ ++ [p]) H) (c : Cell) (hc : OR K (ρ ++ [p]) H c p) : HR K (ρ ++ [p]) H (S ++ [c]) := by
  refine ⟨by simp [h.len], ?_, h.tab, fun n c' a q1 q2 => ?_⟩
  · rw [List.nodup_append]
    refine ⟨h.nd, by simp, fun a ha b hb => ?_⟩
    have z : b = p := by simpa using hb
    rw [z]
    exact fun q => np (q ▸ ha)
  · by_cases l : n < S.length
    · rw [List.getElem?_append_left l] at q1
      rw [List.getElem?_append_left (by rw [← h.len]; exact l)] at q2
      exact (h.cell n c' a q1 q2).tr t rfl
    · have z : n = S.length := by
        have := (List.getElem?_eq_some_iff.mp q1).1
        simp at this
        omega
      subst z
      rw [List.getElem?_append_right (Nat.le_refl _)] at q1
      rw [h.len, List.getElem?_append_right (Nat.le_refl _)] at q2
      simp at q1 q2
      subst q1 q2
      exact hc
/-- a new thing that is no cell -/
theorem HR.inl {S : SH} (h : HR K ρ H S) {p : Addr} (hp : H p = none) (o : HO) : HR K ρ (upd H p o) S ∧ Ext K ρ H ρ (upd H p o) := by
  have e : Ext K ρ H ρ (upd H p o) := ⟨⟨[], by simp, by simp⟩, fun b u hb _ _ => by rw [upd_ne (ne_of_none hb hp)]; exact hb, fun b o u hb => by rw [upd_ne (ne_of_none hb hp)]; exact hb, tabs_upd (nt_none hp)⟩
  refine ⟨⟨h.len, h.nd, e.tbs h.tab, fun n c a q1 q2 => (h.cell n c a q1 q2).ext e ?_⟩, e⟩
  obtain ⟨u, hu⟩ := (h.cell n c a q1 q2).some
  exact upd_ne (ne_of_none hu hp)
/-- a new cell -/
theorem HR.new {S : SH} (h : HR K ρ H S) {p : Addr} (hp : H p = none) (o : HO) (c : Cell) (hc : OR K (ρ ++ [p]) (upd H p o) c p) : HR K (ρ ++ [p]) (upd H p o) (S ++ [c]) ∧ Ext K ρ H (ρ ++ [p]) (upd H p o) := by
  have np := h.ne hp
  have e : Ext K ρ H (ρ ++ [p]) (upd H p o) := ⟨⟨[p], rfl, fun a ha => by
    have z : a = p := by simpa using ha
    rw [z]
    exact ⟨np, no_tbl hp⟩⟩, fun b u hb _ _ => by rw [upd_ne (ne_of_none hb hp)]; exact hb, fun b o u hb => by rw [upd_ne (ne_of_none hb hp)]; exact hb, tabs_upd (nt_none hp)⟩
  refine ⟨⟨by simp [h.len], ?_, e.tbs h.tab, fun n c' a q1 q2 => ?_⟩, e⟩
  · rw [List.nodup_append]
    refine ⟨h.nd, by simp, fun a ha b hb => ?_⟩
    have z : b = p := by simpa using hb
    rw [z]
    exact fun q => np (q ▸ ha)
  · by_cases l : n < S.length
    · rw [List.getElem?_append_left l] at q1
      rw [List.getElem?_append_left (by rw [← h.len]; exact l)] at q2
      obtain ⟨u, hu⟩ := (h.cell n c' a q1 q2).some
      exact (h.cell n c' a q1 q2).ext e (upd_ne (ne_of_none hu hp))
    · have z : n = S.length := by
        have := (List.getElem?_eq_some_iff.mp q1).1
        simp at this
        omega
      subst z
      rw [List.getElem?_append_right (Nat.le_refl _)] at q1
      rw [h.len, List.getElem?_append_right (Nat.le_refl _)] at q2
      simp at q1 q2
      subst q1 q2
      exact hc
/-- a cell is changed, what it holds being told -/
theorem HR.set {S : SH} (h : HR K ρ H S) {n : Nat} {a : Addr} (q : ρ[n]? = some a) (c : Cell) (t : Tr K ρ H ρ H') (k : ∀ b, b ≠ a → H' b = H b) (hc : OR K ρ H' c a) : HR K ρ H' (S.set n c) := by
  refine ⟨by simp [h.len], h.nd, t.tbs h.tab, fun m c' b q1 q2 => ?_⟩
  by_cases z : n = m
  · subst z
    rw [q] at q2
    cases q2
    have l : n < S.length := by rw [h.len]; exact (List.getElem?_eq_some_iff.mp q).1
    rw [List.getElem?_set_self l] at q1
    cases q1
    exact hc
  · rw [List.getElem?_set_ne z] at q1
    have nb : b ≠ a := fun w => z (by
      subst w
      obtain ⟨l1, e1⟩ := List.getElem?_eq_some_iff.mp q
      obtain ⟨l2, e2⟩ := List.getElem?_eq_some_iff.mp q2
      exact (List.getElem_inj h.nd).mp (e1.trans e2.symm))
    exact (h.cell m c' b q1 q2).tr t (k b nb)
theorem or_nt {c : Cell} {a : Addr} (h : OR K ρ H c a) : NT (H a) := by
  obtain ⟨o, lk⟩ := c
  have key : ∀ {u : HO}, Hc H lk a u → (∀ ps, u ≠ .tbl ps) → (∀ f, u ≠ .ext f) → NT (H a) := fun {u} g n1 n2 => by
    cases lk with
    | false =>
      have g : H a = some u := g
      exact ⟨fun ps z => n1 ps (Option.some.inj (g.symm.trans z)), fun f z => n2 f (Option.some.inj (g.symm.trans z))⟩
    | true =>
      have g : ∃ o, H a = some (.frz o u) := g
      exact nt_frz g.choose_spec
  cases o <;> simp only [OR] at h
  · exact key h.choose_spec.1 (fun _ z => nomatch z) (fun _ z => nomatch z)
  · exact key h.choose_spec.1 (fun _ z => nomatch z) (fun _ z => nomatch z)
  · exact key h.choose_spec.1 (fun _ z => nomatch z) (fun _ z => nomatch z)
  · exact key h.choose_spec.choose_spec.1 (fun _ z => nomatch z) (fun _ z => nomatch z)
theorem HR.nt {S : SH} (h : HR K ρ H S) {n : Nat} {a : Addr} (q : ρ[n]? = some a) : NT (H a) := by
  obtain ⟨c, hc⟩ := h.there q
  exact or_nt (h.cell n c a hc q)
/-- a cell is changed -/
theorem HR.upd {S : SH} (h : HR K ρ H S) {n : Nat} {a : Addr} (q : ρ[n]? = some a) (nf : ∀ o u, H a ≠ some (.frz o u)) (o : HO) (c : Cell) (hc : ∀ (e : Ext K ρ H ρ (upd H a o)), OR K ρ (upd H a o) c a) : HR K ρ (upd H a o) (S.set n c) ∧ Ext K ρ H ρ (upd H a o) := by
  have ha : a ∈ ρ := List.mem_of_getElem? q
  have e : Ext K ρ H ρ (L2.upd H a o) := ⟨⟨[], by simp, by simp⟩, fun b u hb hn _ => by
    have z : b ≠ a := fun z => hn (z ▸ ha)
    rw [upd_ne z]
    exact hb, fun b o u hb => by
    have z : b ≠ a := fun z => nf o u (z ▸ hb)
    rw [upd_ne z]
    exact hb, tabs_upd (h.nt q)⟩
  exact ⟨h.set q c e.tr (fun b nb => upd_ne nb) (hc e), e⟩
end
end JF
set_option maxHeartbeats 1000000
/-! JB: what a result comes to; expressions: names, constants, operators, tests, displays. -/
namespace JF
open PySem PySem.Spec PyProof.Rows L2

section
variable (K : PySem.W.Frag)
/-- a result in the abstract heap -/
def Post (W : WX) (σ : L2.St) (ρ : List Addr) (H : Hp) {α β : Type} (rel : List Addr → Hp → α → β → Prop) (r : R α) (Q : β → Hp → Prop) : Prop := match r with
  | .ok v S' => ∀ ρ' H' x, HR K ρ' H' S' → Ext K ρ H ρ' H' → rel ρ' H' v x → Q x H'
  | .exc e S' => ∀ ρ' H' cls d, HR K ρ' H' S' → Ext K ρ H ρ' H' → ExR K ρ' H' e cls d → W cls d σ H'
  | .bad => False
def relV : List Addr → Hp → IV → V → Prop := fun ρ H v x => VR K ρ H v x
def relL : List Addr → Hp → List IV → List V → Prop := fun ρ H v x => VRs K ρ H v x
def relB : List Addr → Hp → Bool → Bool → Prop := fun _ _ v x => v = x
def relU : List Addr → Hp → Unit → Unit → Prop := fun _ _ _ _ => True
def tE (en : En) (W : WX) (d : Ed) : TE := fun σ H Q => ∃ ρ S τ, HR K ρ H S ∧ SR K ρ H τ σ ∧ Post K W σ ρ H (relV K) (d en τ S) Q
def tT (en : En) (W : WX) (d : Td) : TT := fun σ H Q => ∃ ρ S τ, HR K ρ H S ∧ SR K ρ H τ σ ∧ Post K W σ ρ H relB (d en τ S) Q
def tA (en : En) (W : WX) (d : Ad) : TA := fun σ H Q => ∃ ρ S τ, HR K ρ H S ∧ SR K ρ H τ σ ∧ Post K W σ ρ H (relL K) (d en τ S) Q
/-- an operation on values: what it gives, the cells behind -/
def PostO (ρ : List Addr) (H : Hp) (o : Option (IV × SH)) (Q : VK) : Prop := ∃ v S', o = some (v, S') ∧ ∀ ρ' H' x, HR K ρ' H' S' → Ext K ρ H ρ' H' → VR K ρ' H' v x → Q x H'
def rI2 (F : IV → IV → SH → Option (IV × SH)) : R2 := fun x y H Q => ∃ ρ S u v, HR K ρ H S ∧ VR K ρ H u x ∧ VR K ρ H v y ∧ PostO K ρ H (F u v S) Q
def rI1 (F : IV → SH → Option (IV × SH)) : V → Hp → VK → Prop := fun x H Q => ∃ ρ S u, HR K ρ H S ∧ VR K ρ H u x ∧ PostO K ρ H (F u S) Q
def rIc (F : List IV → SH → Option (IV × SH)) : List V → Hp → VK → Prop := fun xs H Q => ∃ ρ S us, HR K ρ H S ∧ VRs K ρ H us xs ∧ PostO K ρ H (F us S) Q
end
section
variable {K : PySem.W.Frag} {W : WX} {σ : L2.St} {ρ ρ1 : List Addr} {H H1 : Hp}
theorem Post.at {α β : Type} {rel : List Addr → Hp → α → β → Prop} {r : R α} {Q : β → Hp → Prop} (e : Ext K ρ H ρ1 H1) (h : Post K W σ ρ H rel r Q) : Post K W σ ρ1 H1 rel r Q := by
  cases r with
  | ok v S => exact fun ρ' H' x a b c => h ρ' H' x a (e.trans b) c
  | exc x S => exact fun ρ' H' cls d a b c => h ρ' H' cls d a (e.trans b) c
  | bad => exact h
theorem Post.mono {α β : Type} {rel : List Addr → Hp → α → β → Prop} {r : R α} {Q Q' : β → Hp → Prop} (h : Post K W σ ρ H rel r Q) (q : ∀ x H', Q x H' → Q' x H') : Post K W σ ρ H rel r Q' := by
  cases r with
  | ok v S => exact fun ρ' H' x a b c => q _ _ (h ρ' H' x a b c)
  | exc x S => exact h
  | bad => exact h
/-- one thing after another -/
theorem Post.seq {α β γ δ : Type} {rel1 : List Addr → Hp → α → β → Prop} {rel2 : List Addr → Hp → γ → δ → Prop} {m : R α} {k : α → SH → R γ} {Q : δ → Hp → Prop} {T : β → Hp → Prop} (h : Post K W σ ρ H rel2 (m.bind k) Q)
    (q : ∀ ρ1 H1 S1 v x, HR K ρ1 H1 S1 → Ext K ρ H ρ1 H1 → rel1 ρ1 H1 v x → Post K W σ ρ1 H1 rel2 (k v S1) Q → T x H1) : Post K W σ ρ H rel1 m T := by
  cases m with
  | ok v S => exact fun ρ' H' x a b c => q ρ' H' S v x a b c (Post.at b h)
  | exc x S => exact h
  | bad => exact h
theorem Post.ofO {Q : VK} {o : Option (IV × SH)} (h : Post K W σ ρ H (relV K) (ofO o) Q) : PostO K ρ H o Q := by
  cases o with
  | none => exact h.elim
  | some p => exact ⟨p.1, p.2, rfl, h⟩
theorem PostO.same {S : SH} {Q : VK} {v : IV} {x : V} (h : PostO K ρ H (some (v, S)) Q) (hr : HR K ρ H S) (r : VR K ρ H v x) : Q x H := by
  obtain ⟨v', S', e, q⟩ := h
  cases e
  exact q ρ H x hr (Ext.refl _ _) r
theorem PostO.to {S : SH} {Q : VK} {v : IV} (h : PostO K ρ H (some (v, S)) Q) {ρ' : List Addr} {H' : Hp} {x : V} (hr : HR K ρ' H' S) (e : Ext K ρ H ρ' H') (r : VR K ρ' H' v x) : Q x H' := by
  obtain ⟨v', S', e', q⟩ := h
  cases e'
  exact q ρ' H' x hr e r
theorem PostO.none {Q : VK} (h : PostO K ρ H none Q) : False := by
  obtain ⟨_, _, e, _⟩ := h
  cases e
end
theorem _root_.L2.PE.jimp {X : Cx} {e : Expr} {t t' : TE} (h : PE X e t) (q : ∀ σ H Q, t' σ H Q → t σ H Q) : PE X e t' := ⟨fun pins s σ H Q I w => h.run pins s σ H Q I (q σ H Q w)⟩
theorem _root_.L2.PT.jimp {X : Cx} {e : Expr} {t t' : TT} (h : PT X e t) (q : ∀ σ H Q, t' σ H Q → t σ H Q) : PT X e t' := ⟨fun pins s σ H Q I w => h.run pins s σ H Q I (q σ H Q w)⟩
theorem _root_.L2.PW.jimp {X : Cx} {e : Expr} {t t' : TT} (h : PW X e t) (q : ∀ σ H Q, t' σ H Q → t σ H Q) : PW X e t' := ⟨fun wh pins s σ H Q I w => h.run wh pins s σ H Q I (q σ H Q w)⟩
theorem _root_.L2.PA.jimp {X : Cx} {e : List Expr} {t t' : TA} (h : PA X e t) (q : ∀ σ H Q, t' σ H Q → t σ H Q) : PA X e t' := ⟨fun pos pins s σ H Q I w => h.run pos pins s σ H Q I (q σ H Q w)⟩
theorem _root_.L2.PE.jor {X : Cx} {e : Expr} {t t' : TE} (h : PE X e t) (h' : PE X e t') : PE X e (fun σ H Q => t σ H Q ∨ t' σ H Q) := ⟨fun pins s σ H Q I w => w.elim (h.run pins s σ H Q I) (h'.run pins s σ H Q I)⟩
theorem _root_.L2.OpR.jimp {X : Cx} {f : Value → Value → Sem Value} {r r' : R2} (h : OpR X f r) (q : ∀ x y H Q, r' x y H Q → r x y H Q) : OpR X f r' := fun pins s σ H x y v u Q I rx ry w => h pins s σ H x y v u Q I rx ry (q _ _ _ _ w)
theorem _root_.L2.CallR.jimp {X : Cx} {f : Value} {r r' : List V → Hp → VK → Prop} (h : CallR X f r) (q : ∀ xs H Q, r' xs H Q → r xs H Q) : CallR X f r' := fun pins s σ H xs us Q I rx w => h pins s σ H xs us Q I rx (q _ _ _ w)

/-! ### a new list, locked for good if wanted -/
def fz (Q : VK) : VK := fun x H => Q x H ∨ ∃ d u, x = .ref d ∧ H d = some u ∧ Mut (some u) ∧ ∀ od, Q x (upd H d (.frz od u))
theorem _root_.L2.EP.fz {X : Cx} {pins : List (Addr × Obj)} {σ : L2.St} {Q : VK} {u : Value} {s : Shared} (h : EP X pins σ (JF.fz Q) u s) : EP X pins σ Q u s := by
  obtain ⟨v, H, I, r, q | ⟨d, w, e, hd, mu, q⟩⟩ := h
  · exact ⟨v, H, I, r, q⟩
  · obtain ⟨od, I2⟩ := I.lock hd mu
    exact ⟨v, _, I2, r, q od⟩
theorem _root_.L2.PE.fz {X : Cx} {e : Expr} {t : TE} (h : PE X e t) : PE X e (fun σ H Q => t σ H (JF.fz Q)) := ⟨fun pins s σ H Q I w => thn (h.run pins s σ H _ I w) fun _ _ q => q.fz⟩
theorem _root_.L2.OpR.fz {X : Cx} {f : Value → Value → Sem Value} {r : R2} (h : OpR X f r) : OpR X f (fun x y H Q => r x y H (JF.fz Q)) := fun pins s σ H x y v u Q I rx ry w => thn (h pins s σ H x y v u _ I rx ry w) fun _ _ q => q.fz
theorem _root_.L2.CallR.fz {X : Cx} {f : Value} {r : List V → Hp → VK → Prop} (h : CallR X f r) : CallR X f (fun xs H Q => r xs H (JF.fz Q)) := fun pins s σ H xs us Q I rx w => thn (h pins s σ H xs us _ I rx w) fun _ _ q => q.fz

/-! ### the codes -/
def dVar (i : Nat) : Ed := fun _ τ S => match τ[i]? with
  | some (some v) => .ok v S
  | _ => .bad
def dCst (v : IV) : Ed := fun _ _ S => .ok v S
def dBin (F : IV → IV → SH → Option (IV × SH)) (a b : Ed) : Ed := fun en τ S => (a en τ S).bind fun u S1 => (b en τ S1).bind fun v S2 => ofO (F u v S2)
def dUn (F : IV → SH → Option (IV × SH)) (a : Ed) : Ed := fun en τ S => (a en τ S).bind fun u S1 => ofO (F u S1)
def bOf : IV → SH → R Bool
  | .bl b, S => .ok b S
  | _, _ => .bad
/-- a value as a test -/
def dTst (a : Ed) : Td := fun en τ S => (a en τ S).bind bOf
def dTv (t : Td) : Ed := fun en τ S => (t en τ S).bind fun b S => .ok (.bl b) S
def dAnd (a b : Td) : Td := fun en τ S => (a en τ S).bind fun c S1 => if c = true then b en τ S1 else .ok false S1
def dOr (a b : Td) : Td := fun en τ S => (a en τ S).bind fun c S1 => if c = true then .ok true S1 else b en τ S1
def dNot (a : Td) : Td := fun en τ S => (a en τ S).bind fun c S1 => .ok (!c) S1
def dIf (t : Td) (a b : Ed) : Ed := fun en τ S => (t en τ S).bind fun c S1 => if c = true then a en τ S1 else b en τ S1
/-- a op b op' c -/
def dChain (F F' : IV → IV → SH → Option (IV × SH)) (a b c : Ed) : Td := fun en τ S => (a en τ S).bind fun u S1 => (b en τ S1).bind fun v S2 => (ofO (F u v S2)).bind fun z S3 => (bOf z S3).bind fun k S3 =>
  if k = true then (c en τ S3).bind fun w S4 => (ofO (F' v w S4)).bind bOf else .ok false S3
def dNil : Ad := fun _ _ S => .ok [] S
def dCons (a : Ed) (as : Ad) : Ad := fun en τ S => (a en τ S).bind fun u S1 => (as en τ S1).bind fun us S2 => .ok (u :: us) S2
def dTup (as : Ad) : Ed := fun en τ S => (as en τ S).bind fun us S1 => if us.length ≤ sizeLine then .ok (.tup us) S1 else .bad
def mkL (cell : Bool) (xs : List IV) (S : SH) : IV × SH := if cell = true then (.ref S.length, S ++ [⟨.lst xs, false⟩]) else (.lst xs, S)
def dLst (cell : Bool) (as : Ad) : Ed := fun en τ S => (as en τ S).bind fun us S1 => if us.length ≤ sizeLine then .ok (mkL cell us S1).1 (mkL cell us S1).2 else .bad
def dCall (F : List IV → SH → Option (IV × SH)) (as : Ad) : Ed := fun en τ S => (as en τ S).bind fun us S1 => ofO (F us S1)

section
variable {X : Cx} {en : En} {W : WX} {pos : Pos}
theorem new_tup {K : PySem.W.Frag} {ρ : List Addr} {H : Hp} {S : SH} {us : List IV} {xs : List V} (hr : HR K ρ H S) (r : VRs K ρ H us xs) {p : Addr} (hp : H p = none) :
    HR K ρ (upd H p (.tup xs)) S ∧ Ext K ρ H ρ (upd H p (.tup xs)) ∧ VR K ρ (upd H p (.tup xs)) (.tup us) (.ref p) := by
  obtain ⟨a, e⟩ := hr.inl hp (.tup xs)
  refine ⟨a, e, ?_⟩
  simp only [VR]
  exact ⟨p, xs, rfl, ⟨hr.ne hp, upd_same⟩, r.ext e⟩
theorem new_frz {K : PySem.W.Frag} {ρ : List Addr} {H : Hp} {S : SH} {us : List IV} {xs : List V} (hr : HR K ρ H S) (r : VRs K ρ H us xs) {p : Addr} (hp : H p = none) (od : Obj) :
    HR K ρ (upd (upd H p (.lst xs)) p (.frz od (.lst xs))) S ∧ Ext K ρ H ρ (upd (upd H p (.lst xs)) p (.frz od (.lst xs))) ∧ VR K ρ (upd (upd H p (.lst xs)) p (.frz od (.lst xs))) (.lst us) (.ref p) := by
  rw [upd_upd]
  obtain ⟨a, e⟩ := hr.inl hp (.frz od (.lst xs))
  refine ⟨a, e, ?_⟩
  simp only [VR]
  exact ⟨p, xs, rfl, ⟨od, upd_same⟩, r.ext e⟩
theorem new_cell {K : PySem.W.Frag} {ρ : List Addr} {H : Hp} {S : SH} {us : List IV} {xs : List V} (hr : HR K ρ H S) (r : VRs K ρ H us xs) {p : Addr} (hp : H p = none) :
    HR K (ρ ++ [p]) (upd H p (.lst xs)) (S ++ [⟨.lst us, false⟩]) ∧ Ext K ρ H (ρ ++ [p]) (upd H p (.lst xs)) ∧ VR K (ρ ++ [p]) (upd H p (.lst xs)) (.ref S.length) (.ref p) := by
  have e0 : Ext K ρ H (ρ ++ [p]) (upd H p (.lst xs)) := ⟨⟨[p], rfl, fun a ha => by
    have z : a = p := by simpa using ha
    rw [z]
    exact ⟨hr.ne hp, no_tbl hp⟩⟩, fun b u hb _ _ => by rw [upd_ne (ne_of_none hb hp)]; exact hb, fun b o u hb => by rw [upd_ne (ne_of_none hb hp)]; exact hb, tabs_upd (nt_none hp)⟩
  obtain ⟨a, e⟩ := hr.new hp (.lst xs) ⟨.lst us, false⟩ (by
    simp only [OR]
    exact ⟨xs, upd_same, r.ext e0⟩)
  refine ⟨a, e, ?_⟩
  simp only [VR]
  refine ⟨p, ?_, rfl⟩
  rw [hr.len, List.getElem?_append_right (Nat.le_refl _)]
  simp
/-- a new list comes, as a cell or locked -/
theorem new_lst {K : PySem.W.Frag} {ρ : List Addr} {H : Hp} {S : SH} {us : List IV} {xs : List V} {Q : VK} (hr : HR K ρ H S) (r : VRs K ρ H us xs) (cell : Bool)
    (q : ∀ ρ' H' x, HR K ρ' H' (mkL cell us S).2 → Ext K ρ H ρ' H' → VR K ρ' H' (mkL cell us S).1 x → Q x H') {p : Addr} (hp : H p = none) : fz Q (.ref p) (upd H p (.lst xs)) := by
  cases cell with
  | false => exact .inr ⟨p, _, rfl, upd_same, True.intro, fun od => let ⟨a, b, c⟩ := new_frz hr r hp od; q _ _ _ a b c⟩
  | true => exact .inl (let ⟨a, b, c⟩ := new_cell hr r hp; q _ _ _ a b c)

theorem s_var {i : Nat} {x : Str} (hN : X.N[i]? = some x) (hv : Vis X.env.scope x) (hd : (x == ("__debug__" : Str)) = false) (hcd : (x == ("__classdict__" : Str)) = false) : PE X (.Name x pos) (tE X.K en W (dVar i)) := by
  refine (pe_var (i := i) hN hv hd hcd).jimp fun σ H Q ⟨ρ, S, τ, hr, sr, h⟩ => ?_
  unfold dVar at h
  split at h
  · rename_i v e
    obtain ⟨x, q1, q2⟩ := sr.2 i v e
    exact ⟨x, q1, h ρ H x hr (Ext.refl _ _) q2⟩
  · exact h.elim
theorem s_cst {e : Expr} {c : IV} {v : V} (h : PE X e (tC v)) (r : ∀ ρ H, VR X.K ρ H c v) : PE X e (tE X.K en W (dCst c)) :=
  h.jimp fun σ H Q ⟨ρ, S, τ, hr, sr, q⟩ => q ρ H v hr (Ext.refl _ _) (r ρ H)
theorem s_bin {a b : Expr} {op : Operator} {da db : Ed} {F : IV → IV → SH → Option (IV × SH)} (ho : OpR X (binaryOp op) (rI2 X.K F)) (ha : PE X a (tE X.K en W da)) (hb : PE X b (tE X.K en W db)) :
    PE X (.BinOp a op b pos) (tE X.K en W (dBin F da db)) := by
  refine (pe_op ho ha hb).jimp fun σ H Q ⟨ρ, S, τ, hr, sr, h⟩ => ⟨ρ, S, τ, hr, sr, ?_⟩
  refine Post.seq h fun ρ1 H1 S1 u x hr1 e1 r1 h1 => ⟨ρ1, S1, τ, hr1, sr.ext e1, ?_⟩
  exact Post.seq h1 fun ρ2 H2 S2 v y hr2 e2 r2 h2 => ⟨ρ2, S2, u, v, hr2, VR.ext e2 r1, r2, h2.ofO⟩
theorem s_un {a : Expr} {op : UnaryOp} {da : Ed} {F : IV → SH → Option (IV × SH)} (ho : UnR X (unaryOp op) (rI1 X.K F)) (ha : PE X a (tE X.K en W da)) : PE X (.UnaryOp op a pos) (tE X.K en W (dUn F da)) := by
  refine (pe_un ho ha).jimp fun σ H Q ⟨ρ, S, τ, hr, sr, h⟩ => ⟨ρ, S, τ, hr, sr, ?_⟩
  exact Post.seq h fun ρ1 H1 S1 u x hr1 e1 r1 h1 => ⟨ρ1, S1, u, hr1, r1, h1.ofO⟩
theorem s_cmp {a b : Expr} {op : CmpOp} {da db : Ed} {F : IV → IV → SH → Option (IV × SH)} (ho : OpR X (compareOp op) (rI2 X.K F)) (ha : PE X a (tE X.K en W da)) (hb : PE X b (tE X.K en W db)) (hm : behindInMarks op b = false) :
    PE X (.Compare a [op] [b] pos) (tE X.K en W (dBin F da db)) := by
  refine (pe_cmpR ho ha hb hm).jimp fun σ H Q ⟨ρ, S, τ, hr, sr, h⟩ => ⟨ρ, S, τ, hr, sr, ?_⟩
  refine Post.seq h fun ρ1 H1 S1 u x hr1 e1 r1 h1 => ⟨ρ1, S1, τ, hr1, sr.ext e1, ?_⟩
  exact Post.seq h1 fun ρ2 H2 S2 v y hr2 e2 r2 h2 => ⟨ρ2, S2, u, v, hr2, VR.ext e2 r1, r2, h2.ofO⟩
theorem bOf_post {σ : L2.St} {ρ : List Addr} {H : Hp} {S : SH} {z : IV} {x : V} {Q : Bool → Hp → Prop} {K : PySem.W.Frag} (hr : HR K ρ H S) (r : VR K ρ H z x) (h : Post K W σ ρ H relB (bOf z S) Q) : ∃ k, x = .bl k ∧ Q k H := by
  cases z with
  | bl b =>
    simp only [VR] at r
    exact ⟨b, r, h ρ H b hr (Ext.refl _ _) rfl⟩
  | _ => exact h.elim
/-- a comparison as a test -/
theorem t_cmp {a b : Expr} {op : CmpOp} {da db : Ed} {F : IV → IV → SH → Option (IV × SH)} (ho : OpR X (compareOp op) (rI2 X.K F)) (ha : PE X a (tE X.K en W da)) (hb : PE X b (tE X.K en W db)) (hm : behindInMarks op b = false) :
    PT X (.Compare a [op] [b] pos) (tT X.K en W (dTst (dBin F da db))) := by
  refine (pt_cmpR ho ha hb hm).jimp fun σ H Q ⟨ρ, S, τ, hr, sr, h⟩ => ⟨ρ, S, τ, hr, sr, ?_⟩
  have h0 : Post X.K W σ ρ H relB ((da en τ S).bind fun u S1 => ((db en τ S1).bind fun v S2 => (ofO (F u v S2)).bind bOf)) Q := by
    unfold dTst dBin at h
    revert h
    cases da en τ S with
    | ok u S1 =>
      show Post _ _ _ _ _ _ (R.bind (R.bind (db en τ S1) _) _) _ → Post _ _ _ _ _ _ (R.bind (db en τ S1) _) _
      cases db en τ S1 <;> exact id
    | exc _ _ => exact id
    | bad => exact id
  refine Post.seq h0 fun ρ1 H1 S1 u x hr1 e1 r1 h1 => ⟨ρ1, S1, τ, hr1, sr.ext e1, ?_⟩
  refine Post.seq h1 fun ρ2 H2 S2 v y hr2 e2 r2 h2 => ⟨ρ2, S2, u, v, hr2, VR.ext e2 r1, r2, ?_⟩
  cases eF : F u v S2 with
  | none => rw [eF] at h2; exact h2.elim
  | some p =>
    rw [eF] at h2
    refine ⟨p.1, p.2, rfl, fun ρ3 H3 z hr3 e3 r3 => bOf_post hr3 r3 (Post.at e3 h2)⟩
theorem t_val {e : Expr} {d : Ed} (h : PE X e (tE X.K en W d)) (he : ∀ whole, isTrue e X.env whole = (do let v ← whole; standAt e.pos; holding [v] (truthy v))) : PT X e (tT X.K en W (dTst d)) := by
  refine (pt_val h he).jimp fun σ H Q ⟨ρ, S, τ, hr, sr, h⟩ => ⟨ρ, S, τ, hr, sr, ?_⟩
  exact Post.seq h fun ρ1 H1 S1 u x hr1 e1 r1 h1 => bOf_post hr1 r1 h1
theorem t_not {a : Expr} {d : Td} (h : PT X a (tT X.K en W d)) : PT X (.UnaryOp .Not a pos) (tT X.K en W (dNot d)) := by
  refine (pt_not h).jimp fun σ H Q ⟨ρ, S, τ, hr, sr, h⟩ => ⟨ρ, S, τ, hr, sr, ?_⟩
  exact Post.seq h fun ρ1 H1 S1 u x hr1 e1 r1 h1 => h1 ρ1 H1 _ hr1 (Ext.refl _ _) (by rw [show u = x from r1]; rfl)
theorem w_and1 {a : Expr} {d : Td} (h : PT X a (tT X.K en W d)) : PW X (.BoolOp .And [a] pos) (tT X.K en W d) := pw_and1 h
theorem w_or1 {a : Expr} {d : Td} (h : PT X a (tT X.K en W d)) : PW X (.BoolOp .Or [a] pos) (tT X.K en W d) := pw_or1 h
theorem w_and {a b : Expr} {rest : List Expr} {d d2 : Td} (h : PT X a (tT X.K en W d)) (h2 : PW X (.BoolOp .And (b :: rest) pos) (tT X.K en W d2)) : PW X (.BoolOp .And (a :: b :: rest) pos) (tT X.K en W (dAnd d d2)) := by
  refine (pw_and h h2).jimp fun σ H Q ⟨ρ, S, τ, hr, sr, h⟩ => ⟨ρ, S, τ, hr, sr, ?_⟩
  refine Post.seq h fun ρ1 H1 S1 u x hr1 e1 r1 h1 => ?_
  cases (show u = x from r1)
  cases u with
  | true => exact ⟨ρ1, S1, τ, hr1, sr.ext e1, h1⟩
  | false => exact h1 ρ1 H1 _ hr1 (Ext.refl _ _) rfl
theorem w_or {a b : Expr} {rest : List Expr} {d d2 : Td} (h : PT X a (tT X.K en W d)) (h2 : PW X (.BoolOp .Or (b :: rest) pos) (tT X.K en W d2)) : PW X (.BoolOp .Or (a :: b :: rest) pos) (tT X.K en W (dOr d d2)) := by
  refine (pw_or h h2).jimp fun σ H Q ⟨ρ, S, τ, hr, sr, h⟩ => ⟨ρ, S, τ, hr, sr, ?_⟩
  refine Post.seq h fun ρ1 H1 S1 u x hr1 e1 r1 h1 => ?_
  cases (show u = x from r1)
  cases u with
  | true => exact h1 ρ1 H1 _ hr1 (Ext.refl _ _) rfl
  | false => exact ⟨ρ1, S1, τ, hr1, sr.ext e1, h1⟩
/-- and, or of truths as values -/
theorem v_one {op : BoolOp} {a : Expr} {d : Ed} (h : PE X a (tE X.K en W d)) : PE X (.BoolOp op [a] pos) (tE X.K en W d) := pe_one h
def dAndV (a b : Ed) : Ed := fun en τ S => (a en τ S).bind fun u S1 => (bOf u S1).bind fun c S1 => if c = true then b en τ S1 else .ok (.bl false) S1
def dOrV (a b : Ed) : Ed := fun en τ S => (a en τ S).bind fun u S1 => (bOf u S1).bind fun c S1 => if c = true then .ok (.bl true) S1 else b en τ S1
def dNotV (a : Ed) : Ed := fun en τ S => (a en τ S).bind fun u S1 => (bOf u S1).bind fun c S1 => .ok (.bl (!c)) S1
theorem vr_bl {K : PySem.W.Frag} {ρ : List Addr} {H : Hp} {b : Bool} : VR K ρ H (.bl b) (.bl b) := by simp only [VR]
theorem v_and {a b : Expr} {rest : List Expr} {d d2 : Ed} (h : PE X a (tE X.K en W d)) (h2 : PE X (.BoolOp .And (b :: rest) pos) (tE X.K en W d2)) : PE X (.BoolOp .And (a :: b :: rest) pos) (tE X.K en W (dAndV d d2)) := by
  refine (pe_and h h2).jimp fun σ H Q ⟨ρ, S, τ, hr, sr, h⟩ => ⟨ρ, S, τ, hr, sr, ?_⟩
  refine Post.seq h fun ρ1 H1 S1 u x hr1 e1 r1 h1 => ?_
  cases u with
  | bl c =>
    have r1 : x = V.bl c := by simpa only [relV, VR] using r1
    refine ⟨c, r1, ?_⟩
    cases c with
    | true => exact ⟨ρ1, S1, τ, hr1, sr.ext e1, h1⟩
    | false => exact h1 ρ1 H1 _ hr1 (Ext.refl _ _) vr_bl
  | _ => exact h1.elim
theorem v_or {a b : Expr} {rest : List Expr} {d d2 : Ed} (h : PE X a (tE X.K en W d)) (h2 : PE X (.BoolOp .Or (b :: rest) pos) (tE X.K en W d2)) : PE X (.BoolOp .Or (a :: b :: rest) pos) (tE X.K en W (dOrV d d2)) := by
  refine (pe_or h h2).jimp fun σ H Q ⟨ρ, S, τ, hr, sr, h⟩ => ⟨ρ, S, τ, hr, sr, ?_⟩
  refine Post.seq h fun ρ1 H1 S1 u x hr1 e1 r1 h1 => ?_
  cases u with
  | bl c =>
    have r1 : x = V.bl c := by simpa only [relV, VR] using r1
    refine ⟨c, r1, ?_⟩
    cases c with
    | true => exact h1 ρ1 H1 _ hr1 (Ext.refl _ _) vr_bl
    | false => exact ⟨ρ1, S1, τ, hr1, sr.ext e1, h1⟩
  | _ => exact h1.elim
theorem v_not {a : Expr} {d : Ed} (h : PE X a (tE X.K en W d)) : PE X (.UnaryOp .Not a pos) (tE X.K en W (dNotV d)) := by
  refine (pe_not h).jimp fun σ H Q ⟨ρ, S, τ, hr, sr, h⟩ => ⟨ρ, S, τ, hr, sr, ?_⟩
  refine Post.seq h fun ρ1 H1 S1 u x hr1 e1 r1 h1 => ?_
  cases u with
  | bl c =>
    have r1 : x = V.bl c := by simpa only [relV, VR] using r1
    exact ⟨c, r1, h1 ρ1 H1 _ hr1 (Ext.refl _ _) vr_bl⟩
  | _ => exact h1.elim
theorem s_if {c a b : Expr} {dt : Td} {da db : Ed} (hc : PT X c (tT X.K en W dt)) (ha : PE X a (tE X.K en W da)) (hb : PE X b (tE X.K en W db)) : PE X (.IfExp c a b pos) (tE X.K en W (dIf dt da db)) := by
  refine (pe_ifExp hc ha hb).jimp fun σ H Q ⟨ρ, S, τ, hr, sr, h⟩ => ⟨ρ, S, τ, hr, sr, ?_⟩
  refine Post.seq h fun ρ1 H1 S1 u x hr1 e1 r1 h1 => ?_
  cases (show u = x from r1)
  cases u with
  | true => exact ⟨ρ1, S1, τ, hr1, sr.ext e1, h1⟩
  | false => exact ⟨ρ1, S1, τ, hr1, sr.ext e1, h1⟩
theorem chain_post {ta tb tc : TE} {F F' : IV → IV → SH → Option (IV × SH)} {da db dc : Ed} {σ : L2.St} {H : Hp} {Q : Bool → Hp → Prop} (h : tT X.K en W (dChain F F' da db dc) σ H Q) :
    tTest (tChain (rI2 X.K F) (rI2 X.K F') (tE X.K en W da) (tE X.K en W db) (tE X.K en W dc)) σ H Q := by
  obtain ⟨ρ, S, τ, hr, sr, h⟩ := h
  refine ⟨ρ, S, τ, hr, sr, ?_⟩
  refine Post.seq h fun ρ1 H1 S1 u x hr1 e1 r1 h1 => ⟨ρ1, S1, τ, hr1, sr.ext e1, ?_⟩
  refine Post.seq h1 fun ρ2 H2 S2 v y hr2 e2 r2 h2 => ⟨ρ2, S2, u, v, hr2, VR.ext e2 r1, r2, ?_⟩
  cases eF : F u v S2 with
  | none => rw [eF] at h2; exact h2.elim
  | some p =>
    rw [eF] at h2
    refine ⟨p.1, p.2, rfl, fun ρ3 H3 z hr3 e3 r3 => ?_⟩
    have h3 := Post.at e3 h2
    obtain ⟨z', S3⟩ := p
    cases z' with
    | bl k =>
      have r3 : z = V.bl k := by simpa only [VR] using r3
      refine ⟨k, r3, ?_⟩
      cases k with
      | false => exact ⟨false, rfl, h3 ρ3 H3 _ hr3 (Ext.refl _ _) rfl⟩
      | true =>
        refine ⟨ρ3, S3, τ, hr3, ((sr.ext e1).ext e2).ext e3, ?_⟩
        refine Post.seq (show Post _ _ _ _ _ _ ((dc en τ S3).bind fun w S4 => (ofO (F' v w S4)).bind bOf) _ from h3) fun ρ4 H4 S4 w y2 hr4 e4 r4 h4 => ⟨ρ4, S4, v, w, hr4, VR.ext e4 (VR.ext e3 r2), r4, ?_⟩
        cases eF' : F' v w S4 with
        | none => rw [eF'] at h4; exact h4.elim
        | some p =>
          rw [eF'] at h4
          exact ⟨p.1, p.2, rfl, fun ρ5 H5 z5 hr5 e5 r5 => bOf_post hr5 r5 (Post.at e5 h4)⟩
    | _ => exact h3.elim
theorem t_chain {a b c : Expr} {op op' : CmpOp} {da db dc : Ed} {F F' : IV → IV → SH → Option (IV × SH)} (ho : OpR X (compareOp op) (rI2 X.K F)) (ho' : OpR X (compareOp op') (rI2 X.K F')) (ha : PE X a (tE X.K en W da)) (hb : PE X b (tE X.K en W db))
    (hc : PE X c (tE X.K en W dc)) (hm : lastMarks [op, op'] [b, c] = false) : PT X (.Compare a [op, op'] [b, c] pos) (tT X.K en W (dChain F F' da db dc)) := by
  refine (pt_chain ho ho' ha hb hc hm).jimp fun σ H Q h => chain_post (ta := tE X.K en W da) (tb := tE X.K en W db) (tc := tE X.K en W dc) h
theorem s_chain {a b c : Expr} {op op' : CmpOp} {da db dc : Ed} {F F' : IV → IV → SH → Option (IV × SH)} (ho : OpR X (compareOp op) (rI2 X.K F)) (ho' : OpR X (compareOp op') (rI2 X.K F')) (ha : PE X a (tE X.K en W da)) (hb : PE X b (tE X.K en W db))
    (hc : PE X c (tE X.K en W dc)) (hm : lastMarks [op, op'] [b, c] = false) : PE X (.Compare a [op, op'] [b, c] pos) (tE X.K en W (dTv (dChain F F' da db dc))) := by
  refine (pe_chain ho ho' ha hb hc hm).jimp fun σ H Q ⟨ρ, S, τ, hr, sr, h⟩ => ?_
  have h2 : tT X.K en W (dChain F F' da db dc) σ H (fun b H => Q (.bl b) H) := ⟨ρ, S, τ, hr, sr, Post.seq h fun ρ1 H1 S1 u x hr1 e1 r1 h1 => h1 ρ1 H1 _ hr1 (Ext.refl _ _) (by rw [show u = x from r1]; exact vr_bl)⟩
  have h3 := chain_post (ta := tE X.K en W da) (tb := tE X.K en W db) (tc := tE X.K en W dc) h2
  obtain ⟨ρ0, S0, τ0, hr0, sr0, h0⟩ := h3
  refine ⟨ρ0, S0, τ0, hr0, sr0, h0.mono fun x H1 ⟨ρ1, S1, τ1, hr1, sr1, h1⟩ => ⟨ρ1, S1, τ1, hr1, sr1, h1.mono fun y H2 ⟨ρ2, S2, u, v, hr2, ru, rv, w, S3, eo, h2⟩ => ⟨ρ2, S2, u, v, hr2, ru, rv, w, S3, eo, fun ρ' H' z a b c => ?_⟩⟩⟩
  obtain ⟨k, rfl, q⟩ := h2 ρ' H' z a b c
  refine ⟨k, rfl, ?_⟩
  cases k with
  | false =>
    obtain ⟨k', e, q⟩ := q
    cases e
    exact q
  | true =>
    obtain ⟨ρ3, S3, τ3, hr3, sr3, h3⟩ := q
    refine ⟨ρ3, S3, τ3, hr3, sr3, h3.mono fun y H4 ⟨ρ4, S4, u, v, hr4, ru, rv, w, S5, eo, h4⟩ => ⟨ρ4, S4, u, v, hr4, ru, rv, w, S5, eo, fun ρ' H' z a b c => ?_⟩⟩
    obtain ⟨k, rfl, q⟩ := h4 ρ' H' z a b c
    exact q

/-! ### arguments, displays -/
def notStar : Expr → Bool
  | .Starred _ _ => false
  | _ => true
theorem star_cons {e : Expr} {es : List Expr} {env : Env} (h : notStar e = true) : starEach (e :: es) env = (false, eval e env) :: starEach es env := by
  cases e <;> first | rfl | cases h
theorem star_any {pos : Pos} {env : Env} : ∀ {es : List Expr}, es.all notStar = true → (backTo pos (starEach es env)).any (·.1) = false
  | [], _ => rfl
  | e :: es, h => by
    have h2 := Bool.and_eq_true_iff.mp (show (notStar e && es.all notStar) = true from h)
    rw [star_cons h2.1]
    show (false || (backTo pos (starEach es env)).any (·.1)) = false
    rw [star_any h2.2, Bool.false_or]
theorem a_nil : PA X [] (tA X.K en W dNil) := pa_nil.jimp fun σ H Q ⟨ρ, S, τ, hr, sr, h⟩ => h ρ H [] hr (Ext.refl _ _) (by simp only [relL, VRs])
theorem a_cons {e : Expr} {es : List Expr} {d : Ed} {ds : Ad} (hs : notStar e = true) (h : PE X e (tE X.K en W d)) (h2 : PA X es (tA X.K en W ds)) : PA X (e :: es) (tA X.K en W (dCons d ds)) := by
  refine (pa_cons h h2 (star_cons hs)).jimp fun σ H Q ⟨ρ, S, τ, hr, sr, h⟩ => ⟨ρ, S, τ, hr, sr, ?_⟩
  refine Post.seq h fun ρ1 H1 S1 u x hr1 e1 r1 h1 => ⟨ρ1, S1, τ, hr1, sr.ext e1, ?_⟩
  refine Post.seq h1 fun ρ2 H2 S2 v y hr2 e2 r2 h2 => h2 ρ2 H2 _ hr2 (Ext.refl _ _) ?_
  simp only [relL, VRs]
  exact ⟨x, y, rfl, VR.ext e2 r1, r2⟩
theorem s_tup {es : List Expr} {k : Nat} {ds : Ad} (h : PA X es (tA X.K en W ds)) : PE X (.Tuple es k pos) (tE X.K en W (dTup ds)) := by
  refine (pe_tup h).jimp fun σ H Q ⟨ρ, S, τ, hr, sr, h⟩ => ⟨ρ, S, τ, hr, sr, ?_⟩
  refine Post.seq h fun ρ1 H1 S1 us xs hr1 e1 r1 h1 => ?_
  have l := VRs.length r1
  by_cases hl : us.length ≤ sizeLine
  · rw [if_pos hl] at h1
    refine ⟨by rw [← l]; exact hl, fun p hp => ?_⟩
    obtain ⟨a, b, c⟩ := new_tup hr1 r1 hp
    exact h1 _ _ _ a b c
  · rw [if_neg hl] at h1
    exact h1.elim
theorem s_lst {es : List Expr} {cell : Bool} {ds : Ad} (h : PA X es (tA X.K en W ds)) : PE X (.List es pos) (tE X.K en W (dLst cell ds)) := by
  refine (pe_lst h).fz.jimp fun σ H Q ⟨ρ, S, τ, hr, sr, h⟩ => ⟨ρ, S, τ, hr, sr, ?_⟩
  refine Post.seq h fun ρ1 H1 S1 us xs hr1 e1 r1 h1 => ?_
  have l := VRs.length r1
  by_cases hl : us.length ≤ sizeLine
  · rw [if_pos hl] at h1
    exact ⟨by rw [← l]; exact hl, fun p hp => new_lst hr1 r1 cell h1 hp⟩
  · rw [if_neg hl] at h1
    exact h1.elim
/-- a built-in function, a built-in class, called by its name -/
theorem s_callB {x : Str} {id : String} {p : Pos} {e : Expr} {es : List Expr} {ds : Ad} {F : List IV → SH → Option (IV × SH)} (hc : CallR X (.builtin id) (rIc X.K F)) (hg : Gl X x) (hm : X.mg x = none) (hv : bootBuiltins x = some (.builtin id))
    (ha : PA X (e :: es) (tA X.K en W ds)) (hs : (e :: es).all notStar = true) (hn : x ≠ "__name__") (hdb : (x == ("__debug__" : Str)) = false) : PE X (.Call (.Name x p) (e :: es) [] pos) (tE X.K en W (dCall F ds)) := by
  have h2 := Bool.and_eq_true_iff.mp (show (notStar e && es.all notStar) = true from hs)
  refine (pe_callB hc hg hm hv ha hn hdb (star_cons h2.1) (star_any h2.2)).jimp fun σ H Q ⟨ρ, S, τ, hr, sr, h⟩ => ⟨ρ, S, τ, hr, sr, ?_⟩
  exact Post.seq h fun ρ1 H1 S1 us xs hr1 e1 r1 h1 => ⟨ρ1, S1, us, hr1, r1, h1.ofO⟩
theorem s_callTy {x : Str} {T : String} {p : Pos} {e : Expr} {es : List Expr} {ds : Ad} {F : List IV → SH → Option (IV × SH)} (hc : CallR X (.type T) (rIc X.K F)) (hg : Gl X x) (hm : X.mg x = none) (hv : bootBuiltins x = some (.type T))
    (ha : PA X (e :: es) (tA X.K en W ds)) (hs : (e :: es).all notStar = true) (hn : x ≠ "__name__") (hdb : (x == ("__debug__" : Str)) = false) : PE X (.Call (.Name x p) (e :: es) [] pos) (tE X.K en W (dCall F ds)) := by
  have h2 := Bool.and_eq_true_iff.mp (show (notStar e && es.all notStar) = true from hs)
  refine (pe_callTy hc hg hm hv ha hn hdb (star_cons h2.1) (star_any h2.2)).jimp fun σ H Q ⟨ρ, S, τ, hr, sr, h⟩ => ⟨ρ, S, τ, hr, sr, ?_⟩
  exact Post.seq h fun ρ1 H1 S1 us xs hr1 e1 r1 h1 => ⟨ρ1, S1, us, hr1, r1, h1.ofO⟩
end
end JF
set_option maxHeartbeats 1000000
/-! JC: operators on values. -/
namespace JF
open PySem PySem.Spec PyProof.Rows L2

/-! ### reading lists, data -/
def rdL (S : SH) : IV → Option (List IV)
  | .lst xs => some xs
  | .scr ns => some (ns.map IV.int)
  | .ref n => match S[n]? with
    | some ⟨.lst xs, false⟩ => some xs
    | _ => none
  | _ => none
/-- a list that may be joined with another one -/
def plL (S : SH) : IV → Option (List IV)
  | .lst xs => some xs
  | .ref n => match S[n]? with
    | some ⟨.lst xs, false⟩ => some xs
    | _ => none
  | _ => none
mutual
def toD : IV → Option PyData
  | .non => some .none
  | .bl b => some (.bool b)
  | .int i => some (.int i)
  | .str x => some (.str x)
  | .tup xs => (toDs xs).map PyData.tuple
  | .lst xs => (toDs xs).map PyData.list
  | .scr ns => some (.list (ns.map PyData.int))
  | .ref _ => none
  | .adr _ => none
  | .exn _ => none
  | .exf _ _ => none
def toDs : List IV → Option (List PyData)
  | [] => some []
  | x :: xs => match toD x, toDs xs with
    | some d, some ds => some (d :: ds)
    | _, _ => none
end
def toDr (S : SH) : IV → Option PyData
  | .ref n => match S[n]? with
    | some ⟨.lst xs, false⟩ => (toDs xs).map PyData.list
    | _ => none
  | u => toD u
section
variable {K : PySem.W.Frag} {ρ : List Addr} {H : Hp} {S : SH}
theorem vrs_ints : ∀ {ns : List Int} {ys : List V}, VRs K ρ H (ns.map IV.int) ys → ys = ns.map V.int
  | [], _, h => by simpa only [List.map, VRs] using h
  | n :: ns, _, h => by
    simp only [List.map, VRs, VR] at h
    obtain ⟨y, r, rfl, rfl, h⟩ := h
    rw [vrs_ints h]
    rfl
theorem ints_vrs : ∀ (ns : List Int), VRs K ρ H (ns.map IV.int) (ns.map V.int)
  | [] => by simp only [List.map, VRs]
  | n :: ns => by
    simp only [List.map, VRs, VR]
    exact ⟨_, _, rfl, rfl, ints_vrs ns⟩
theorem rdL_sq {u : IV} {x : V} {xs : List IV} (hr : HR K ρ H S) (r : VR K ρ H u x) (e : rdL S u = some xs) : ∃ a ys, x = .ref a ∧ SqL K H a ys ∧ VRs K ρ H xs ys := by
  unfold rdL at e
  split at e
  · cases e
    simp only [VR] at r
    obtain ⟨a, ys, rfl, q, r⟩ := r
    exact ⟨a, ys, rfl, .inl q.rd, r⟩
  · cases e
    rename_i ns
    simp only [VR] at r
    obtain ⟨a, rfl, q | q⟩ := r
    · exact ⟨a, _, rfl, .inl (.inr q), ints_vrs ns⟩
    · exact ⟨a, _, rfl, .inr q, ints_vrs ns⟩
  · rename_i n
    simp only [VR] at r
    obtain ⟨a, q, rfl⟩ := r
    split at e
    · rename_i ys eS
      cases e
      have h := hr.cell n _ a eS q
      simp only [OR] at h
      obtain ⟨zs, h1, h2⟩ := h
      exact ⟨a, zs, rfl, .inl h1.rd, h2⟩
    · cases e
  · cases e
theorem plL_eq {u : IV} {x : V} {xs : List IV} (hr : HR K ρ H S) (r : VR K ρ H u x) (e : plL S u = some xs) : ∃ a ys, x = .ref a ∧ Rd H a (.lst ys) ∧ VRs K ρ H xs ys := by
  unfold plL at e
  split at e
  · cases e
    simp only [VR] at r
    obtain ⟨a, ys, rfl, q, r⟩ := r
    exact ⟨a, ys, rfl, q.rd, r⟩
  · rename_i n
    simp only [VR] at r
    obtain ⟨a, q, rfl⟩ := r
    split at e
    · rename_i ys eS
      cases e
      have h := hr.cell n _ a eS q
      simp only [OR] at h
      obtain ⟨zs, h1, h2⟩ := h
      exact ⟨a, zs, rfl, h1.rd, h2⟩
    · cases e
  · cases e
mutual
theorem toD_dp : ∀ {u : IV} {x : V} {d : PyData}, VR K ρ H u x → toD u = some d → Dp K H x d
  | .non, _, _, r, e => by simp only [VR, toD] at r e; cases e; rw [r]; exact .non
  | .bl _, _, _, r, e => by simp only [VR, toD] at r e; cases e; rw [r]; exact .bl _
  | .int _, _, _, r, e => by simp only [VR, toD] at r e; cases e; rw [r]; exact .int _
  | .str _, _, _, r, e => by simp only [VR, toD] at r e; cases e; rw [r]; exact .str _
  | .tup xs, _, _, r, e => by
    simp only [VR, toD] at r e
    obtain ⟨ds, e1, rfl⟩ := Option.map_eq_some_iff.mp e
    obtain ⟨a, ys, rfl, q, r⟩ := r
    exact .tup (SqT.of q.2) (toDs_dp r e1)
  | .lst xs, _, _, r, e => by
    simp only [VR, toD] at r e
    obtain ⟨ds, e1, rfl⟩ := Option.map_eq_some_iff.mp e
    obtain ⟨a, ys, rfl, q, r⟩ := r
    exact .lst (.inl q.rd) (toDs_dp r e1)
  | .scr ns, _, _, r, e => by
    simp only [VR, toD] at r e
    cases e
    have hd : ∀ ns : List Int, DpAll K H (ns.map V.int) (ns.map PyData.int) := fun ns => by
      induction ns with
      | nil => exact .nil
      | cons n ns ih => exact .cons (.int n) ih
    obtain ⟨a, rfl, q | q⟩ := r
    · exact .lst (.inl (.inr q)) (hd ns)
    · exact .lst (.inr q) (hd ns)
  | .ref _, _, _, _, e => by simp only [toD] at e; cases e
  | .adr _, _, _, _, e => by simp only [toD] at e; cases e
  | .exn _, _, _, _, e => by simp only [toD] at e; cases e
  | .exf _ _, _, _, _, e => by simp only [toD] at e; cases e
theorem toDs_dp : ∀ {us : List IV} {xs : List V} {ds : List PyData}, VRs K ρ H us xs → toDs us = some ds → DpAll K H xs ds
  | [], _, _, r, e => by simp only [VRs, toDs] at r e; cases e; rw [r]; exact .nil
  | u :: us, _, _, r, e => by
    simp only [VRs, toDs] at r e
    obtain ⟨y, ys, rfl, r1, r2⟩ := r
    split at e
    · rename_i d ds e1 e2
      cases e
      exact .cons (toD_dp r1 e1) (toDs_dp r2 e2)
    · cases e
end
theorem toDr_dp {u : IV} {x : V} {d : PyData} (hr : HR K ρ H S) (r : VR K ρ H u x) (e : toDr S u = some d) : Dp K H x d := by
  cases u with
  | ref n =>
    simp only [toDr] at e
    simp only [VR] at r
    obtain ⟨a, q, rfl⟩ := r
    split at e
    · rename_i ys eS
      obtain ⟨ds, e1, rfl⟩ := Option.map_eq_some_iff.mp e
      have h := hr.cell n _ a eS q
      simp only [OR] at h
      obtain ⟨zs, h1, h2⟩ := h
      exact .lst (.inl h1.rd) (toDs_dp h2 e1)
    · cases e
  | _ => exact toD_dp r e
end

/-! ### the operations -/
def addF (cell : Bool) : IV → IV → SH → Option (IV × SH)
  | .int i, .int j, S => some (.int (i + j), S)
  | .str x, .str y, S => if x.length + y.length ≤ sizeLine then some (.str (x ++ y), S) else none
  | .tup xs, .tup ys, S => if xs ≠ [] ∧ xs.length + ys.length ≤ sizeLine then some (.tup (xs ++ ys), S) else none
  | u, v, S => match plL S u, plL S v with
    | some xs, some ys => if xs.length + ys.length ≤ sizeLine then some (mkL cell (xs ++ ys) S) else none
    | _, _ => none
def subF : IV → IV → SH → Option (IV × SH)
  | .int i, .int j, S => some (.int (i - j), S)
  | _, _, _ => none
def mulOk (i j : Int) : Bool := decide (Builtin.Int.intBits i ≤ 64) || (decide (Builtin.Int.intBits j ≤ 64) || decide (Builtin.Int.intBits i + Builtin.Int.intBits j ≤ 1000000))
def mulF : IV → IV → SH → Option (IV × SH)
  | .int i, .int j, S => if mulOk i j = true then some (.int (i * j), S) else none
  | _, _, _ => none
def divOk (j : Int) : Bool := !decide (j = 0) && decide (j.natAbs.log2 < 9000)
def fdivF : IV → IV → SH → Option (IV × SH)
  | .int i, .int j, S => if divOk j = true then some (.int (i.fdiv j), S) else none
  | _, _, _ => none
def modF : IV → IV → SH → Option (IV × SH)
  | .int i, .int j, S => if divOk j = true then some (.int (i.fmod j), S) else none
  | _, _, _ => none
def powF : IV → IV → SH → Option (IV × SH)
  | .int i, .int j, S => if 0 ≤ j ∧ j ≤ 1000000 ∧ i.natAbs < 2 ^ 64 then some (.int (i ^ j.toNat), S) else none
  | _, _, _ => none
def deepEq (S : SH) (u v : IV) : Option Bool := match toDr S u, toDr S v with
  | some d, some e => if (SeqAt.shaped d && SeqAt.shaped e) = true then some (PyData.eqv d e) else none
  | _, _ => none
def eqS (S : SH) : IV → IV → Option Bool
  | .int i, .int j => some (decide (i = j))
  | .str x, .str y => some (decide (x = y))
  | .bl a, .bl b => some (decide (a = b))
  | .non, .str _ => some false
  | .str _, .non => some false
  | .non, .int _ => some false
  | .int _, .non => some false
  | .non, .non => some true
  | u, v => deepEq S u v
def eqF : IV → IV → SH → Option (IV × SH) := fun u v S => (eqS S u v).map fun b => (.bl b, S)
def neF : IV → IV → SH → Option (IV × SH) := fun u v S => (eqS S u v).map fun b => (.bl (!b), S)
def ltF : IV → IV → SH → Option (IV × SH)
  | .int i, .int j, S => some (.bl (decide (i < j)), S)
  | _, _, _ => none
def leF : IV → IV → SH → Option (IV × SH)
  | .int i, .int j, S => some (.bl (decide (i ≤ j)), S)
  | _, _, _ => none
def gtF : IV → IV → SH → Option (IV × SH)
  | .int i, .int j, S => some (.bl (decide (j < i)), S)
  | _, _, _ => none
def geF : IV → IV → SH → Option (IV × SH)
  | .int i, .int j, S => some (.bl (decide (j ≤ i)), S)
  | _, _, _ => none
def isS : IV → IV → Option Bool
  | .bl a, .bl b => some (decide (a = b))
  | .non, .non => some true
  | _, .non => some false
  | _, _ => none
def isF : IV → IV → SH → Option (IV × SH) := fun u v S => (isS u v).map fun b => (.bl b, S)
def isNotF : IV → IV → SH → Option (IV × SH) := fun u v S => (isS u v).map fun b => (.bl (!b), S)
/-- flat values -/
def flI : IV → Option V
  | .non => some .non
  | .bl b => some (.bl b)
  | .int i => some (.int i)
  | .str x => some (.str x)
  | _ => none
def flIs : List IV → Option (List V)
  | [] => some []
  | x :: xs => match flI x, flIs xs with
    | some a, some as => some (a :: as)
    | _, _ => none
def keyI : IV → Option Key
  | .int i => some (.inl i)
  | .str x => some (.inr x)
  | _ => none
def keyIs9 : List IV → Option (List Key)
  | [] => some []
  | x :: xs => match keyI x, keyIs9 xs with
    | some a, some as => some (a :: as)
    | _, _ => none
def keyT : IV → Option (List Key)
  | .tup xs => keyIs9 xs
  | _ => none
section
variable {κ : Type} [DecidableEq κ]
def lkI (kvs : List (κ × IV)) (k : κ) : Option IV := (kvs.find? fun kv => decide (kv.1 = k)).map (·.2)
def putI (kvs : List (κ × IV)) (k : κ) (v : IV) : List (κ × IV) := if (kvs.any fun kv => decide (kv.1 = k)) = true then kvs.map (fun kv => if kv.1 = k then (kv.1, v) else kv) else kvs ++ [(k, v)]
def dropI (kvs : List (κ × IV)) (k : κ) : List (κ × IV) := kvs.filter fun kv => decide (kv.1 ≠ k)
end
/-- what stands under a key; none: no key, no dict -/
def dGetS (S : SH) (n : Nat) (u : IV) : Option (Option IV) := match S[n]? with
  | some ⟨.dic kvs, _⟩ => (keyI u).map (lkI kvs)
  | some ⟨.dtu kvs, _⟩ => (keyT u).map (lkI kvs)
  | _ => none
def seqIn (xs : List IV) (u : IV) : Option Bool := match flI u, flIs xs with
  | some x, some ys => some (inV x ys)
  | _, _ => none
def deepIn (xs : List IV) (u : IV) : Option Bool := match toD u, toDs xs with
  | some d, some ds => if (SeqAt.shaped d && SeqAt.shaped (.list ds)) = true then some (ds.any fun z => PyData.eqv z d) else none
  | _, _ => none
def lstIn (xs : List IV) (u : IV) : Option Bool := match seqIn xs u with
  | some b => some b
  | none => deepIn xs u
def inS (S : SH) (u : IV) : IV → Option Bool
  | .str z => match u with
    | .str i => match i.cps.toList with
      | [c] => some (decide (c ∈ z.cps.toList))
      | _ => none
    | _ => none
  | .tup xs => seqIn xs u
  | .lst xs => lstIn xs u
  | .scr ns => lstIn (ns.map IV.int) u
  | .ref n => match S[n]? with
    | some ⟨.lst xs, false⟩ => lstIn xs u
    | _ => (dGetS S n u).map Option.isSome
  | _ => none
def inF : IV → IV → SH → Option (IV × SH) := fun u v S => (inS S u v).map fun b => (.bl b, S)
def notInF : IV → IV → SH → Option (IV × SH) := fun u v S => (inS S u v).map fun b => (.bl (!b), S)

section
variable {X : Cx} {K : PySem.W.Frag} {ρ : List Addr} {H : Hp} {S : SH} {Q : VK}
theorem vr_int {i : Int} : VR K ρ H (.int i) (.int i) := by simp only [VR]
theorem vr_str {i : Str} : VR K ρ H (.str i) (.str i) := by simp only [VR]
theorem vr_non : VR K ρ H .non .non := by simp only [VR]
theorem VRs.nil_iff {xs : List IV} {ys : List V} (r : VRs K ρ H xs ys) : ys = [] ↔ xs = [] := by
  cases xs with
  | nil => simp only [VRs] at r; rw [r]; simp
  | cons x xs =>
    simp only [VRs] at r
    obtain ⟨y, ys, rfl, _⟩ := r
    simp
theorem intF_ok {f : Value → Value → Sem Value} {r : R2} {F : IV → IV → SH → Option (IV × SH)} (h : OpR X f r) (q : ∀ i j H Q ρ S, HR X.K ρ H S → PostO X.K ρ H (F (.int i) (.int j) S) Q → r (.int i) (.int j) H Q)
    (n : ∀ u v S, (∀ i j, u = .int i → v ≠ .int j) → F u v S = none) : OpR X f (rI2 X.K F) := h.jimp fun x y H Q ⟨ρ, S, u, v, hr, ru, rv, p⟩ => by
  by_cases e : ∃ i j, u = .int i ∧ v = .int j
  · obtain ⟨i, j, rfl, rfl⟩ := e
    simp only [VR] at ru rv
    subst ru rv
    exact q i j H Q ρ S hr p
  · rw [n u v S fun i j e1 e2 => e ⟨i, j, e1, e2⟩] at p
    exact p.none.elim
theorem o_sub : OpR X (binaryOp .Sub) (rI2 X.K subF) := intF_ok op_sub (fun i j H Q ρ S hr p => ⟨i, j, rfl, rfl, p.same hr vr_int⟩) fun u v S h => by
  cases u <;> cases v <;> first | rfl | exact (h _ _ rfl rfl).elim
theorem o_lt : OpR X (compareOp .Lt) (rI2 X.K ltF) := intF_ok op_lt (fun i j H Q ρ S hr p => ⟨i, j, rfl, rfl, p.same hr vr_bl⟩) fun u v S h => by
  cases u <;> cases v <;> first | rfl | exact (h _ _ rfl rfl).elim
theorem o_le : OpR X (compareOp .LtE) (rI2 X.K leF) := intF_ok op_le (fun i j H Q ρ S hr p => ⟨i, j, rfl, rfl, p.same hr vr_bl⟩) fun u v S h => by
  cases u <;> cases v <;> first | rfl | exact (h _ _ rfl rfl).elim
theorem o_gt : OpR X (compareOp .Gt) (rI2 X.K gtF) := intF_ok op_gt (fun i j H Q ρ S hr p => ⟨i, j, rfl, rfl, p.same hr vr_bl⟩) fun u v S h => by
  cases u <;> cases v <;> first | rfl | exact (h _ _ rfl rfl).elim
theorem o_ge : OpR X (compareOp .GtE) (rI2 X.K geF) := intF_ok op_ge (fun i j H Q ρ S hr p => ⟨i, j, rfl, rfl, p.same hr vr_bl⟩) fun u v S h => by
  cases u <;> cases v <;> first | rfl | exact (h _ _ rfl rfl).elim
theorem o_pow : OpR X (binaryOp .Pow) (rI2 X.K powF) := intF_ok op_pow (fun i j H Q ρ S hr p => by
  unfold powF at p
  by_cases e : 0 ≤ j ∧ j ≤ 1000000 ∧ i.natAbs < 2 ^ 64
  · simp only [if_pos e] at p
    exact ⟨i, j, rfl, rfl, e, p.same hr vr_int⟩
  · simp only [if_neg e] at p
    exact p.none.elim) fun u v S h => by
  cases u <;> cases v <;> first | rfl | exact (h _ _ rfl rfl).elim
theorem divOk_ok {j : Int} (h : divOk j = true) : j ≠ 0 ∧ j.natAbs.log2 < 9000 := by
  unfold divOk at h
  simpa using h
theorem o_mod : OpR X (binaryOp .Mod) (rI2 X.K modF) := intF_ok op_modN (fun i j H Q ρ S hr p => by
  unfold modF at p
  by_cases e : divOk j = true
  · simp only [if_pos e] at p
    exact ⟨i, j, rfl, rfl, (divOk_ok e).1, p.same hr vr_int⟩
  · simp only [if_neg e] at p
    exact p.none.elim) fun u v S h => by
  cases u <;> cases v <;> first | rfl | exact (h _ _ rfl rfl).elim
theorem op_fdivL : OpR X (binaryOp .FloorDiv) (rI (fun _ j => j ≠ 0 ∧ j.natAbs.log2 < 9000) fun i j => .int (i.fdiv j)) := opI fun _ _ _ _ _ _ _ hc q => floordiv_int hc.1 q (.inl (PyProof.noPylong_of_log2 hc.2))
theorem o_fdiv : OpR X (binaryOp .FloorDiv) (rI2 X.K fdivF) := intF_ok op_fdivL (fun i j H Q ρ S hr p => by
  unfold fdivF at p
  by_cases e : divOk j = true
  · simp only [if_pos e] at p
    exact ⟨i, j, rfl, rfl, divOk_ok e, p.same hr vr_int⟩
  · simp only [if_neg e] at p
    exact p.none.elim) fun u v S h => by
  cases u <;> cases v <;> first | rfl | exact (h _ _ rfl rfl).elim
theorem mulOk_ok {i j : Int} (h : mulOk i j = true) : IntMulOk i j := by
  unfold mulOk at h
  simp only [Bool.or_eq_true, decide_eq_true_eq] at h
  rcases h with h | h | h
  · exact IntMulOk.of_left h
  · exact IntMulOk.of_right h
  · intro z
    rw [Bool.and_eq_true] at z
    have z2 := of_decide_eq_true (show decide _ = true from z.2)
    have e : bitsLine = 134217728 := by decide
    rw [e] at z2
    omega
theorem op_mulX9 : OpR X (binaryOp .Mult) (rI (fun i j => IntMulOk i j) fun i j => .int (i * j)) := opI fun _ _ _ _ _ _ _ hc q => mul_int q hc
theorem o_mul : OpR X (binaryOp .Mult) (rI2 X.K mulF) := intF_ok op_mulX9 (fun i j H Q ρ S hr p => by
  unfold mulF at p
  by_cases e : mulOk i j = true
  · simp only [if_pos e] at p
    exact ⟨i, j, rfl, rfl, mulOk_ok e, p.same hr vr_int⟩
  · simp only [if_neg e] at p
    exact p.none.elim) fun u v S h => by
  cases u <;> cases v <;> first | rfl | exact (h _ _ rfl rfl).elim
/-- lists joined, locked ones too -/
def rCatR : R2 := fun x y H Q => ∃ a b us vs, x = .ref a ∧ y = .ref b ∧ Rd H a (.lst us) ∧ Rd H b (.lst vs) ∧ us.length + vs.length ≤ sizeLine ∧ ∀ q, H q = none → Q (.ref q) (upd H q (.lst (us ++ vs)))
theorem op_catR : OpR X (binaryOp .Add) rCatR := fun pins s σ H x y v u Q I rx ry h => by
  obtain ⟨a, b, us, vs, rfl, rfl, h1, h2, hz, q⟩ := h
  cases rx
  cases ry
  obtain ⟨z1, i1, n1, r1, e1⟩ := h1.ok I.hok
  obtain ⟨z2, i2, n2, r2, e2⟩ := h2.ok I.hok
  refine PySem.P.add_list e1 e2 ?_ (by rw [List.size_toArray, List.size_toArray, ← r1.length, ← r2.length]; omega)
  rw [show i1.toArray ++ i2.toArray = (i1 ++ i2).toArray by simp]
  exact ⟨.ref _, _, I.lnew (t' := s.toks) (r1.append r2) (by rw [List.length_append]; exact hz), rfl, q _ I.fresh⟩
theorem o_add (cell : Bool) : OpR X (binaryOp .Add) (rI2 X.K (addF cell)) := (op_add.or (op_add_str.or (op_catT.or op_catR))).fz.jimp fun x y H Q ⟨ρ, S, u, v, hr, ru, rv, p⟩ => by
  have lists : PostO X.K ρ H (match plL S u, plL S v with
    | some xs, some ys => if xs.length + ys.length ≤ sizeLine then some (mkL cell (xs ++ ys) S) else none
    | _, _ => none) Q → rCatR x y H (fz Q) := fun p => by
    cases eu : plL S u with
    | none => rw [eu] at p; exact p.none.elim
    | some xs =>
      cases ev : plL S v with
      | none => rw [eu, ev] at p; exact p.none.elim
      | some ys =>
        rw [eu, ev] at p
        obtain ⟨a, xs', rfl, ha, r⟩ := plL_eq hr ru eu
        obtain ⟨b, ys', rfl, hb, r'⟩ := plL_eq hr rv ev
        by_cases c : xs.length + ys.length ≤ sizeLine
        · simp only [if_pos c] at p
          refine ⟨a, b, xs', ys', rfl, rfl, ha, hb, by rw [← VRs.length r, ← VRs.length r']; exact c, fun q hq => new_lst hr (r.append r') cell (fun ρ' H' x a b c => p.to a b c) hq⟩
        · simp only [if_neg c] at p
          exact p.none.elim
  cases u with
  | int i => cases v with
    | int j =>
      simp only [VR] at ru rv
      subst ru rv
      exact .inl ⟨i, j, rfl, rfl, .inl (p.same hr vr_int)⟩
    | _ => exact .inr (.inr (.inr (lists p)))
  | str i => cases v with
    | str j =>
      simp only [VR] at ru rv
      subst ru rv
      refine .inr (.inl ⟨i, j, rfl, rfl, ?_⟩)
      unfold addF at p
      by_cases c : i.length + j.length ≤ sizeLine
      · simp only [if_pos c] at p
        exact ⟨c, .inl (p.same hr vr_str)⟩
      · simp only [if_neg c] at p
        exact p.none.elim
    | _ => exact .inr (.inr (.inr (lists p)))
  | tup xs => cases v with
    | tup ys =>
      simp only [VR] at ru rv
      obtain ⟨a, xs', rfl, ha, r⟩ := ru
      obtain ⟨b, ys', rfl, hb, r'⟩ := rv
      refine .inr (.inr (.inl ?_))
      unfold addF at p
      by_cases c : xs ≠ [] ∧ xs.length + ys.length ≤ sizeLine
      · simp only [if_pos c] at p
        refine ⟨a, b, xs', ys', rfl, rfl, SqT.of ha.2, SqT.of hb.2, fun z => c.1 (r.nil_iff.mp z), by rw [← VRs.length r, ← VRs.length r']; exact c.2, fun z => ?_, fun _ q hq => ?_⟩
        · have z2 := r'.nil_iff.mp z
          subst z2
          refine .inl (p.same hr ?_)
          rw [List.append_nil]
          simp only [VR]
          exact ⟨a, xs', rfl, ha, r⟩
        · obtain ⟨h1, h2, h3⟩ := new_tup hr (r.append r') hq
          exact .inl (p.to h1 h2 h3)
      · simp only [if_neg c] at p
        exact p.none.elim
    | _ => exact .inr (.inr (.inr (lists p)))
  | _ => cases v <;> exact .inr (.inr (.inr (lists p)))
/-- == and != -/
theorem eqS_rel {x y : V} {u v : IV} {b : Bool} (hr : HR K ρ H S) (ru : VR K ρ H u x) (rv : VR K ρ H v y) (e : eqS S u v = some b) :
    (scal x y = true ∧ decide (x = y) = b) ∨ ∃ d d', Dp K H x d ∧ Dp K H y d' ∧ SeqAt.shaped d = true ∧ SeqAt.shaped d' = true ∧ PyData.eqv d d' = b := by
  have deep : deepEq S u v = some b → ∃ d d', Dp K H x d ∧ Dp K H y d' ∧ SeqAt.shaped d = true ∧ SeqAt.shaped d' = true ∧ PyData.eqv d d' = b := fun e => by
    unfold deepEq at e
    split at e
    · rename_i d d' e1 e2
      split at e
      · rename_i c
        cases e
        have c := Bool.and_eq_true_iff.mp c
        exact ⟨d, d', toDr_dp hr ru e1, toDr_dp hr rv e2, c.1, c.2, rfl⟩
      · cases e
    · cases e
  unfold eqS at e
  split at e
  · simp only [VR] at ru rv; subst ru rv; cases e; exact .inl ⟨rfl, by simp⟩
  · simp only [VR] at ru rv; subst ru rv; cases e; exact .inl ⟨rfl, by simp⟩
  · simp only [VR] at ru rv; subst ru rv; cases e; exact .inl ⟨rfl, by simp⟩
  · simp only [VR] at ru rv; subst ru rv; cases e; exact .inl ⟨rfl, by simp⟩
  · simp only [VR] at ru rv; subst ru rv; cases e; exact .inl ⟨rfl, by simp⟩
  · simp only [VR] at ru rv; subst ru rv; cases e; exact .inl ⟨rfl, by simp⟩
  · simp only [VR] at ru rv; subst ru rv; cases e; exact .inl ⟨rfl, by simp⟩
  · simp only [VR] at ru rv; subst ru rv; cases e; exact .inl ⟨rfl, by simp⟩
  · exact .inr (deep e)
theorem PostO.map {α : Type} {o : Option α} {g : α → IV × SH} (h : PostO K ρ H (o.map g) Q) : ∃ b, o = some b ∧ PostO K ρ H (some (g b)) Q := by
  cases o with
  | none => exact h.none.elim
  | some b => exact ⟨b, rfl, h⟩
theorem o_eq (hu : X.A.units + 64 < cLine) : OpR X (compareOp .Eq) (rI2 X.K eqF) := (op_eq.or (op_eqD hu)).jimp fun x y H Q ⟨ρ, S, u, v, hr, ru, rv, p⟩ => by
  obtain ⟨b, e, p⟩ := PostO.map p
  rcases eqS_rel hr ru rv e with ⟨h1, rfl⟩ | ⟨d, d', h1, h2, h3, h4, rfl⟩
  · exact .inl ⟨h1, p.same hr vr_bl⟩
  · exact .inr ⟨d, d', h1, h2, h3, h4, p.same hr vr_bl⟩
theorem o_ne (hu : X.A.units + 64 < cLine) : OpR X (compareOp .NotEq) (rI2 X.K neF) := (op_ne.or (op_neD hu)).jimp fun x y H Q ⟨ρ, S, u, v, hr, ru, rv, p⟩ => by
  obtain ⟨b, e, p⟩ := PostO.map p
  rcases eqS_rel hr ru rv e with ⟨h1, rfl⟩ | ⟨d, d', h1, h2, h3, h4, rfl⟩
  · exact .inl ⟨h1, p.same hr vr_bl⟩
  · exact .inr ⟨d, d', h1, h2, h3, h4, p.same hr vr_bl⟩
theorem isS_rel {x y : V} {u v : IV} {b : Bool} (ru : VR K ρ H u x) (rv : VR K ρ H v y) (e : isS u v = some b) : (y = .non ∧ decide (x = .non) = b) ∨ ∃ a c : Bool, x = .bl a ∧ y = .bl c ∧ decide (a = c) = b := by
  unfold isS at e
  split at e
  · simp only [VR] at ru rv; subst ru rv; cases e; exact .inr ⟨_, _, rfl, rfl, rfl⟩
  · simp only [VR] at ru rv; subst ru rv; cases e; exact .inl ⟨rfl, by simp⟩
  · rename_i w1
    simp only [VR] at rv
    cases e
    refine .inl ⟨rv, decide_eq_false fun z => ?_⟩
    subst z
    cases u with
    | non => exact w1 rfl
    | bl a => simp only [VR] at ru; cases ru
    | int a => simp only [VR] at ru; cases ru
    | str a => simp only [VR] at ru; cases ru
    | tup a => simp only [VR] at ru; obtain ⟨_, _, q, _⟩ := ru; cases q
    | lst a => simp only [VR] at ru; obtain ⟨_, _, q, _⟩ := ru; cases q
    | scr a => simp only [VR] at ru; obtain ⟨_, q, _⟩ := ru; cases q
    | ref a => simp only [VR] at ru; obtain ⟨_, _, q⟩ := ru; cases q
    | adr a => simp only [VR] at ru; cases ru
    | exn a => simp only [VR] at ru; obtain ⟨_, q, _⟩ := ru; cases q
    | exf a b => simp only [VR] at ru; obtain ⟨_, _, _, q, _⟩ := ru; cases q
  · cases e
theorem o_is : OpR X (compareOp .Is) (rI2 X.K isF) := (op_isN.or op_isBl).jimp fun x y H Q ⟨ρ, S, u, v, hr, ru, rv, p⟩ => by
  obtain ⟨b, e, p⟩ := PostO.map p
  rcases isS_rel ru rv e with ⟨h1, rfl⟩ | ⟨a, c, h1, h2, rfl⟩
  · exact .inl ⟨h1, p.same hr vr_bl⟩
  · exact .inr ⟨a, c, h1, h2, p.same hr vr_bl⟩
theorem o_isNot : OpR X (compareOp .IsNot) (rI2 X.K isNotF) := (op_notN.or op_notBl).jimp fun x y H Q ⟨ρ, S, u, v, hr, ru, rv, p⟩ => by
  obtain ⟨b, e, p⟩ := PostO.map p
  rcases isS_rel ru rv e with ⟨h1, rfl⟩ | ⟨a, c, h1, h2, rfl⟩
  · exact .inl ⟨h1, p.same hr vr_bl⟩
  · exact .inr ⟨a, c, h1, h2, p.same hr vr_bl⟩
/-! ### dicts read -/
theorem flI_rel {u : IV} {x z : V} (r : VR K ρ H u x) (e : flI u = some z) : x = z ∧ flatV x = true := by
  cases u <;> simp only [flI] at e <;> first | cases e | skip
  all_goals (simp only [VR] at r; subst r; exact ⟨rfl, rfl⟩)
theorem flIs_rel : ∀ {us : List IV} {xs zs : List V}, VRs K ρ H us xs → flIs us = some zs → xs = zs ∧ xs.all flatV = true
  | [], _, _, r, e => by simp only [VRs, flIs] at r e; cases e; exact ⟨r, by rw [r]; rfl⟩
  | u :: us, _, _, r, e => by
    simp only [VRs, flIs] at r e
    obtain ⟨y, ys, rfl, r1, r2⟩ := r
    split at e
    · rename_i a as e1 e2
      cases e
      obtain ⟨h1, h2⟩ := flI_rel r1 e1
      obtain ⟨h3, h4⟩ := flIs_rel r2 e2
      rw [← h1, ← h3]
      exact ⟨rfl, by rw [List.all_cons, h2, h4]; rfl⟩
    · cases e
theorem keyI_rel {u : IV} {x : V} {k : Key} (r : VR K ρ H u x) (e : keyI u = some k) : x = kV k := by
  cases u <;> simp only [keyI] at e <;> first | cases e | skip
  all_goals (simp only [VR] at r; subst r; rfl)
theorem keyIs9_rel : ∀ {us : List IV} {xs : List V} {ks : List Key}, VRs K ρ H us xs → keyIs9 us = some ks → xs = ks.map kV
  | [], _, _, r, e => by simp only [VRs, keyIs9] at r e; cases e; exact r
  | u :: us, _, _, r, e => by
    simp only [VRs, keyIs9] at r e
    obtain ⟨y, ys, rfl, r1, r2⟩ := r
    split at e
    · rename_i a as e1 e2
      cases e
      rw [keyI_rel r1 e1, keyIs9_rel r2 e2]
      rfl
    · cases e
theorem VRk.lk {κ : Type} [DecidableEq κ] : ∀ {kvs : List (κ × IV)} {ys : List (κ × V)}, VRk K ρ H kvs ys → ∀ k, (lkI kvs k = none ∧ valV ys k = none) ∨ ∃ v x, lkI kvs k = some v ∧ valV ys k = some x ∧ VR K ρ H v x
  | [], _, h, k => by simp only [VRk] at h; rw [h]; exact .inl ⟨rfl, rfl⟩
  | p :: kvs, _, h, k => by
    simp only [VRk] at h
    obtain ⟨x, ys, rfl, r1, r2⟩ := h
    by_cases e : p.1 = k
    · refine .inr ⟨p.2, x, ?_, ?_, r1⟩
      · simp [lkI, List.find?_cons, e]
      · exact valV_pos (p := (p.1, x)) e
    · have e1 : lkI (p :: kvs) k = lkI kvs k := by simp [lkI, List.find?_cons, e]
      have e2 : valV ((p.1, x) :: ys) k = valV ys k := valV_neg (p := (p.1, x)) e
      rw [e1, e2]
      exact VRk.lk r2 k
theorem dGetS_rel {n : Nat} {a : Addr} {u : IV} {x : V} {o : Option IV} (hr : HR K ρ H S) (q : ρ[n]? = some a) (ru : VR K ρ H u x) (e : dGetS S n u = some o) :
    (o = none ∧ DGet H a x none) ∨ ∃ v y, o = some v ∧ DGet H a x (some y) ∧ VR K ρ H v y := by
  unfold dGetS at e
  split at e
  · rename_i kvs lk eS
    obtain ⟨k, ek, rfl⟩ := Option.map_eq_some_iff.mp e
    have h := hr.cell n _ a eS q
    simp only [OR] at h
    obtain ⟨ys, h1, h2⟩ := h
    have ex := keyI_rel ru ek
    rcases h2.lk k with ⟨l1, l2⟩ | ⟨v, y, l1, l2, l3⟩
    · exact .inl ⟨l1, .inl ⟨ys, k, h1.rd, ex, l2.symm⟩⟩
    · exact .inr ⟨v, y, l1, .inl ⟨ys, k, h1.rd, ex, l2.symm⟩, l3⟩
  · rename_i kvs lk eS
    obtain ⟨k, ek, rfl⟩ := Option.map_eq_some_iff.mp e
    have h := hr.cell n _ a eS q
    simp only [OR] at h
    obtain ⟨ys, h1, h2⟩ := h
    unfold keyT at ek
    split at ek
    · rename_i xs
      simp only [VR] at ru
      obtain ⟨b, zs, rfl, hb, rz⟩ := ru
      have ex := keyIs9_rel rz ek
      rw [ex] at hb
      rcases h2.lk k with ⟨l1, l2⟩ | ⟨v, y, l1, l2, l3⟩
      · exact .inl ⟨l1, .inr ⟨ys, k, b, h1.rd, rfl, hb.2, l2.symm⟩⟩
      · exact .inr ⟨v, y, l1, .inr ⟨ys, k, b, h1.rd, rfl, hb.2, l2.symm⟩, l3⟩
    · cases ek
  · cases e
def rDinV (neg : Bool) : R2 := fun x y H Q => ∃ a o, y = .ref a ∧ DGet H a x o ∧ Q (.bl (if neg = true then !o.isSome else o.isSome)) H
theorem op_dinV (hu : X.A.units + 1 < cLine) : OpR X (compareOp .In) (rDinV false) := by
  intro pins s σ H x y v u Q I rx ry h
  obtain ⟨a, o, rfl, g, q⟩ := h
  obtain rfl : u = Value.ref a := ry
  exact d_in hu I g rx fun s3 I3 => ⟨.bl o.isSome, H, I3, rfl, q⟩
theorem op_dnotinV (hu : X.A.units + 1 < cLine) : OpR X (compareOp .NotIn) (rDinV true) := by
  intro pins s σ H x y v u Q I rx ry h
  obtain ⟨a, o, rfl, g, q⟩ := h
  obtain rfl : u = Value.ref a := ry
  exact d_notIn hu I g rx fun s3 I3 => ⟨.bl (!o.isSome), H, I3, rfl, q⟩
/-- what in comes to -/
theorem inS_rel {x y : V} {u v : IV} {b : Bool} (hr : HR K ρ H S) (ru : VR K ρ H u x) (rv : VR K ρ H v y) (e : inS S u v = some b) :
    (∃ (c : Nat) (z : Str), x = .str ⟨#[c]⟩ ∧ y = .str z ∧ decide (c ∈ z.cps.toList) = b) ∨ (∃ p xs, y = .ref p ∧ (SqL K H p xs ∨ SqT K H p xs) ∧ flatV x = true ∧ xs.all flatV = true ∧ inV x xs = b) ∨
      (∃ d ds, Dp K H x d ∧ Dp K H y (.list ds) ∧ SeqAt.shaped d = true ∧ SeqAt.shaped (.list ds) = true ∧ (ds.any fun z => PyData.eqv z d) = b) ∨ ∃ a o, y = .ref a ∧ DGet H a x o ∧ o.isSome = b := by
  have sq : ∀ {xs : List IV} {p : Addr} {ys : List V} {b : Bool}, y = .ref p → (SqL K H p ys ∨ SqT K H p ys) → VRs K ρ H xs ys → seqIn xs u = some b → ∃ p xs, y = .ref p ∧ (SqL K H p xs ∨ SqT K H p xs) ∧ flatV x = true ∧ xs.all flatV = true ∧ inV x xs = b := fun {xs p ys b} ey hq r e => by
    unfold seqIn at e
    split at e
    · rename_i a as e1 e2
      cases e
      obtain ⟨h1, h2⟩ := flI_rel ru e1
      obtain ⟨h3, h4⟩ := flIs_rel r e2
      exact ⟨p, ys, ey, hq, h2, h4, by rw [h1, h3]⟩
    · cases e
  have ls : ∀ {xs : List IV} {p : Addr} {ys : List V} {b : Bool}, y = .ref p → SqL K H p ys → VRs K ρ H xs ys → lstIn xs u = some b →
      (∃ p xs, y = .ref p ∧ (SqL K H p xs ∨ SqT K H p xs) ∧ flatV x = true ∧ xs.all flatV = true ∧ inV x xs = b) ∨ ∃ d ds, Dp K H x d ∧ Dp K H y (.list ds) ∧ SeqAt.shaped d = true ∧ SeqAt.shaped (.list ds) = true ∧ (ds.any fun z => PyData.eqv z d) = b := fun {xs p ys b} ey hq r e => by
    unfold lstIn at e
    split at e
    · rename_i b' e1
      cases e
      exact .inl (sq ey (.inl hq) r e1)
    · unfold deepIn at e
      split at e
      · rename_i d ds e1 e2
        split at e
        · rename_i c
          have c := Bool.and_eq_true_iff.mp c
          cases e
          exact .inr ⟨d, ds, toD_dp ru e1, by rw [ey]; exact .lst hq (toDs_dp r e2), c.1, c.2, rfl⟩
        · cases e
      · cases e
  unfold inS at e
  split at e
  · rename_i z
    simp only [VR] at rv
    subst rv
    split at e
    · rename_i i
      simp only [VR] at ru
      subst ru
      split at e
      · rename_i c ec
        cases e
        refine .inl ⟨c, z, ?_, rfl, rfl⟩
        obtain ⟨⟨l⟩⟩ := i
        have ec : l = [c] := ec
        rw [ec]
      · cases e
    · cases e
  · rename_i xs
    simp only [VR] at rv
    obtain ⟨p, ys, rfl, hq, r⟩ := rv
    exact .inr (.inl (sq rfl (.inr (SqT.of hq.2)) r e))
  · rename_i xs
    simp only [VR] at rv
    obtain ⟨p, ys, rfl, hq, r⟩ := rv
    exact .inr ((ls rfl (.inl hq.rd) r e).imp id .inl)
  · rename_i ns
    obtain ⟨p, ys, ey, hq, r⟩ := rdL_sq (xs := ns.map IV.int) hr rv rfl
    exact .inr ((ls ey hq r e).imp id .inl)
  · rename_i n
    split at e
    · rename_i xs eS
      obtain ⟨p, ys, ey, hq, r⟩ := rdL_sq (xs := xs) hr rv (by simp only [rdL]; rw [eS])
      exact .inr ((ls ey hq r e).imp id .inl)
    · obtain ⟨o, eo, rfl⟩ := Option.map_eq_some_iff.mp e
      simp only [VR] at rv
      obtain ⟨a, q, rfl⟩ := rv
      rcases dGetS_rel hr q ru eo with ⟨rfl, g⟩ | ⟨v, z, rfl, g, _⟩
      · exact .inr (.inr (.inr ⟨a, none, rfl, g, rfl⟩))
      · exact .inr (.inr (.inr ⟨a, some z, rfl, g, rfl⟩))
  · cases e
theorem o_in (hu : X.A.units + 65 < cLine) : OpR X (compareOp .In) (rI2 X.K inF) := (op_in_sign.or (op_in_seq.or ((op_inD hu).or (op_dinV (by omega))))).jimp fun x y H Q ⟨ρ, S, u, v, hr, ru, rv, p⟩ => by
  obtain ⟨b, e, p⟩ := PostO.map p
  have q := p.same hr vr_bl
  rcases inS_rel hr ru rv e with ⟨c, z, h1, h2, rfl⟩ | ⟨a, xs, h1, h2, h3, h4, rfl⟩ | ⟨d, ds, h1, h2, h3, h4, rfl⟩ | ⟨a, o, h1, h2, rfl⟩
  · exact .inl ⟨c, z, h1, h2, q⟩
  · exact .inr (.inl ⟨a, xs, h1, h2, h3, h4, q⟩)
  · exact .inr (.inr (.inl ⟨d, ds, h1, h2, h3, h4, q⟩))
  · exact .inr (.inr (.inr ⟨a, o, h1, h2, q⟩))
theorem o_notIn (hu : X.A.units + 65 < cLine) : OpR X (compareOp .NotIn) (rI2 X.K notInF) := (op_notIn_sign.or (op_notIn_seq.or ((op_notInD hu).or (op_dnotinV (by omega))))).jimp fun x y H Q ⟨ρ, S, u, v, hr, ru, rv, p⟩ => by
  obtain ⟨b, e, p⟩ := PostO.map p
  have q := p.same hr vr_bl
  rcases inS_rel hr ru rv e with ⟨c, z, h1, h2, rfl⟩ | ⟨a, xs, h1, h2, h3, h4, rfl⟩ | ⟨d, ds, h1, h2, h3, h4, rfl⟩ | ⟨a, o, h1, h2, rfl⟩
  · exact .inl ⟨c, z, h1, h2, q⟩
  · exact .inr (.inl ⟨a, xs, h1, h2, h3, h4, q⟩)
  · exact .inr (.inr (.inl ⟨d, ds, h1, h2, h3, h4, q⟩))
  · exact .inr (.inr (.inr ⟨a, o, h1, h2, q⟩))
end
end JF
set_option maxHeartbeats 1000000
/-! JD: sorting; built-in functions and classes on values. -/
namespace JF
open PySem PySem.Spec PyProof.Rows L2

/-! ### sorting -/
section
variable {α : Type} (le : α → α → Bool)
def insS (x : α) : List α → List α
  | [] => [x]
  | y :: r => if le x y = true then x :: y :: r else y :: insS x r
def sortS : List α → List α
  | [] => []
  | x :: r => insS le x (sortS r)
theorem insS_perm (x : α) : ∀ xs : List α, (insS le x xs).Perm (x :: xs)
  | [] => .refl _
  | y :: r => by
    unfold insS
    split
    · exact .refl _
    · exact ((insS_perm x r).cons y).trans (.swap x y r)
theorem sortS_perm : ∀ xs : List α, (sortS le xs).Perm xs
  | [] => .refl _
  | x :: r => (insS_perm le x _).trans ((sortS_perm r).cons x)
theorem sortS_length (xs : List α) : (sortS le xs).length = xs.length := (sortS_perm le xs).length_eq
theorem sortS_mem {xs : List α} {x : α} : x ∈ sortS le xs ↔ x ∈ xs := (sortS_perm le xs).mem_iff
variable {le}
theorem insS_sorted (tot : ∀ a b, le a b = true ∨ le b a = true) (tr : ∀ a b c, le a b = true → le b c = true → le a c = true) (x : α) : ∀ xs : List α, xs.Pairwise (fun a b => le a b = true) → (insS le x xs).Pairwise (fun a b => le a b = true)
  | [], _ => by simp [insS]
  | y :: r, h => by
    have h' := List.pairwise_cons.mp h
    unfold insS
    split
    · rename_i c
      refine List.pairwise_cons.mpr ⟨fun z hz => ?_, h⟩
      rcases List.mem_cons.mp hz with rfl | hz
      · exact c
      · exact tr _ _ _ c (h'.1 z hz)
    · rename_i c
      refine List.pairwise_cons.mpr ⟨fun z hz => ?_, insS_sorted tot tr x r h'.2⟩
      rcases List.mem_cons.mp ((insS_perm le x r).mem_iff.mp hz) with rfl | hz
      · exact (tot y z).elim id fun q => (c q).elim
      · exact h'.1 z hz
theorem sortS_sorted (tot : ∀ a b, le a b = true ∨ le b a = true) (tr : ∀ a b c, le a b = true → le b c = true → le a c = true) : ∀ xs : List α, (sortS le xs).Pairwise (fun a b => le a b = true)
  | [] => List.Pairwise.nil
  | x :: r => insS_sorted tot tr x _ (sortS_sorted tot tr r)
theorem sortS_uniq (tot : ∀ a b, le a b = true ∨ le b a = true) (tr : ∀ a b c, le a b = true → le b c = true → le a c = true) (an : ∀ a b, le a b = true → le b a = true → a = b) {xs ys : List α} (hp : ys.Perm xs) (hs : ys.Pairwise (fun a b => le a b = true)) :
    ys = sortS le xs := (hp.trans (sortS_perm le xs).symm).eq_of_pairwise (fun a b _ _ h1 h2 => an a b h1 h2) hs (sortS_sorted tot tr xs)
end
def leI (a b : Int) : Bool := decide (a ≤ b)
theorem leI_tot (a b : Int) : leI a b = true ∨ leI b a = true := by simp only [leI, decide_eq_true_eq]; omega
theorem leI_tr (a b c : Int) : leI a b = true → leI b c = true → leI a c = true := by simp only [leI, decide_eq_true_eq]; omega
theorem leI_an (a b : Int) : leI a b = true → leI b a = true → a = b := by simp only [leI, decide_eq_true_eq]; omega
theorem sortI_uniq {xs ys : List Int} (hp : ys.Perm xs) (hs : ys.Pairwise (· ≤ ·)) : ys = sortS leI xs := sortS_uniq leI_tot leI_tr leI_an hp (hs.imp fun h => by simp only [leI, decide_eq_true_eq]; exact h)
/-- texts by their signs -/
def leT (a b : Str) : Bool := !ltCps b.cps.toList a.cps.toList
theorem ltCps_irr : ∀ a : List Nat, ltCps a a = false
  | [] => rfl
  | x :: r => by simp [ltCps, ltCps_irr r]
theorem ltCps_tr : ∀ a b c : List Nat, ltCps a b = true → ltCps b c = true → ltCps a c = true
  | [], [], _, h, _ => by simp [ltCps] at h
  | [], _ :: _, [], _, h => by simp [ltCps] at h
  | [], _ :: _, _ :: _, _, _ => rfl
  | _ :: _, [], _, h, _ => by simp [ltCps] at h
  | _ :: _, _ :: _, [], _, h => by simp [ltCps] at h
  | x :: r, y :: s, z :: t, h, h' => by
    simp only [ltCps, Bool.or_eq_true, decide_eq_true_eq, Bool.and_eq_true, beq_iff_eq] at h h' ⊢
    rcases h with h | ⟨rfl, h⟩
    · rcases h' with h' | ⟨rfl, h'⟩
      · exact .inl (by omega)
      · exact .inl h
    · rcases h' with h' | ⟨rfl, h'⟩
      · exact .inl h'
      · exact .inr ⟨rfl, ltCps_tr r s t h h'⟩
theorem ltCps_tot : ∀ a b : List Nat, ltCps a b = true ∨ a = b ∨ ltCps b a = true
  | [], [] => .inr (.inl rfl)
  | [], _ :: _ => .inl rfl
  | _ :: _, [] => .inr (.inr rfl)
  | x :: r, y :: s => by
    simp only [ltCps, Bool.or_eq_true, decide_eq_true_eq, Bool.and_eq_true, beq_iff_eq, List.cons.injEq]
    rcases Nat.lt_trichotomy x y with h | h | h
    · exact .inl (.inl h)
    · subst h
      rcases ltCps_tot r s with h | h | h
      · exact .inl (.inr ⟨rfl, h⟩)
      · exact .inr (.inl ⟨rfl, h⟩)
      · exact .inr (.inr (.inr ⟨rfl, h⟩))
    · exact .inr (.inr (.inl h))
theorem leT_tot (a b : Str) : leT a b = true ∨ leT b a = true := by
  simp only [leT, Bool.not_eq_true']
  cases e : ltCps b.cps.toList a.cps.toList with
  | false => exact .inl rfl
  | true =>
    refine .inr ?_
    cases e2 : ltCps a.cps.toList b.cps.toList with
    | false => rfl
    | true =>
      have := ltCps_tr _ _ _ e e2
      rw [ltCps_irr] at this
      cases this
theorem leT_an (a b : Str) (h : leT a b = true) (h' : leT b a = true) : a = b := by
  simp only [leT, Bool.not_eq_true'] at h h'
  rcases ltCps_tot a.cps.toList b.cps.toList with q | q | q
  · rw [q] at h'; cases h'
  · obtain ⟨⟨a⟩⟩ := a
    obtain ⟨⟨b⟩⟩ := b
    have q : a = b := q
    rw [q]
  · rw [q] at h; cases h
theorem leT_tr (a b c : Str) (h : leT a b = true) (h' : leT b c = true) : leT a c = true := by
  simp only [leT, Bool.not_eq_true'] at h h' ⊢
  cases e : ltCps c.cps.toList a.cps.toList with
  | false => rfl
  | true =>
    rcases ltCps_tot a.cps.toList b.cps.toList with q | q | q
    · rw [ltCps_tr _ _ _ e q] at h'
      cases h'
    · rw [← q, e] at h'
      cases h'
    · rw [q] at h
      cases h
theorem risingS_pw : ∀ (xs : List Str) (p : Str), risingS p xs = true → (p :: xs).Pairwise (fun a b => leT a b = true)
  | [], p, _ => by simp
  | x :: r, p, h => by
    have h := Bool.and_eq_true_iff.mp (show (!ltCps x.cps.toList p.cps.toList && risingS x r) = true from h)
    have ih := risingS_pw r x h.2
    have px : leT p x = true := h.1
    refine List.pairwise_cons.mpr ⟨fun y hy => ?_, ih⟩
    rcases List.mem_cons.mp hy with rfl | hm
    · exact px
    · exact leT_tr _ _ _ px ((List.pairwise_cons.mp ih).1 y hm)
theorem sortT_uniq {xs ys : List Str} (hp : ys.Perm xs) (hs : sortedS ys = true) : ys = sortS leT xs := by
  refine sortS_uniq leT_tot leT_tr leT_an hp ?_
  cases ys with
  | nil => exact List.Pairwise.nil
  | cons y r => exact risingS_pw r y hs

/-! ### readings of lists -/
def intsI : List IV → Option (List Int)
  | [] => some []
  | .int i :: r => (intsI r).map (i :: ·)
  | _ => none
def strsI : List IV → Option (List Str)
  | [] => some []
  | .str i :: r => (strsI r).map (i :: ·)
  | _ => none
def blsI : List IV → Option (List Bool)
  | [] => some []
  | .bl i :: r => (blsI r).map (i :: ·)
  | _ => none
section
variable {K : PySem.W.Frag} {ρ : List Addr} {H : Hp} {S : SH}
theorem intsI_rel : ∀ {us : List IV} {xs : List V} {ns : List Int}, VRs K ρ H us xs → intsI us = some ns → xs = ns.map V.int
  | [], _, _, r, e => by simp only [VRs, intsI] at r e; cases e; exact r
  | u :: us, _, _, r, e => by
    simp only [VRs] at r
    obtain ⟨y, ys, rfl, r1, r2⟩ := r
    cases u <;> simp only [intsI] at e <;> first | cases e | skip
    obtain ⟨ms, e1, rfl⟩ := Option.map_eq_some_iff.mp e
    simp only [VR] at r1
    rw [r1, intsI_rel r2 e1]
    rfl
theorem strsI_rel : ∀ {us : List IV} {xs : List V} {ns : List Str}, VRs K ρ H us xs → strsI us = some ns → xs = ns.map V.str
  | [], _, _, r, e => by simp only [VRs, strsI] at r e; cases e; exact r
  | u :: us, _, _, r, e => by
    simp only [VRs] at r
    obtain ⟨y, ys, rfl, r1, r2⟩ := r
    cases u <;> simp only [strsI] at e <;> first | cases e | skip
    obtain ⟨ms, e1, rfl⟩ := Option.map_eq_some_iff.mp e
    simp only [VR] at r1
    rw [r1, strsI_rel r2 e1]
    rfl
theorem blsI_rel : ∀ {us : List IV} {xs : List V} {ns : List Bool}, VRs K ρ H us xs → blsI us = some ns → xs = ns.map V.bl
  | [], _, _, r, e => by simp only [VRs, blsI] at r e; cases e; exact r
  | u :: us, _, _, r, e => by
    simp only [VRs] at r
    obtain ⟨y, ys, rfl, r1, r2⟩ := r
    cases u <;> simp only [blsI] at e <;> first | cases e | skip
    obtain ⟨ms, e1, rfl⟩ := Option.map_eq_some_iff.mp e
    simp only [VR] at r1
    rw [r1, blsI_rel r2 e1]
    rfl
theorem strs_vrs : ∀ (ns : List Str), VRs K ρ H (ns.map IV.str) (ns.map V.str)
  | [] => by simp only [List.map, VRs]
  | n :: ns => by
    simp only [List.map, VRs, VR]
    exact ⟨_, _, rfl, rfl, strs_vrs ns⟩
theorem one_vrs {us : List IV} {xs : List V} {u : IV} (e : us = [u]) (r : VRs K ρ H us xs) : ∃ x, xs = [x] ∧ VR K ρ H u x := by
  subst e
  simp only [VRs] at r
  obtain ⟨y, ys, rfl, r1, r2⟩ := r
  exact ⟨y, by rw [r2], r1⟩
end
/-- a dict's keys -/
def kI : Key → IV
  | .inl i => .int i
  | .inr x => .str x
def keysOf (S : SH) (n : Nat) : Option (List Key) := match S[n]? with
  | some ⟨.dic kvs, _⟩ => some (kvs.map (·.1))
  | _ => none
section
variable {K : PySem.W.Frag} {ρ : List Addr} {H : Hp} {S : SH}
theorem vr_key {k : Key} : VR K ρ H (kI k) (kV k) := by
  cases k with
  | inl i => exact vr_int
  | inr x => exact vr_str
theorem keys_vrs : ∀ (ks : List Key), VRs K ρ H (ks.map kI) (ks.map kV)
  | [] => by simp only [List.map, VRs]
  | n :: ns => by
    simp only [List.map, VRs]
    exact ⟨_, _, rfl, vr_key, keys_vrs ns⟩
theorem VRk.keys {κ : Type} : ∀ {kvs : List (κ × IV)} {ys : List (κ × V)}, VRk K ρ H kvs ys → ys.map (·.1) = kvs.map (·.1)
  | [], _, h => by simp only [VRk] at h; rw [h]; rfl
  | p :: kvs, _, h => by
    simp only [VRk] at h
    obtain ⟨x, ys, rfl, r1, r2⟩ := h
    simp only [List.map, VRk.keys r2]
theorem VRk.length {κ : Type} {kvs : List (κ × IV)} {ys : List (κ × V)} (h : VRk K ρ H kvs ys) : ys.length = kvs.length := by
  have := congrArg List.length h.keys
  simpa using this
theorem dic_at {n : Nat} {x : V} {kvs : List (Key × IV)} {lk : Bool} (hr : HR K ρ H S) (r : VR K ρ H (.ref n) x) (e : S[n]? = some ⟨.dic kvs, lk⟩) : ∃ a ys, ρ[n]? = some a ∧ x = .ref a ∧ Hc H lk a (.dK ys) ∧ VRk K ρ H kvs ys := by
  simp only [VR] at r
  obtain ⟨a, q, rfl⟩ := r
  have h := hr.cell n _ a e q
  simp only [OR] at h
  obtain ⟨ys, h1, h2⟩ := h
  exact ⟨a, ys, q, rfl, h1, h2⟩
end

/-! ### the functions -/
def lenS (S : SH) : IV → Option Nat
  | .str x => if x.length ≤ sizeLine then some x.length else none
  | .tup xs => some xs.length
  | .ref n => match S[n]? with
    | some ⟨.lst xs, false⟩ => some xs.length
    | some ⟨.dic kvs, false⟩ => some kvs.length
    | _ => none
  | .lst xs => some xs.length
  | .scr ns => some ns.length
  | _ => none
def lenF : List IV → SH → Option (IV × SH)
  | [u], S => (lenS S u).map fun n => (.int n, S)
  | _, _ => none
def allF : List IV → SH → Option (IV × SH)
  | [u], S => ((rdL S u).bind blsI).map fun bs => (.bl (bs.all id), S)
  | _, _ => none
def sumF : List IV → SH → Option (IV × SH)
  | [u], S => ((rdL S u).bind intsI).map fun ns => (.int ns.sum, S)
  | _, _ => none
def rdSq (S : SH) : IV → Option (List IV)
  | .tup xs => some xs
  | u => rdL S u
def listF (cell : Bool) : List IV → SH → Option (IV × SH)
  | [.ref n], S => match S[n]? with
    | some ⟨.lst xs, false⟩ => some (mkL cell xs S)
    | some ⟨.dic kvs, _⟩ => some (mkL cell (kvs.map fun kv => kI kv.1) S)
    | _ => none
  | [u], S => (rdSq S u).map fun xs => mkL cell xs S
  | _, _ => none
def tupleF : List IV → SH → Option (IV × SH)
  | [.tup xs], S => some (.tup xs, S)
  | [u], S => (rdL S u).map fun xs => (.tup xs, S)
  | _, _ => none
def dictF : List IV → SH → Option (IV × SH)
  | [.ref n], S => match S[n]? with
    | some ⟨.dic kvs, _⟩ => some (.ref S.length, S ++ [⟨.dic kvs, false⟩])
    | _ => none
  | _, _ => none
def strF : List IV → SH → Option (IV × SH)
  | [.int i], S => if i.natAbs.log2 < 1920 then some (.str (toString i), S) else none
  | [.str x], S => some (.str x, S)
  | _, _ => none
def intF : List IV → SH → Option (IV × SH)
  | [.int i], S => some (.int i, S)
  | [.bl b], S => some (.int (if b then 1 else 0), S)
  | _, _ => none
def maxF : List IV → SH → Option (IV × SH)
  | [.int i, .int j], S => some (.int (if j > i then j else i), S)
  | _, _ => none
def minF : List IV → SH → Option (IV × SH)
  | [.int i, .int j], S => some (.int (if j < i then j else i), S)
  | _, _ => none
/-- the keys of a dict, all ints; all texts -/
def intKs : List Key → Option (List Int)
  | [] => some []
  | .inl i :: r => (intKs r).map (i :: ·)
  | _ => none
def strKs : List Key → Option (List Str)
  | [] => some []
  | .inr i :: r => (strKs r).map (i :: ·)
  | _ => none
def sortL (xs : List IV) : Option (List IV) := match intsI xs with
  | some ns => some ((sortS leI ns).map IV.int)
  | none => match strsI xs with
    | some ss => if ss.length < 64 then some ((sortS leT ss).map IV.str) else none
    | none => none
def sortK (ks : List Key) : Option (List IV) := if ks.length < 64 then (match intKs ks with
    | some ns => some ((sortS leI ns).map IV.int)
    | none => (strKs ks).map fun ss => (sortS leT ss).map IV.str) else none
def sortedF (cell : Bool) : List IV → SH → Option (IV × SH)
  | [.ref n], S => match S[n]? with
    | some ⟨.lst xs, false⟩ => (sortL xs).map fun ys => mkL cell ys S
    | some ⟨.dic kvs, _⟩ => (sortK (kvs.map (·.1))).map fun ys => mkL cell ys S
    | _ => none
  | [u], S => ((rdL S u).bind sortL).map fun ys => mkL cell ys S
  | _, _ => none

section
variable {X : Cx} {K : PySem.W.Frag} {ρ : List Addr} {H : Hp} {S : SH} {Q : VK}
theorem c_len : CallR X (.builtin "len") (rIc X.K lenF) := (call_len.or call_lenD).jimp fun xs H Q ⟨ρ, S, us, hr, r, p⟩ => by
  unfold lenF at p
  split at p
  · rename_i u
    obtain ⟨n, e, p⟩ := PostO.map p
    obtain ⟨x, rfl, ru⟩ := one_vrs rfl r
    have q := p.same hr vr_int
    unfold lenS at e
    split at e
    · rename_i z
      simp only [VR] at ru
      subst ru
      split at e
      · rename_i hz
        cases e
        exact .inl ⟨_, _, rfl, ⟨hz, rfl⟩, q⟩
      · cases e
    · rename_i xs
      cases e
      simp only [VR] at ru
      obtain ⟨a, ys, rfl, ha, rr⟩ := ru
      exact .inl ⟨_, _, rfl, .inr ⟨ys, SqT.of ha.2, VRs.length rr⟩, q⟩
    · rename_i m
      split at e
      · rename_i xs eS
        cases e
        obtain ⟨p, ys, rfl, hq, rr⟩ := rdL_sq (xs := xs) hr ru (by simp only [rdL]; rw [eS])
        exact .inl ⟨_, _, rfl, .inl ⟨ys, hq, VRs.length rr⟩, q⟩
      · rename_i kvs eS
        cases e
        obtain ⟨a, ys, _, rfl, hq, rr⟩ := dic_at hr ru eS
        exact .inr ⟨a, ys, rfl, hq, by rw [rr.length]; exact q⟩
      · cases e
    · rename_i xs
      cases e
      obtain ⟨p, ys, rfl, hq, rr⟩ := rdL_sq (xs := xs) hr ru rfl
      exact .inl ⟨_, _, rfl, .inl ⟨ys, hq, VRs.length rr⟩, q⟩
    · rename_i ns
      cases e
      obtain ⟨p, ys, rfl, hq, rr⟩ := rdL_sq (xs := ns.map IV.int) hr ru rfl
      exact .inl ⟨_, _, rfl, .inl ⟨ys, hq, by rw [← VRs.length rr, List.length_map]⟩, q⟩
    · cases e
  · exact p.none.elim
theorem c_all (hc : X.calm = true) : CallR X (.builtin "all") (rIc X.K allF) := (cr_all hc).jimp fun xs H Q ⟨ρ, S, us, hr, r, p⟩ => by
  unfold allF at p
  split at p
  · rename_i u
    obtain ⟨bs, e, p⟩ := PostO.map p
    obtain ⟨zs, e1, e2⟩ := Option.bind_eq_some_iff.mp e
    obtain ⟨x, rfl, ru⟩ := one_vrs rfl r
    obtain ⟨a, ys, rfl, hq, rr⟩ := rdL_sq hr ru e1
    rw [blsI_rel rr e2] at hq
    exact ⟨a, bs, rfl, hq, p.same hr vr_bl⟩
  · exact p.none.elim
theorem c_sum (hc : X.calm = true) : CallR X (.builtin "sum") (rIc X.K sumF) := (cr_sum hc).jimp fun xs H Q ⟨ρ, S, us, hr, r, p⟩ => by
  unfold sumF at p
  split at p
  · rename_i u
    obtain ⟨bs, e, p⟩ := PostO.map p
    obtain ⟨zs, e1, e2⟩ := Option.bind_eq_some_iff.mp e
    obtain ⟨x, rfl, ru⟩ := one_vrs rfl r
    obtain ⟨a, ys, rfl, hq, rr⟩ := rdL_sq hr ru e1
    rw [intsI_rel rr e2] at hq
    exact ⟨a, bs, rfl, hq, p.same hr vr_int⟩
  · exact p.none.elim
theorem rdSq_sq {u : IV} {x : V} {xs : List IV} (hr : HR K ρ H S) (r : VR K ρ H u x) (e : rdSq S u = some xs) : ∃ a ys, x = .ref a ∧ (SqL K H a ys ∨ SqT K H a ys) ∧ VRs K ρ H xs ys := by
  unfold rdSq at e
  split at e
  · cases e
    simp only [VR] at r
    obtain ⟨a, ys, rfl, q, r⟩ := r
    exact ⟨a, ys, rfl, .inr (SqT.of q.2), r⟩
  · obtain ⟨a, ys, h1, h2, h3⟩ := rdL_sq hr r e
    exact ⟨a, ys, h1, .inl h2, h3⟩
theorem new_lstP {us : List IV} {xs : List V} {cell : Bool} (hr : HR K ρ H S) (r : VRs K ρ H us xs) (p : PostO K ρ H (some (mkL cell us S)) Q) : ∀ l, H l = none → fz Q (.ref l) (upd H l (.lst xs)) := fun l hl => new_lst hr r cell (fun ρ' H' x a b c => p.to a b c) hl
theorem c_list (hc : X.calm = true) (cell : Bool) : CallR X (.type "list") (rIc X.K (listF cell)) := (call_list_of.or (call_listD hc)).fz.jimp fun xs H Q ⟨ρ, S, us, hr, r, p⟩ => by
  have gen : ∀ {u : IV}, us = [u] → PostO X.K ρ H ((rdSq S u).map fun xs => mkL cell xs S) Q → ∃ p ys, xs = [.ref p] ∧ (SqL X.K H p ys ∨ SqT X.K H p ys) ∧ ∀ l, H l = none → fz Q (.ref l) (upd H l (.lst ys)) := fun {u} eu p => by
    obtain ⟨zs, e, p⟩ := PostO.map p
    obtain ⟨x, rfl, ru⟩ := one_vrs eu r
    obtain ⟨a, ys, rfl, hq, rr⟩ := rdSq_sq hr ru e
    exact ⟨a, ys, rfl, hq, new_lstP hr rr p⟩
  unfold listF at p
  split at p
  · rename_i n
    split at p
    · rename_i xs eS
      exact .inl (gen (u := .ref n) rfl (by simp only [rdSq, rdL]; rw [eS]; exact p))
    · rename_i kvs lk eS
      obtain ⟨x, rfl, ru⟩ := one_vrs rfl r
      obtain ⟨a, ys, _, rfl, hq, rr⟩ := dic_at hr ru eS
      refine .inr ⟨a, ys, rfl, hq.rd, ?_⟩
      have e1 : (ys.map fun kv => kV kv.1) = (kvs.map (·.1)).map kV := by rw [← rr.keys, List.map_map]; rfl
      have e2 : (kvs.map fun kv => kI kv.1) = (kvs.map (·.1)).map kI := by rw [List.map_map]; rfl
      rw [e1]
      rw [e2] at p
      exact new_lstP hr (keys_vrs _) p
    · exact p.none.elim
  · exact .inl (gen rfl p)
  · exact p.none.elim
theorem c_tuple : CallR X (.type "tuple") (rIc X.K tupleF) := call_tuple_of.jimp fun xs H Q ⟨ρ, S, us, hr, r, p⟩ => by
  unfold tupleF at p
  split at p
  · rename_i zs
    obtain ⟨x, rfl, ru⟩ := one_vrs rfl r
    have ru2 := ru
    simp only [VR] at ru2
    obtain ⟨a, ys, rfl, ha, rr⟩ := ru2
    exact ⟨a, ys, rfl, .inr ⟨SqT.of ha.2, p.same hr ru⟩⟩
  · rename_i u _
    obtain ⟨zs, e, p⟩ := PostO.map p
    obtain ⟨x, rfl, ru⟩ := one_vrs rfl r
    obtain ⟨a, ys, rfl, hq, rr⟩ := rdL_sq hr ru e
    refine ⟨a, ys, rfl, .inl ⟨hq, fun l hl => ?_⟩⟩
    obtain ⟨h1, h2, h3⟩ := new_tup hr rr hl
    exact p.to h1 h2 h3
  · exact p.none.elim
theorem new_dic {kvs : List (Key × IV)} {ys : List (Key × V)} (hr : HR K ρ H S) (r : VRk K ρ H kvs ys) {p : Addr} (hp : H p = none) :
    HR K (ρ ++ [p]) (upd H p (.dK ys)) (S ++ [⟨.dic kvs, false⟩]) ∧ Ext K ρ H (ρ ++ [p]) (upd H p (.dK ys)) ∧ VR K (ρ ++ [p]) (upd H p (.dK ys)) (.ref S.length) (.ref p) := by
  have e0 : Ext K ρ H (ρ ++ [p]) (upd H p (.dK ys)) := ⟨⟨[p], rfl, fun a ha => by
    have z : a = p := by simpa using ha
    rw [z]
    exact ⟨hr.ne hp, no_tbl hp⟩⟩, fun b u hb _ _ => by rw [upd_ne (ne_of_none hb hp)]; exact hb, fun b o u hb => by rw [upd_ne (ne_of_none hb hp)]; exact hb, tabs_upd (nt_none hp)⟩
  obtain ⟨a, e⟩ := hr.new hp (.dK ys) ⟨.dic kvs, false⟩ (by
    simp only [OR]
    exact ⟨ys, upd_same, r.ext e0⟩)
  refine ⟨a, e, ?_⟩
  simp only [VR]
  refine ⟨p, ?_, rfl⟩
  rw [hr.len, List.getElem?_append_right (Nat.le_refl _)]
  simp
theorem c_dict : CallR X (.type "dict") (rIc X.K dictF) := call_dictD.jimp fun xs H Q ⟨ρ, S, us, hr, r, p⟩ => by
  unfold dictF at p
  split at p
  · rename_i n
    split at p
    · rename_i kvs lk eS
      obtain ⟨x, rfl, ru⟩ := one_vrs rfl r
      obtain ⟨a, ys, _, rfl, hq, rr⟩ := dic_at hr ru eS
      refine ⟨a, ys, rfl, hq.rd, fun l hl => ?_⟩
      obtain ⟨h1, h2, h3⟩ := new_dic hr rr hl
      exact p.to h1 h2 h3
    · exact p.none.elim
  · exact p.none.elim
theorem c_str : CallR X (.type "str") (rIc X.K strF) := (call_str_int.or SkE.call_str_str).jimp fun xs H Q ⟨ρ, S, us, hr, r, p⟩ => by
  unfold strF at p
  split at p
  · rename_i i
    obtain ⟨x, rfl, ru⟩ := one_vrs rfl r
    simp only [VR] at ru
    subst ru
    split at p
    · rename_i c
      exact .inl ⟨i, rfl, c, p.same hr vr_str⟩
    · exact p.none.elim
  · rename_i i
    obtain ⟨x, rfl, ru⟩ := one_vrs rfl r
    simp only [VR] at ru
    subst ru
    exact .inr ⟨i, rfl, p.same hr vr_str⟩
  · exact p.none.elim
theorem c_int : CallR X (.type "int") (rIc X.K intF) := call_int1.jimp fun xs H Q ⟨ρ, S, us, hr, r, p⟩ => by
  unfold intF at p
  split at p
  · rename_i i
    obtain ⟨x, rfl, ru⟩ := one_vrs rfl r
    simp only [VR] at ru
    subst ru
    exact .inl ⟨i, rfl, p.same hr vr_int⟩
  · rename_i i
    obtain ⟨x, rfl, ru⟩ := one_vrs rfl r
    simp only [VR] at ru
    subst ru
    exact .inr ⟨i, rfl, p.same hr vr_int⟩
  · exact p.none.elim
theorem two_vrs {i j : Int} {xs : List V} (r : VRs K ρ H [.int i, .int j] xs) : xs = [.int i, .int j] := by
  simp only [VRs, VR] at r
  obtain ⟨_, _, rfl, rfl, _, _, rfl, rfl, rfl⟩ := r
  rfl
theorem c_max (hc : X.calm = true) : CallR X (.builtin "max") (rIc X.K maxF) := (call_max2 hc).jimp fun xs H Q ⟨ρ, S, us, hr, r, p⟩ => by
  unfold maxF at p
  split at p
  · rename_i i j
    exact ⟨i, j, two_vrs r, p.same hr vr_int⟩
  · exact p.none.elim
theorem c_min (hc : X.calm = true) : CallR X (.builtin "min") (rIc X.K minF) := (call_min2 hc).jimp fun xs H Q ⟨ρ, S, us, hr, r, p⟩ => by
  unfold minF at p
  split at p
  · rename_i i j
    exact ⟨i, j, two_vrs r, p.same hr vr_int⟩
  · exact p.none.elim
theorem intKs_map : ∀ {ks : List Key} {ns : List Int}, intKs ks = some ns → ks = ns.map Sum.inl
  | [], _, e => by simp only [intKs] at e; cases e; rfl
  | k :: ks, _, e => by
    cases k <;> simp only [intKs] at e <;> first | cases e | skip
    obtain ⟨ms, e1, rfl⟩ := Option.map_eq_some_iff.mp e
    rw [intKs_map e1]
    rfl
theorem strKs_map : ∀ {ks : List Key} {ns : List Str}, strKs ks = some ns → ks = ns.map Sum.inr
  | [], _, e => by simp only [strKs] at e; cases e; rfl
  | k :: ks, _, e => by
    cases k <;> simp only [strKs] at e <;> first | cases e | skip
    obtain ⟨ms, e1, rfl⟩ := Option.map_eq_some_iff.mp e
    rw [strKs_map e1]
    rfl
theorem c_sorted (hc : X.calm = true) (cell : Bool) : CallR X (.builtin "sorted") (rIc X.K (sortedF cell)) := (cr_sortedI.or (cr_sortedS.or ((call_sortedDI hc).or (call_sortedD hc)))).fz.jimp fun xs H Q ⟨ρ, S, us, hr, r, p⟩ => by
  have gen : ∀ {u : IV}, us = [u] → PostO X.K ρ H (((rdL S u).bind sortL).map fun ys => mkL cell ys S) Q → rSortedI X.K xs H (fz Q) ∨ rSortedS X.K xs H (fz Q) := fun {u} eu p => by
    obtain ⟨ys, e, p⟩ := PostO.map p
    obtain ⟨zs, e1, e2⟩ := Option.bind_eq_some_iff.mp e
    obtain ⟨x, rfl, ru⟩ := one_vrs eu r
    obtain ⟨a, xs', rfl, hq, rr⟩ := rdL_sq hr ru e1
    unfold sortL at e2
    split at e2
    · rename_i ns en
      cases e2
      rw [intsI_rel rr en] at hq
      refine .inl ⟨a, ns, rfl, hq, fun ns' l hp hs hl => ?_⟩
      rw [sortI_uniq hp hs]
      exact new_lstP hr (ints_vrs _) p l hl
    · split at e2
      · rename_i ss es
        split at e2
        · rename_i c
          cases e2
          rw [strsI_rel rr es] at hq
          refine .inr ⟨a, ss, rfl, hq, c, fun ns' l hp hs hl => ?_⟩
          rw [sortT_uniq hp hs]
          exact new_lstP hr (strs_vrs _) p l hl
        · cases e2
      · cases e2
  unfold sortedF at p
  split at p
  · rename_i n
    split at p
    · rename_i xs eS
      exact (gen (u := .ref n) rfl (by simp only [rdL]; rw [eS]; exact p)).imp id .inl
    · rename_i kvs lk eS
      obtain ⟨zs, e, p⟩ := PostO.map p
      obtain ⟨x, rfl, ru⟩ := one_vrs rfl r
      obtain ⟨a, ys, _, rfl, hq, rr⟩ := dic_at hr ru eS
      unfold sortK at e
      split at e
      · rename_i c
        split at e
        · rename_i ns en
          cases e
          have ek := rr.keys.trans (intKs_map en)
          refine .inr (.inr (.inl ⟨a, ys, ns, rfl, hq.rd, ek, ?_, fun ns' l hp hs hl => ?_⟩))
          · have := congrArg List.length (intKs_map en)
            rw [List.length_map, List.length_map] at this
            rw [List.length_map] at c
            omega
          · rw [sortI_uniq hp hs]
            exact new_lstP hr (ints_vrs _) p l hl
        · obtain ⟨ss, es, rfl⟩ := Option.map_eq_some_iff.mp e
          have ek := rr.keys.trans (strKs_map es)
          refine .inr (.inr (.inr ⟨a, ys, ss, rfl, hq.rd, ek, ?_, fun ns' l hp hs hl => ?_⟩))
          · have := congrArg List.length (strKs_map es)
            rw [List.length_map, List.length_map] at this
            rw [List.length_map] at c
            omega
          · rw [sortT_uniq hp hs]
            exact new_lstP hr (strs_vrs _) p l hl
      · cases e
    · exact p.none.elim
  · exact (gen rfl p).imp id .inl
  · exact p.none.elim
end

/-! ### isinstance of a built-in class -/
def tyS (S : SH) : IV → Option String
  | .non => some "NoneType"
  | .bl _ => some "bool"
  | .int _ => some "int"
  | .str _ => some "str"
  | .tup _ => some "tuple"
  | .lst _ => some "list"
  | .scr _ => some "list"
  | .ref n => match S[n]? with
    | some ⟨.lst _, false⟩ => some "list"
    | some ⟨.dic _, _⟩ => some "dict"
    | _ => none
  | .adr _ => none
  | .exn _ => none
  | .exf _ _ => none
def isiF (T : String) : List IV → SH → Option (IV × SH)
  | [u], S => ((tyS S u).bind fun t => kitB t T).map fun b => (.bl b, S)
  | _, _ => none
theorem tyS_rel {K : PySem.W.Frag} {ρ : List Addr} {H : Hp} {S : SH} {u : IV} {x : V} {t : String} (hr : HR K ρ H S) (r : VR K ρ H u x) (e : tyS S u = some t) : TyX K H x (.type t) := by
  cases u with
  | non => simp only [VR, tyS] at r e; cases e; subst r; exact .base .non
  | bl b => simp only [VR, tyS] at r e; cases e; subst r; exact .base (.bl _)
  | int b => simp only [VR, tyS] at r e; cases e; subst r; exact .base (.int _)
  | str b => simp only [VR, tyS] at r e; cases e; subst r; exact .base (.str _)
  | tup b => simp only [VR, tyS] at r e; cases e; obtain ⟨a, ys, rfl, q, _⟩ := r; exact .base (.tup q.2)
  | lst b =>
    simp only [VR, tyS] at r e
    cases e
    obtain ⟨a, ys, rfl, q, _⟩ := r
    obtain ⟨o, q⟩ := q
    exact .base (.frz q)
  | scr b =>
    simp only [VR, tyS] at r e
    cases e
    obtain ⟨a, rfl, ⟨o, q⟩ | ⟨o, its, n, q, c, _⟩⟩ := r
    · exact .base (.frz q)
    · exact .kList q c
  | ref n =>
    simp only [VR, tyS] at r e
    obtain ⟨a, q, rfl⟩ := r
    split at e
    · rename_i xs eS
      cases e
      have h := hr.cell n _ a eS q
      simp only [OR] at h
      obtain ⟨ys, h1, _⟩ := h
      exact .base (.lst h1)
    · rename_i xs lk eS
      cases e
      have h := hr.cell n _ a eS q
      simp only [OR] at h
      obtain ⟨ys, h1, _⟩ := h
      cases lk with
      | false => exact .base (.dK h1)
      | true =>
        obtain ⟨o, h1⟩ := h1
        exact .fDict h1
    · cases e
  | adr a => simp only [tyS] at e; cases e
  | exn a => simp only [tyS] at e; cases e
  | exf a b => simp only [tyS] at e; cases e
theorem s_isi {X : Cx} {en : En} {W : WX} {pos p p2 : Pos} {e : Expr} {d : Ed} {T : Str} {Ts : String} (hg : Gl X "isinstance") (hm : X.mg "isinstance" = none) (hgT : Gl X T) (hmT : X.mg T = none) (hvT : bootBuiltins T = some (.type Ts)) (hnT : T ≠ "__name__") (hdT : (T == ("__debug__" : Str)) = false)
    (hs : notStar e = true) (h : PE X e (tE X.K en W d)) : PE X (.Call (.Name "isinstance" p) [e, .Name T p2] [] pos) (tE X.K en W (dCall (isiF Ts) (dCons d dNil))) := by
  refine (pe_callB call_isi hg hm (by decide +kernel) (pa_cons h (pa_cons (pe_bltn (v := .ty Ts) hgT hmT hvT rfl hnT hdT) pa_nil) (star_cons hs)) (by decide) (by decide) (star_cons hs) rfl).jimp fun σ H Q ⟨ρ, S, τ, hr, sr, h⟩ => ⟨ρ, S, τ, hr, sr, ?_⟩
  have h0 : Post X.K W σ ρ H (relV X.K) ((d en τ S).bind fun u S1 => ofO (isiF Ts [u] S1)) Q := by
    unfold dCall dCons dNil at h
    revert h
    cases d en τ S <;> exact id
  refine Post.seq h0 fun ρ1 H1 S1 u x hr1 e1 r1 h1 => ?_
  obtain ⟨b, e, p⟩ := PostO.map h1.ofO
  obtain ⟨t, e2, e3⟩ := Option.bind_eq_some_iff.mp e
  exact ⟨x, .ty Ts, _, _, b, rfl, .ty _, tyS_rel hr1 r1 e2, kit_ty e3, p.same hr1 vr_bl⟩
end JF
set_option maxHeartbeats 1000000
/-! JE: subscripts, slices, fields, built-in methods, dict displays. -/
namespace JF
open PySem PySem.Spec PyProof.Rows L2

/-! ### subscripts -/
def idxS (S : SH) : IV → IV → Option IV
  | .tup xs, .int i => atI xs i
  | .str z, .int i => if z.length ≤ sizeLine then (atI z.cps.toList i).map fun c => .str ⟨#[c]⟩ else none
  | .lst xs, .int i => atI xs i
  | .scr ns, .int i => atI (ns.map IV.int) i
  | .ref n, k => match S[n]? with
    | some ⟨.lst xs, false⟩ => (match k with
      | .int i => atI xs i
      | _ => none)
    | _ => (match dGetS S n k with
      | some (some v) => some v
      | _ => none)
  | _, _ => none
def idxF : IV → IV → SH → Option (IV × SH) := fun u v S => (idxS S u v).map fun w => (w, S)
def rIxD : R2 := fun x y H Q => ∃ a v, x = .ref a ∧ DGet H a y (some v) ∧ Q v H
section
variable {X : Cx} {K : PySem.W.Frag} {ρ : List Addr} {H : Hp} {S : SH} {Q : VK}
theorem ix_dictD (hu : X.A.units + 1 < cLine) : IxR X rIxD := by
  intro value slice pins s σ H x y v u Q I rx ry h hs
  obtain ⟨a, z, rfl, g, q⟩ := h
  obtain rfl : v = Value.ref a := rx
  exact tail_any (dict_typeIs I g) PySem.F.slot_dict_getitem.lookup (d_getItem hu I g ry fun w' s3 I3 rw' => ⟨z, H, I3, rw', q⟩) hs
theorem VRs.atI {us : List IV} {xs : List V} {i : Int} {v : IV} (r : VRs K ρ H us xs) (e : atI us i = some v) : ∃ x, L2.atI xs i = some x ∧ VR K ρ H v x := by
  unfold L2.atI at e ⊢
  rw [← VRs.length r]
  cases ex : ixN us.length i with
  | none => rw [ex] at e; cases e
  | some j =>
    rw [ex] at e
    exact VRs.get r e
theorem idxS_rel {u k v : IV} {x y : V} (hr : HR K ρ H S) (ru : VR K ρ H u x) (rk : VR K ρ H k y) (e : idxS S u k = some v) :
    (∃ z, VR K ρ H v z ∧ ((∃ p xs i, x = .ref p ∧ y = .int i ∧ (SqL K H p xs ∨ SqT K H p xs) ∧ atI xs i = some z) ∨ (∃ w i c, x = .str w ∧ y = .int i ∧ w.length ≤ sizeLine ∧ atI w.cps.toList i = some c ∧ z = .str ⟨#[c]⟩) ∨ ∃ a, x = .ref a ∧ DGet H a y (some z))) := by
  have seq : ∀ {xs : List IV} {p : Addr} {ys : List V} {i : Int} {v : IV}, x = .ref p → y = .int i → (SqL K H p ys ∨ SqT K H p ys) → VRs K ρ H xs ys → atI xs i = some v → ∃ z, VR K ρ H v z ∧ ((∃ p xs i, x = .ref p ∧ y = .int i ∧ (SqL K H p xs ∨ SqT K H p xs) ∧ atI xs i = some z) ∨ (∃ w i c, x = .str w ∧ y = .int i ∧ w.length ≤ sizeLine ∧ atI w.cps.toList i = some c ∧ z = .str ⟨#[c]⟩) ∨ ∃ a, x = .ref a ∧ DGet H a y (some z)) :=
    fun {xs p ys i v} ex ey hq r e => by
      obtain ⟨z, h1, h2⟩ := r.atI e
      exact ⟨z, h2, .inl ⟨p, ys, i, ex, ey, hq, h1⟩⟩
  unfold idxS at e
  split at e
  · rename_i xs i
    simp only [VR] at ru rk
    obtain ⟨p, ys, ex, hq, r⟩ := ru
    exact seq ex rk (.inr (SqT.of hq.2)) r e
  · rename_i w i
    simp only [VR] at ru rk
    split at e
    · rename_i hz
      obtain ⟨c, ec, rfl⟩ := Option.map_eq_some_iff.mp e
      exact ⟨.str ⟨#[c]⟩, vr_str, .inr (.inl ⟨w, i, c, ru, rk, hz, ec, rfl⟩)⟩
    · cases e
  · rename_i xs i
    simp only [VR] at ru rk
    obtain ⟨p, ys, ex, hq, r⟩ := ru
    exact seq ex rk (.inl (.inl hq.rd)) r e
  · rename_i ns i
    obtain ⟨p, ys, ex, hq, r⟩ := rdL_sq (xs := ns.map IV.int) hr ru rfl
    simp only [VR] at rk
    exact seq ex rk (.inl hq) r e
  · rename_i n
    split at e
    · rename_i xs eS
      split at e
      · rename_i i
        obtain ⟨p, ys, ex, hq, r⟩ := rdL_sq (xs := xs) hr ru (by simp only [rdL]; rw [eS])
        simp only [VR] at rk
        exact seq ex rk (.inl hq) r e
      · cases e
    · split at e
      · rename_i w eg
        cases e
        simp only [VR] at ru
        obtain ⟨a, q, rfl⟩ := ru
        rcases dGetS_rel hr q rk eg with ⟨e, _⟩ | ⟨v, z, e, g, r⟩
        · cases e
        · cases e
          exact ⟨z, r, .inr (.inr ⟨a, rfl, g⟩)⟩
      · cases e
  · cases e
theorem s_idx {en : En} {W : WX} {pos : Pos} {a b : Expr} {da db : Ed} (hu : X.A.units + 1 < cLine) (ha : PE X a (tE X.K en W da)) (hb : PE X b (tE X.K en W db)) (hs : PlainIx b) : PE X (.Subscript a b pos) (tE X.K en W (dBin idxF da db)) := by
  refine (pe_ix (ix_seq.or (ix_dictD hu)) ha hb hs).jimp fun σ H Q ⟨ρ, S, τ, hr, sr, h⟩ => ⟨ρ, S, τ, hr, sr, ?_⟩
  refine Post.seq h fun ρ1 H1 S1 u x hr1 e1 r1 h1 => ⟨ρ1, S1, τ, hr1, sr.ext e1, ?_⟩
  refine Post.seq h1 fun ρ2 H2 S2 v y hr2 e2 r2 h2 => ?_
  obtain ⟨w, e, p⟩ := PostO.map h2.ofO
  obtain ⟨z, rz, h3⟩ := idxS_rel hr2 (VR.ext e2 r1) r2 e
  have q := p.same hr2 rz
  rcases h3 with ⟨p, xs, i, ex, ey, hq | hq, ea⟩ | ⟨w, i, c, ex, ey, hz, ea, ez⟩ | ⟨a, ex, g⟩
  · exact .inl (.inl ⟨p, xs, i, z, ex, ey, hq, ea, q⟩)
  · exact .inl (.inr (.inl ⟨p, xs, i, z, ex, ey, hq, ea, q⟩))
  · subst ez
    exact .inl (.inr (.inr ⟨w, i, c, ex, ey, hz, ea, q⟩))
  · exact .inr ⟨a, z, ex, g, q⟩
end

/-! ### slices -/
abbrev Pd := En → Ta → SH → R (Option Int)
def pNo : Pd := fun _ _ S => .ok none S
def partOf : IV → SH → R (Option Int)
  | .int i, S => .ok (some i) S
  | _, _ => .bad
def pYes (d : Ed) : Pd := fun en τ S => (d en τ S).bind partOf
def cutI (xs : List IV) (lo hi : Option Int) : List IV := (xs.drop (HT.sIx xs.length 0 lo)).take (HT.sIx xs.length xs.length hi - HT.sIx xs.length 0 lo)
def slS (cell : Bool) (S : SH) (lo hi : Option Int) : IV → Option (IV × SH)
  | .tup xs => some (.tup (cutI xs lo hi), S)
  | .str z => if z.length ≤ sizeLine then some (.str (cutS z lo hi), S) else none
  | u => (rdL S u).map fun xs => mkL cell (cutI xs lo hi) S
def dSl (cell : Bool) (a : Ed) (lo hi : Pd) : Ed := fun en τ S => (a en τ S).bind fun u S1 => (lo en τ S1).bind fun l S2 => (hi en τ S2).bind fun h S3 => ofO (slS cell S3 l h u)
def relO : List Addr → Hp → Option Int → Option Int → Prop := fun _ _ v x => v = x
def tP (K : PySem.W.Frag) (en : En) (W : WX) (d : Pd) : TO := fun σ H Q => ∃ ρ S τ, HR K ρ H S ∧ SR K ρ H τ σ ∧ Post K W σ ρ H relO (d en τ S) Q
theorem _root_.L2.PO.jimp {X : Cx} {e : Option Expr} {t t' : TO} (h : PO X e t) (q : ∀ σ H Q, t' σ H Q → t σ H Q) : PO X e t' := ⟨fun pins s σ H Q I w => h.run pins s σ H Q I (q σ H Q w)⟩
section
variable {X : Cx} {K : PySem.W.Frag} {ρ : List Addr} {H : Hp} {S : SH} {Q : VK} {en : En} {W : WX} {pos p2 : Pos}
theorem p_no : PO X none (tP X.K en W pNo) := po_none.jimp fun σ H Q ⟨ρ, S, τ, hr, sr, h⟩ => h ρ H none hr (Ext.refl _ _) rfl
theorem p_yes {e : Expr} {d : Ed} (h : PE X e (tE X.K en W d)) : PO X (some e) (tP X.K en W (pYes d)) := (po_some h).jimp fun σ H Q ⟨ρ, S, τ, hr, sr, h⟩ => ⟨ρ, S, τ, hr, sr, by
  refine Post.seq h fun ρ1 H1 S1 u x hr1 e1 r1 h1 => ?_
  cases u with
  | int i =>
    have r1 : x = V.int i := by simpa only [relV, VR] using r1
    exact ⟨i, r1, h1 ρ1 H1 _ hr1 (Ext.refl _ _) rfl⟩
  | _ => exact h1.elim⟩
theorem VRs.cut {us : List IV} {xs : List V} (lo hi : Option Int) (r : VRs K ρ H us xs) : VRs K ρ H (cutI us lo hi) (cutV xs lo hi) := by
  unfold cutI cutV
  rw [VRs.length r]
  exact VRs.take _ (VRs.drop _ r)
theorem cutI_whole {xs : List IV} {lo hi : Option Int} (h : HT.sIx xs.length 0 lo = 0 ∧ HT.sIx xs.length xs.length hi = xs.length) : cutI xs lo hi = xs := by
  unfold cutI
  rw [h.1, h.2]
  simp
theorem s_sl {a : Expr} {lo hi : Option Expr} {da : Ed} {dl dh : Pd} (cell : Bool) (ha : PE X a (tE X.K en W da)) (hl : PO X lo (tP X.K en W dl)) (hh : PO X hi (tP X.K en W dh)) : PE X (.Subscript a (.Slice lo hi none p2) pos) (tE X.K en W (dSl cell da dl dh)) := by
  refine (pe_slice (sl_list.or (sl_str.or sl_tupA)) ha hl hh).fz.jimp fun σ H Q ⟨ρ, S, τ, hr, sr, h⟩ => ⟨ρ, S, τ, hr, sr, ?_⟩
  refine Post.seq h fun ρ1 H1 S1 u x hr1 e1 r1 h1 => ⟨ρ1, S1, τ, hr1, sr.ext e1, ?_⟩
  refine Post.seq h1 fun ρ2 H2 S2 l l' hr2 e2 r2 h2 => ⟨ρ2, S2, τ, hr2, (sr.ext e1).ext e2, ?_⟩
  refine Post.seq h2 fun ρ3 H3 S3 g g' hr3 e3 r3 h3 => ?_
  cases (show l = l' from r2)
  cases (show g = g' from r3)
  have ru : VR X.K ρ3 H3 u x := VR.ext e3 (VR.ext e2 r1)
  have p := h3.ofO
  have lists : PostO X.K ρ3 H3 ((rdL S3 u).map fun xs => mkL cell (cutI xs l g) S3) Q → rSlL X.K x l g H3 (fz Q) := fun p => by
    obtain ⟨zs, e, p⟩ := PostO.map p
    obtain ⟨a, ys, rfl, hq, rr⟩ := rdL_sq hr3 ru e
    exact ⟨a, ys, rfl, hq, new_lstP hr3 (rr.cut l g) p⟩
  cases u with
  | tup xs =>
    have ru2 := ru
    simp only [VR] at ru2
    obtain ⟨a, ys, rfl, ha, rr⟩ := ru2
    have hl := VRs.length rr
    refine .inr (.inr ⟨a, ys, rfl, SqT.of ha.2, fun hw => ?_, fun _ q hq => ?_⟩)
    · rw [← hl] at hw
      refine .inl (PostO.same p hr3 ?_)
      rw [cutI_whole hw]
      exact ru
    · obtain ⟨h1, h2, h3⟩ := new_tup hr3 (rr.cut l g) hq
      exact .inl (p.to h1 h2 h3)
  | str z =>
    simp only [VR] at ru
    subst ru
    have p : PostO X.K ρ3 H3 (if z.length ≤ sizeLine then some (.str (cutS z l g), S3) else none) Q := p
    by_cases hz : z.length ≤ sizeLine
    · rw [if_pos hz] at p
      exact .inr (.inl ⟨z, rfl, hz, .inl (p.same hr3 vr_str)⟩)
    · rw [if_neg hz] at p
      exact p.none.elim
  | _ => exact .inl (lists p)

/-! ### fields of an instance -/
def fldS (S : SH) (f : Str) : IV → Option IV
  | .ref n => match S[n]? with
    | some ⟨.ins fs, false⟩ => fs.lookup f
    | _ => none
  | _ => none
def fldF (f : Str) : IV → SH → Option (IV × SH) := fun u S => (fldS S f u).map fun v => (v, S)
theorem VRk.look : ∀ {fs : List (Str × IV)} {ys : List (Str × V)} {f : Str} {v : IV}, VRk K ρ H fs ys → fs.lookup f = some v → ∃ x, ys.lookup f = some x ∧ VR K ρ H v x
  | [], _, _, _, _, e => by simp at e
  | p :: fs, _, f, v, h, e => by
    simp only [VRk] at h
    obtain ⟨x, ys, rfl, r1, r2⟩ := h
    obtain ⟨g, w⟩ := p
    by_cases c : f = g
    · have hb : (f == g) = true := beq_iff_eq.mpr c
      simp only [List.lookup, hb] at e ⊢
      cases e
      exact ⟨x, rfl, r1⟩
    · have hb : (f == g) = false := beq_eq_false_iff_ne.mpr c
      simp only [List.lookup, hb] at e ⊢
      exact VRk.look r2 e
theorem VRk.noLook : ∀ {fs : List (Str × IV)} {ys : List (Str × V)} {f : Str}, VRk K ρ H fs ys → fs.lookup f = none → ys.lookup f = none
  | [], _, _, h, e => by simp only [VRk] at h; rw [h]; rfl
  | p :: fs, _, f, h, e => by
    simp only [VRk] at h
    obtain ⟨x, ys, rfl, r1, r2⟩ := h
    obtain ⟨g, w⟩ := p
    by_cases c : f = g
    · have hb : (f == g) = true := beq_iff_eq.mpr c
      simp only [List.lookup, hb] at e
      cases e
    · have hb : (f == g) = false := beq_eq_false_iff_ne.mpr c
      simp only [List.lookup, hb] at e ⊢
      exact VRk.noLook r2 e
theorem s_fld {e : Expr} {d : Ed} {f : Str} (hc : Cls X.K (He.ga X.K "Roof")) (hn : NoAttr X.K (He.ga X.K "Roof") f) (h : PE X e (tE X.K en W d)) (hb : attributeBase e f X.env (eval e X.env) = eval e X.env) : PE X (.Attribute e f pos) (tE X.K en W (dUn (fldF f) d)) := by
  refine (pe_fld h hb).jimp fun σ H Q ⟨ρ, S, τ, hr, sr, h⟩ => ⟨ρ, S, τ, hr, sr, ?_⟩
  refine Post.seq h fun ρ1 H1 S1 u x hr1 e1 r1 h1 => ?_
  obtain ⟨v, e, p⟩ := PostO.map h1.ofO
  unfold fldS at e
  split at e
  · rename_i n
    split at e
    · rename_i fs eS
      simp only [relV, VR] at r1
      obtain ⟨a, q, rfl⟩ := r1
      have ho := hr1.cell n _ a eS q
      simp only [OR] at ho
      obtain ⟨dx, ys, g1, g2⟩ := ho
      obtain ⟨x, l, rx⟩ := g2.look e
      exact ⟨a, _, dx, ys, x, rfl, g1, hc, hn, l, p.same hr1 rx⟩
    · cases e
  · cases e

/-! ### methods of built-in types -/
def rIm (K : PySem.W.Frag) (F : IV → List IV → SH → Option (IV × SH)) : V → List V → Hp → VK → Prop := fun x xs H Q => ∃ ρ S u us, HR K ρ H S ∧ VR K ρ H u x ∧ VRs K ρ H us xs ∧ PostO K ρ H (F u us S) Q
theorem _root_.L2.MtR.fz {id : String} {r : V → List V → Hp → VK → Prop} (h : MtR X id r) : MtR X id (fun x xs H Q => r x xs H (JF.fz Q)) := fun pins s σ H x xs v us Q I rx rs w => thn (h pins s σ H x xs v us _ I rx rs w) fun _ _ q => q.fz
theorem _root_.L2.MtR.jimp {id : String} {r r' : V → List V → Hp → VK → Prop} (h : MtR X id r) (q : ∀ x xs H Q, r' x xs H Q → r x xs H Q) : MtR X id r' := fun pins s σ H x xs v us Q I rx rs w => h pins s σ H x xs v us Q I rx rs (q _ _ _ _ w)
def tyL (S : SH) (u : IV) : Bool := (rdL S u).isSome
def tyStr (_ : SH) : IV → Bool
  | .str _ => true
  | _ => false
theorem tyL_ok {u : IV} {x : V} (hr : HR K ρ H S) (r : VR K ρ H u x) (h : tyL S u = true) : tyV K "list" x H := by
  unfold tyL at h
  obtain ⟨xs, e⟩ := Option.isSome_iff_exists.mp h
  obtain ⟨a, ys, rfl, hq, _⟩ := rdL_sq hr r e
  exact .inl ⟨rfl, ys, hq⟩
theorem tyStr_ok {u : IV} {x : V} (hr : HR K ρ H S) (r : VR K ρ H u x) (h : tyStr S u = true) : tyV K "str" x H := by
  cases u with
  | str z =>
    simp only [VR] at r
    subst r
    exact rfl
  | _ => cases h
def dMt (ty : SH → IV → Bool) (F : IV → List IV → SH → Option (IV × SH)) (o : Ed) (as : Ad) : Ed := fun en τ S => (o en τ S).bind fun u S1 => if ty S1 u = true then (as en τ S1).bind fun us S2 => ofO (F u us S2) else .bad
theorem s_mt {T id : String} {name : Str} {o e : Expr} {es : List Expr} {apos cpos : Pos} {d : Ed} {ds : Ad} {ty : SH → IV → Bool} {F : IV → List IV → SH → Option (IV × SH)} (pa : PlainAttrs T) (slot : Slot T name id) (hty : typeOf (.builtin id) = pure (.type "method_descriptor"))
    (hm : MtR X id (rIm X.K F)) (tok : ∀ {ρ : List Addr} {H : Hp} {S : SH} {u : IV} {x : V}, HR X.K ρ H S → VR X.K ρ H u x → ty S u = true → tyV X.K T x H) (ho : PE X o (tE X.K en W d)) (ha : PA X (e :: es) (tA X.K en W ds)) (hns : (e :: es).all notStar = true)
    (hbase : attributeBase o name X.env (eval o X.env) = eval o X.env)
    (hfew : ((backTo cpos (starEach (e :: es) X.env)).all (fun x => !x.1) && (backToKw cpos (keywordEach [] X.env)).all (fun x => x.1.isSome)
      && decide ((e :: es).length + ([] : List Keyword).length + (if ([] : List Keyword).isEmpty then 0 else 1) < 30)) = true)
    (hline : (apos.endLine == cpos.line) = true) : PE X (.Call (.Attribute o name apos) (e :: es) [] cpos) (tE X.K en W (dMt ty F d ds)) := by
  have h2 := Bool.and_eq_true_iff.mp (show (notStar e && es.all notStar) = true from hns)
  refine (pe_bm pa slot hty hm ho ha hbase hfew hline (star_cons h2.1) (star_any h2.2)).jimp fun σ H Q ⟨ρ, S, τ, hr, sr, h⟩ => ⟨ρ, S, τ, hr, sr, ?_⟩
  refine Post.seq h fun ρ1 H1 S1 u x hr1 e1 r1 h1 => ?_
  by_cases c : ty S1 u = true
  · rw [if_pos c] at h1
    refine ⟨tok hr1 r1 c, ρ1, S1, τ, hr1, sr.ext e1, ?_⟩
    exact Post.seq h1 fun ρ2 H2 S2 us xs hr2 e2 r2 h2 => ⟨ρ2, S2, u, us, hr2, VR.ext e2 r1, r2, h2.ofO⟩
  · rw [if_neg c] at h1
    exact h1.elim
theorem s_mt0 {T id : String} {name : Str} {o : Expr} {apos cpos : Pos} {d : Ed} {ty : SH → IV → Bool} {F : IV → List IV → SH → Option (IV × SH)} (pa : PlainAttrs T) (slot : Slot T name id) (hty : typeOf (.builtin id) = pure (.type "method_descriptor"))
    (hm : MtR X id (rIm X.K F)) (tok : ∀ {ρ : List Addr} {H : Hp} {S : SH} {u : IV} {x : V}, HR X.K ρ H S → VR X.K ρ H u x → ty S u = true → tyV X.K T x H) (ho : PE X o (tE X.K en W d))
    (hbase : attributeBase o name X.env (eval o X.env) = eval o X.env) (hline : (apos.endLine == cpos.line) = true) : PE X (.Call (.Attribute o name apos) [] [] cpos) (tE X.K en W (dMt ty F d dNil)) := by
  refine (pe_bm0 pa slot hty hm ho hbase hline).jimp fun σ H Q ⟨ρ, S, τ, hr, sr, h⟩ => ⟨ρ, S, τ, hr, sr, ?_⟩
  refine Post.seq h fun ρ1 H1 S1 u x hr1 e1 r1 h1 => ?_
  by_cases c : ty S1 u = true
  · rw [if_pos c] at h1
    exact ⟨tok hr1 r1 c, ρ1, S1, u, [], hr1, r1, by simp only [VRs], Post.ofO h1⟩
  · rw [if_neg c] at h1
    exact h1.elim
/-- a list cell, and what is written there -/
def lstAt (S : SH) (n : Nat) : Option (List IV) := match S[n]? with
  | some ⟨.lst xs, false⟩ => some xs
  | _ => none
theorem lst_cell {n : Nat} {x : V} {xs : List IV} (hr : HR K ρ H S) (r : VR K ρ H (.ref n) x) (e : lstAt S n = some xs) : ∃ a ys, ρ[n]? = some a ∧ x = .ref a ∧ H a = some (.lst ys) ∧ VRs K ρ H xs ys := by
  unfold lstAt at e
  split at e
  · rename_i zs eS
    cases e
    simp only [VR] at r
    obtain ⟨a, q, rfl⟩ := r
    have ho := hr.cell n _ a eS q
    simp only [OR] at ho
    obtain ⟨ys, g1, g2⟩ := ho
    exact ⟨a, ys, q, rfl, g1, g2⟩
  · cases e
theorem put_lst {n : Nat} {a : Addr} {ys zs : List V} {xs : List IV} (hr : HR K ρ H S) (q : ρ[n]? = some a) (ha : H a = some (.lst ys)) (r : VRs K ρ H xs zs) :
    HR K ρ (upd H a (.lst zs)) (S.set n ⟨.lst xs, false⟩) ∧ Ext K ρ H ρ (upd H a (.lst zs)) := hr.upd q (fun o u z => by rw [ha] at z; cases z) _ _ fun e => by
  simp only [OR]
  exact ⟨zs, upd_same, r.ext e⟩
def appendF : IV → List IV → SH → Option (IV × SH)
  | .ref n, [v], S => (lstAt S n).bind fun xs => if xs.length < sizeLine then some (.non, S.set n ⟨.lst (xs ++ [v]), false⟩) else none
  | _, _, _ => none
def popF : IV → List IV → SH → Option (IV × SH)
  | .ref n, [], S => (lstAt S n).bind fun xs => (xs[xs.length - 1]?).map fun v => (v, S.set n ⟨.lst xs.dropLast, false⟩)
  | .ref n, [.int i], S => (lstAt S n).bind fun xs => if -(2 ^ 63) ≤ i ∧ i < 2 ^ 63 then (match seqIndex? i xs.length with
    | some k => (xs[k]?).map fun v => (v, S.set n ⟨.lst (xs.eraseIdx k), false⟩)
    | none => none) else none
  | _, _, _ => none
/-- the first place where v stands -/
def findK (y : V) : List V → Nat → Option Nat
  | [], _ => none
  | x :: xs, k => if eqV x y = true then some k else findK y xs (k + 1)
def indexF : IV → List IV → SH → Option (IV × SH)
  | u, [v], S => match rdL S u, flI v with
    | some xs, some y => (match flIs xs with
      | some zs => (findK y zs 0).map fun (j : Nat) => (.int (j : Int), S)
      | none => none)
    | _, _ => none
  | _, _, _ => none
theorem findK_at : ∀ {y : V} {zs : List V} {k j : Nat}, findK y zs k = some j → ∃ i z, j = k + i ∧ zs[i]? = some z ∧ eqV z y = true ∧ ∀ (m : Nat) (z' : V), m < i → zs[m]? = some z' → eqV z' y = false
  | y, [], k, j, e => by simp [findK] at e
  | y, x :: xs, k, j, e => by
    unfold findK at e
    split at e
    · rename_i c
      cases e
      exact ⟨0, x, by simp, by simp, c, fun m z' h => by omega⟩
    · rename_i c
      obtain ⟨i, z, h1, h2, h3, h4⟩ := findK_at e
      refine ⟨i + 1, z, by omega, by simpa using h2, h3, fun m z' hm hz => ?_⟩
      cases m with
      | zero =>
        simp at hz
        subst hz
        simpa using c
      | succ m => exact h4 m z' (by omega) (by simpa using hz)
theorem m_append : MtR X "list.append" (rIm X.K appendF) := (show MtR X "list.append" rAppend from mt_append).jimp fun x xs H Q ⟨ρ, S, u, us, hr, ru, rs, p⟩ => by
  unfold appendF at p
  split at p
  · rename_i n v
    cases e : lstAt S n with
    | none => rw [e] at p; exact p.none.elim
    | some zs =>
      rw [e] at p
      obtain ⟨a, ys, q, rfl, ha, rr⟩ := lst_cell hr ru e
      obtain ⟨y, rfl, ry⟩ := one_vrs rfl rs
      have p : PostO X.K ρ H (if zs.length < sizeLine then some (.non, S.set n ⟨.lst (zs ++ [v]), false⟩) else none) Q := p
      by_cases c : zs.length < sizeLine
      · rw [if_pos c] at p
        obtain ⟨h1, h2⟩ := put_lst (zs := ys ++ [y]) (xs := zs ++ [v]) hr q ha (rr.append (by simp only [VRs]; exact ⟨y, [], rfl, ry, rfl⟩))
        exact ⟨a, ys, y, rfl, rfl, ha, by rw [← VRs.length rr]; exact c, p.to h1 h2 vr_non⟩
      · rw [if_neg c] at p
        exact p.none.elim
  · exact p.none.elim
theorem VRs.erase : ∀ {xs : List IV} {ys : List V} (k : Nat), VRs K ρ H xs ys → VRs K ρ H (xs.eraseIdx k) (ys.eraseIdx k)
  | [], _, k, h => by simp only [VRs] at h; rw [h]; simp [VRs]
  | x :: xs, _, 0, h => by
    simp only [VRs] at h
    obtain ⟨y, r, rfl, a, b⟩ := h
    simpa using b
  | x :: xs, _, k + 1, h => by
    simp only [VRs] at h
    obtain ⟨y, r, rfl, a, b⟩ := h
    simp only [List.eraseIdx_cons_succ, VRs]
    exact ⟨y, _, rfl, a, VRs.erase k b⟩
theorem VRs.dropLast {xs : List IV} {ys : List V} (h : VRs K ρ H xs ys) : VRs K ρ H xs.dropLast ys.dropLast := by
  rw [List.dropLast_eq_take, List.dropLast_eq_take, VRs.length h]
  exact VRs.take _ h
theorem m_pop : MtR X "list.pop" (rIm X.K popF) := ((show MtR X "list.pop" rPop from mt_pop).or (show MtR X "list.pop" rPopAt from mt_popAt)).jimp fun x xs H Q ⟨ρ, S, u, us, hr, ru, rs, p⟩ => by
  unfold popF at p
  split at p
  · rename_i n
    cases e : lstAt S n with
    | none => rw [e] at p; exact p.none.elim
    | some zs =>
      rw [e] at p
      obtain ⟨a, ys, q, rfl, ha, rr⟩ := lst_cell hr ru e
      obtain ⟨v, ev, p⟩ := PostO.map (show PostO X.K ρ H ((zs[zs.length - 1]?).map fun v => (v, S.set n ⟨.lst zs.dropLast, false⟩)) Q from p)
      obtain ⟨y, ey, ry⟩ := rr.get ev
      rw [VRs.length rr] at ey
      simp only [VRs] at rs
      obtain ⟨h1, h2⟩ := put_lst (zs := ys.dropLast) (xs := zs.dropLast) hr q ha rr.dropLast
      exact .inl ⟨a, ys, y, rfl, rs, ha, ey, p.to h1 h2 (ry.ext h2)⟩
  · rename_i n i
    cases e : lstAt S n with
    | none => rw [e] at p; exact p.none.elim
    | some zs =>
      rw [e] at p
      obtain ⟨a, ys, q, rfl, ha, rr⟩ := lst_cell hr ru e
      obtain ⟨w, rfl, rw'⟩ := one_vrs rfl rs
      simp only [VR] at rw'
      subst rw'
      have p : PostO X.K ρ H (if -(2 ^ 63) ≤ i ∧ i < 2 ^ 63 then (match seqIndex? i zs.length with
        | some k => (zs[k]?).map fun v => (v, S.set n ⟨.lst (zs.eraseIdx k), false⟩)
        | none => none) else none) Q := p
      by_cases c : -(2 ^ 63) ≤ i ∧ i < 2 ^ 63
      · rw [if_pos c] at p
        cases ek : seqIndex? i zs.length with
        | none => rw [ek] at p; exact p.none.elim
        | some k =>
          rw [ek] at p
          obtain ⟨v, ev, p⟩ := PostO.map p
          obtain ⟨y, ey, ry⟩ := rr.get ev
          rw [VRs.length rr] at ek
          obtain ⟨h1, h2⟩ := put_lst (zs := ys.eraseIdx k) (xs := zs.eraseIdx k) hr q ha (rr.erase k)
          exact .inr ⟨a, ys, i, k, y, rfl, rfl, ha, c.1, c.2, ek, ey, p.to h1 h2 (ry.ext h2)⟩
      · rw [if_neg c] at p
        exact p.none.elim
  · exact p.none.elim
theorem m_index : MtR X "list.index" (rIm X.K indexF) := mt_index.jimp fun x xs H Q ⟨ρ, S, u, us, hr, ru, rs, p⟩ => by
  unfold indexF at p
  split at p
  · rename_i v
    split at p
    · rename_i zs y e1 e2
      split at p
      · rename_i ws e3
        obtain ⟨j, ej, p9⟩ := PostO.map (g := fun (j : Nat) => ((IV.int (j : Int), S) : IV × SH)) p
        obtain ⟨a, ys, rfl, hq, rr⟩ := rdL_sq hr ru e1
        obtain ⟨w, rfl, rw'⟩ := one_vrs rfl rs
        obtain ⟨h1, h2⟩ := flI_rel rw' e2
        obtain ⟨h3, h4⟩ := flIs_rel rr e3
        obtain ⟨i, z, g1, g2, g3, g4⟩ := findK_at ej
        have g1 : j = i := by omega
        subst g1
        subst h1 h3
        exact ⟨a, ys, w, j, z, rfl, rfl, hq, h2, h4, g2, g3, g4, p9.same hr vr_int⟩
      · exact p.none.elim
    · exact p.none.elim
  · exact p.none.elim
def countF : IV → List IV → SH → Option (IV × SH)
  | .str a, [.str b], S => some (.int (Txt.count a b), S)
  | _, _, _ => none
def splitF : IV → List IV → SH → Option (IV × SH)
  | .str a, [.str b], S => if (b.length == 0) = false ∧ a.length + 2 ≤ sizeLine then some (.lst ((Txt.split a b).map IV.str), S) else none
  | _, _, _ => none
def joinF : IV → List IV → SH → Option (IV × SH)
  | .str a, [u], S => ((rdSq S u).bind strsI).bind fun ys => if (ys.map (·.length)).sum + ys.length * a.length ≤ 16777216 then some (.str (Txt.join a ys), S) else none
  | _, _, _ => none
theorem m_count : MtR X "str.count" (rIm X.K countF) := mt_count.jimp fun x xs H Q ⟨ρ, S, u, us, hr, ru, rs, p⟩ => by
  unfold countF at p
  split at p
  · rename_i a b
    obtain ⟨w, rfl, rw'⟩ := one_vrs rfl rs
    simp only [VR] at ru rw'
    subst ru rw'
    exact ⟨a, b, rfl, rfl, p.same hr vr_int⟩
  · exact p.none.elim
theorem m_split : MtR X "str.split" (rIm X.K splitF) := mt_split.fz.jimp fun x xs H Q ⟨ρ, S, u, us, hr, ru, rs, p⟩ => by
  unfold splitF at p
  split at p
  · rename_i a b
    obtain ⟨w, rfl, rw'⟩ := one_vrs rfl rs
    simp only [VR] at ru rw'
    subst ru rw'
    by_cases c : (b.length == 0) = false ∧ a.length + 2 ≤ sizeLine
    · rw [if_pos c] at p
      exact ⟨a, b, rfl, rfl, c.1, c.2, new_lstP (cell := false) hr (strs_vrs _) p⟩
    · rw [if_neg c] at p
      exact p.none.elim
  · exact p.none.elim
theorem m_join : MtR X "str.join" (rIm X.K joinF) := mt_join.jimp fun x xs H Q ⟨ρ, S, u, us, hr, ru, rs, p⟩ => by
  unfold joinF at p
  split at p
  · rename_i a w
    cases e : (rdSq S w).bind strsI with
    | none => rw [e] at p; exact p.none.elim
    | some ys =>
      rw [e] at p
      obtain ⟨zs, e1, e2⟩ := Option.bind_eq_some_iff.mp e
      obtain ⟨z, rfl, rz⟩ := one_vrs rfl rs
      obtain ⟨b, ws, rfl, hq, rr⟩ := rdSq_sq hr rz e1
      simp only [VR] at ru
      subst ru
      have p : PostO X.K ρ H (if (ys.map (·.length)).sum + ys.length * a.length ≤ 16777216 then some (.str (Txt.join a ys), S) else none) Q := p
      by_cases c : (ys.map (·.length)).sum + ys.length * a.length ≤ 16777216
      · rw [if_pos c] at p
        rw [strsI_rel rr e2] at hq
        exact ⟨a, b, ys, rfl, rfl, hq, c, p.same hr vr_str⟩
      · rw [if_neg c] at p
        exact p.none.elim
  · exact p.none.elim

/-! ### dicts: get, pop, {}, {k: v, ..} -/
def isDicS (S : SH) : IV → Bool
  | .ref n => match S[n]? with
    | some ⟨.dic _, _⟩ => true
    | some ⟨.dtu _, _⟩ => true
    | _ => false
  | _ => false
theorem isDicS_ok {u : IV} {x : V} (hr : HR K ρ H S) (r : VR K ρ H u x) (h : isDicS S u = true) : ∃ n a, u = .ref n ∧ ρ[n]? = some a ∧ x = .ref a ∧ IsD H a := by
  cases u with
  | ref n =>
    simp only [VR] at r
    obtain ⟨a, q, rfl⟩ := r
    simp only [isDicS] at h
    split at h
    · rename_i kvs lk eS
      have ho := hr.cell n _ a eS q
      simp only [OR] at ho
      obtain ⟨ys, g1, g2⟩ := ho
      exact ⟨n, a, rfl, q, rfl, .inl ⟨ys, g1.rd⟩⟩
    · rename_i kvs lk eS
      have ho := hr.cell n _ a eS q
      simp only [OR] at ho
      obtain ⟨ys, g1, g2⟩ := ho
      exact ⟨n, a, rfl, q, rfl, .inr ⟨ys, g1.rd⟩⟩
    · cases h
  | _ => cases h
def dgS (S : SH) (u k : IV) : Option (Option IV) := match u with
  | .ref n => dGetS S n k
  | _ => none
def dGet1 (a k : Ed) : Ed := fun en τ S => (a en τ S).bind fun u S1 => if isDicS S1 u = true then (k en τ S1).bind fun v S2 => ofO ((dgS S2 u v).map fun o => (o.getD .non, S2)) else .bad
def dGet2 (a k z : Ed) : Ed := fun en τ S => (a en τ S).bind fun u S1 => if isDicS S1 u = true then (k en τ S1).bind fun v S2 => (z en τ S2).bind fun w S3 => ofO ((dgS S3 u v).map fun o => (o.getD w, S3)) else .bad
theorem dgS_rel {n : Nat} {a : Addr} {k : IV} {y : V} {o : Option IV} (hr : HR K ρ H S) (q : ρ[n]? = some a) (rk : VR K ρ H k y) (e : dgS S (.ref n) k = some o) : ∃ o', DGet H a y o' ∧ ∀ w z, VR K ρ H w z → VR K ρ H (o.getD w) (o'.getD z) := by
  rcases dGetS_rel hr q rk e with ⟨rfl, g⟩ | ⟨v, z, rfl, g, r⟩
  · exact ⟨none, g, fun w z r => r⟩
  · exact ⟨some z, g, fun _ _ _ => r⟩
section
variable {o e f : Expr} {apos cpos : Pos} {da dk dz : Ed}
theorem s_get1 (hu : X.A.units + 1 < cLine) (ho : PE X o (tE X.K en W da)) (he : PE X e (tE X.K en W dk)) (m : M1 X o "get" apos e cpos) : PE X (.Call (.Attribute o "get" apos) [e] [] cpos) (tE X.K en W (dGet1 da dk)) := by
  refine (pe_dget1 hu ho he m).jimp fun σ H Q ⟨ρ, S, τ, hr, sr, h⟩ => ⟨ρ, S, τ, hr, sr, ?_⟩
  refine Post.seq h fun ρ1 H1 S1 u x hr1 e1 r1 h1 => ?_
  by_cases c : isDicS S1 u = true
  · rw [if_pos c] at h1
    obtain ⟨n, a, rfl, q, rfl, d⟩ := isDicS_ok hr1 r1 c
    refine ⟨a, rfl, d, ρ1, S1, τ, hr1, sr.ext e1, ?_⟩
    refine Post.seq h1 fun ρ2 H2 S2 v y hr2 e2 r2 h2 => ?_
    obtain ⟨o, eo, p⟩ := PostO.map h2.ofO
    obtain ⟨o', g, hg⟩ := dgS_rel hr2 (e2.at q) r2 eo
    exact ⟨o', g, p.same hr2 (hg _ _ vr_non)⟩
  · rw [if_neg c] at h1
    exact h1.elim
theorem s_get2 (hu : X.A.units + 1 < cLine) (ho : PE X o (tE X.K en W da)) (he : PE X e (tE X.K en W dk)) (hf : PE X f (tE X.K en W dz)) (m : M2 X o "get" apos e f cpos) : PE X (.Call (.Attribute o "get" apos) [e, f] [] cpos) (tE X.K en W (dGet2 da dk dz)) := by
  refine (pe_dget2 hu ho he hf m).jimp fun σ H Q ⟨ρ, S, τ, hr, sr, h⟩ => ⟨ρ, S, τ, hr, sr, ?_⟩
  refine Post.seq h fun ρ1 H1 S1 u x hr1 e1 r1 h1 => ?_
  by_cases c : isDicS S1 u = true
  · rw [if_pos c] at h1
    obtain ⟨n, a, rfl, q, rfl, d⟩ := isDicS_ok hr1 r1 c
    refine ⟨a, rfl, d, ρ1, S1, τ, hr1, sr.ext e1, ?_⟩
    refine Post.seq h1 fun ρ2 H2 S2 v y hr2 e2 r2 h2 => ⟨ρ2, S2, τ, hr2, (sr.ext e1).ext e2, ?_⟩
    refine Post.seq h2 fun ρ3 H3 S3 w z hr3 e3 r3 h3 => ?_
    obtain ⟨o, eo, p⟩ := PostO.map h3.ofO
    obtain ⟨o', g, hg⟩ := dgS_rel hr3 (e3.at (e2.at q)) (VR.ext e3 r2) eo
    exact ⟨o', g, p.same hr3 (hg _ _ r3)⟩
  · rw [if_neg c] at h1
    exact h1.elim
end
/-- an unlocked dict cell -/
def dicAt (S : SH) : IV → Option (Nat × List (Key × IV))
  | .ref n => match S[n]? with
    | some ⟨.dic kvs, false⟩ => some (n, kvs)
    | _ => none
  | _ => none
theorem dicAt_ok {u : IV} {x : V} {n : Nat} {kvs : List (Key × IV)} (hr : HR K ρ H S) (r : VR K ρ H u x) (h : dicAt S u = some (n, kvs)) : ∃ a ys, ρ[n]? = some a ∧ x = .ref a ∧ H a = some (.dK ys) ∧ VRk K ρ H kvs ys := by
  cases u with
  | ref m =>
    simp only [dicAt] at h
    split at h
    · rename_i ks eS
      cases h
      obtain ⟨a, ys, q, ex, g1, g2⟩ := dic_at hr r eS
      exact ⟨a, ys, q, ex, g1, g2⟩
    · cases h
  | _ => cases h
theorem VRk.drop {κ : Type} [DecidableEq κ] (k : κ) : ∀ {kvs : List (κ × IV)} {ys : List (κ × V)}, VRk K ρ H kvs ys → VRk K ρ H (dropI kvs k) (dropK ys k)
  | [], _, h => by simp only [VRk] at h; rw [h]; simp [dropI, dropK, VRk]
  | p :: kvs, _, h => by
    simp only [VRk] at h
    obtain ⟨x, ys, rfl, r1, r2⟩ := h
    have ih := VRk.drop k r2
    unfold dropI dropK at ih ⊢
    by_cases c : p.1 = k
    · simpa [List.filter_cons, c] using ih
    · simp only [List.filter_cons, c, ne_eq, not_false_eq_true, decide_true, if_true, VRk]
      exact ⟨x, _, rfl, r1, ih⟩
theorem VRk.map {κ : Type} [DecidableEq κ] {v : IV} {y : V} (k : κ) (rv : VR K ρ H v y) : ∀ {kvs : List (κ × IV)} {ys : List (κ × V)}, VRk K ρ H kvs ys → VRk K ρ H (kvs.map fun kv => if kv.1 = k then (kv.1, v) else kv) (ys.map fun kv => if kv.1 = k then (kv.1, y) else kv)
  | [], _, h => by simp only [VRk] at h; rw [h]; simp [VRk]
  | p :: kvs, _, h => by
    simp only [VRk] at h
    obtain ⟨x, ys, rfl, r1, r2⟩ := h
    have ih := VRk.map k rv r2
    by_cases c : p.1 = k
    · simp only [List.map_cons, c, if_true, VRk]
      exact ⟨y, _, rfl, rv, ih⟩
    · simp only [List.map_cons, c, if_false, VRk]
      exact ⟨x, _, rfl, r1, ih⟩
theorem VRk.append {κ : Type} : ∀ {kvs kvs2 : List (κ × IV)} {ys ys2 : List (κ × V)}, VRk K ρ H kvs ys → VRk K ρ H kvs2 ys2 → VRk K ρ H (kvs ++ kvs2) (ys ++ ys2)
  | [], _, _, _, h, q => by simp only [VRk] at h; rw [h]; exact q
  | p :: kvs, _, _, _, h, q => by
    simp only [VRk] at h
    obtain ⟨x, ys, rfl, r1, r2⟩ := h
    simp only [List.cons_append, VRk]
    exact ⟨x, _, rfl, r1, VRk.append r2 q⟩
theorem VRk.any {κ : Type} [DecidableEq κ] (k : κ) {kvs : List (κ × IV)} {ys : List (κ × V)} (h : VRk K ρ H kvs ys) : (kvs.any fun kv => decide (kv.1 = k)) = ys.any fun kv => decide (kv.1 = k) := by
  have e := h.keys
  have e1 : (kvs.any fun kv => decide (kv.1 = k)) = (kvs.map (·.1)).any fun x => decide (x = k) := by rw [List.any_map]; rfl
  have e2 : (ys.any fun kv => decide (kv.1 = k)) = (ys.map (·.1)).any fun x => decide (x = k) := by rw [List.any_map]; rfl
  rw [e1, e2, e]
theorem VRk.put {κ : Type} [DecidableEq κ] {v : IV} {y : V} (k : κ) (rv : VR K ρ H v y) {kvs : List (κ × IV)} {ys : List (κ × V)} (h : VRk K ρ H kvs ys) : VRk K ρ H (putI kvs k v) (putK ys k y) := by
  unfold putI putK
  rw [h.any k]
  split
  · exact h.map k rv
  · refine h.append ?_
    simp only [VRk]
    exact ⟨y, [], rfl, rv, rfl⟩
theorem put_dic {n : Nat} {a : Addr} {ys zs : List (Key × V)} {kvs : List (Key × IV)} (hr : HR K ρ H S) (q : ρ[n]? = some a) (ha : H a = some (.dK ys)) (r : VRk K ρ H kvs zs) :
    HR K ρ (upd H a (.dK zs)) (S.set n ⟨.dic kvs, false⟩) ∧ Ext K ρ H ρ (upd H a (.dK zs)) := hr.upd q (fun o u z => by rw [ha] at z; cases z) _ _ fun e => by
  simp only [OR]
  exact ⟨zs, upd_same, r.ext e⟩
def dpS (S : SH) (u k : IV) : Option (IV × SH) := match dicAt S u, keyI k with
  | some (n, kvs), some k => (lkI kvs k).map fun v => (v, S.set n ⟨.dic (dropI kvs k), false⟩)
  | _, _ => none
def dpS2 (S : SH) (u k z : IV) : Option (IV × SH) := match dicAt S u, keyI k with
  | some (n, kvs), some k => some (match lkI kvs k with
    | some v => (v, S.set n ⟨.dic (dropI kvs k), false⟩)
    | none => (z, S))
  | _, _ => none
def dDpop1 (a k : Ed) : Ed := fun en τ S => (a en τ S).bind fun u S1 => if isDicS S1 u = true then (k en τ S1).bind fun v S2 => ofO (dpS S2 u v) else .bad
def dDpop2 (a k z : Ed) : Ed := fun en τ S => (a en τ S).bind fun u S1 => if isDicS S1 u = true then (k en τ S1).bind fun v S2 => (z en τ S2).bind fun w S3 => ofO (dpS2 S3 u v w) else .bad
section
variable {o e f : Expr} {apos cpos : Pos} {da dk dz : Ed}
theorem s_dpop1 (ho : PE X o (tE X.K en W da)) (he : PE X e (tE X.K en W dk)) (m : M1 X o "pop" apos e cpos) : PE X (.Call (.Attribute o "pop" apos) [e] [] cpos) (tE X.K en W (dDpop1 da dk)) := by
  refine (pe_dpop1 ho he m).jimp fun σ H Q ⟨ρ, S, τ, hr, sr, h⟩ => ⟨ρ, S, τ, hr, sr, ?_⟩
  refine Post.seq h fun ρ1 H1 S1 u x hr1 e1 r1 h1 => ?_
  by_cases c : isDicS S1 u = true
  · rw [if_pos c] at h1
    obtain ⟨n, a, rfl, q, rfl, d⟩ := isDicS_ok hr1 r1 c
    refine ⟨a, rfl, d, ρ1, S1, τ, hr1, sr.ext e1, ?_⟩
    refine Post.seq h1 fun ρ2 H2 S2 v y hr2 e2 r2 h2 => ?_
    have p := h2.ofO
    unfold dpS at p
    split at p
    · rename_i m kvs k ea ek
      obtain ⟨w, ew, p⟩ := PostO.map p
      obtain ⟨a', ys, q', ex, ha, rk⟩ := dicAt_ok hr2 (VR.ext e2 r1) ea
      cases ex
      rcases rk.lk k with ⟨l1, l2⟩ | ⟨v', x', l1, l2, l3⟩
      · rw [l1] at ew; cases ew
      · rw [l1] at ew
        cases ew
        obtain ⟨g1, g2⟩ := put_dic hr2 q' ha (rk.drop k)
        exact ⟨ys, k, x', ha, keyI_rel r2 ek, l2, p.to g1 g2 (l3.ext g2)⟩
    · exact p.none.elim
  · rw [if_neg c] at h1
    exact h1.elim
theorem s_dpop2 (ho : PE X o (tE X.K en W da)) (he : PE X e (tE X.K en W dk)) (hf : PE X f (tE X.K en W dz)) (m : M2 X o "pop" apos e f cpos) : PE X (.Call (.Attribute o "pop" apos) [e, f] [] cpos) (tE X.K en W (dDpop2 da dk dz)) := by
  refine (pe_dpop2 ho he hf m).jimp fun σ H Q ⟨ρ, S, τ, hr, sr, h⟩ => ⟨ρ, S, τ, hr, sr, ?_⟩
  refine Post.seq h fun ρ1 H1 S1 u x hr1 e1 r1 h1 => ?_
  by_cases c : isDicS S1 u = true
  · rw [if_pos c] at h1
    obtain ⟨n, a, rfl, q, rfl, d⟩ := isDicS_ok hr1 r1 c
    refine ⟨a, rfl, d, ρ1, S1, τ, hr1, sr.ext e1, ?_⟩
    refine Post.seq h1 fun ρ2 H2 S2 v y hr2 e2 r2 h2 => ⟨ρ2, S2, τ, hr2, (sr.ext e1).ext e2, ?_⟩
    refine Post.seq h2 fun ρ3 H3 S3 w z hr3 e3 r3 h3 => ?_
    have p := h3.ofO
    unfold dpS2 at p
    split at p
    · rename_i m kvs k ea ek
      obtain ⟨a', ys, q', ex, ha, rk⟩ := dicAt_ok hr3 (VR.ext e3 (VR.ext e2 r1)) ea
      cases ex
      refine ⟨ys, k, ha, keyI_rel (VR.ext e3 r2) ek, fun v' lv => ?_, fun lv => ?_⟩
      · rcases rk.lk k with ⟨l1, l2⟩ | ⟨w', x', l1, l2, l3⟩
        · rw [l2] at lv; cases lv
        · rw [l2] at lv
          cases lv
          rw [l1] at p
          obtain ⟨g1, g2⟩ := put_dic hr3 q' ha (rk.drop k)
          exact p.to g1 g2 (l3.ext g2)
      · rcases rk.lk k with ⟨l1, l2⟩ | ⟨w', x', l1, l2, l3⟩
        · rw [l1] at p
          exact p.same hr3 r3
        · rw [l2] at lv; cases lv
    · exact p.none.elim
  · rw [if_neg c] at h1
    exact h1.elim
end
/-- [..] * n -/
def dRep (cell : Bool) (as : Ad) (b : Ed) : Ed := fun en τ S => (as en τ S).bind fun us S1 => if us.length ≤ sizeLine then (b en τ S1).bind fun v S2 => (match v with
  | .int k => if 0 ≤ k ∧ k < 2 ^ 63 ∧ us.length * k.toNat ≤ sizeLine then .ok (mkL cell (List.replicate k.toNat us).flatten S2).1 (mkL cell (List.replicate k.toNat us).flatten S2).2 else .bad
  | _ => .bad) else .bad
theorem VRs.rep {us : List IV} {xs : List V} (r : VRs K ρ H us xs) : ∀ m : Nat, VRs K ρ H (List.replicate m us).flatten (List.replicate m xs).flatten
  | 0 => by simp [VRs]
  | m + 1 => by
    simp only [List.replicate_succ, List.flatten_cons]
    exact r.append (VRs.rep r m)
theorem s_rep {es : List Expr} {b : Expr} {lp : Pos} {ds : Ad} {db : Ed} (cell : Bool) (ha : PA X es (tA X.K en W ds)) (hb : PE X b (tE X.K en W db)) : PE X (.BinOp (.List es lp) .Mult b pos) (tE X.K en W (dRep cell ds db)) := by
  refine (pe_op op_rep (pe_lst ha) hb).fz.jimp fun σ H Q ⟨ρ, S, τ, hr, sr, h⟩ => ⟨ρ, S, τ, hr, sr, ?_⟩
  refine Post.seq h fun ρ1 H1 S1 us xs hr1 e1 r1 h1 => ?_
  have l := VRs.length r1
  by_cases hl : us.length ≤ sizeLine
  · rw [if_pos hl] at h1
    refine ⟨by rw [← l]; exact hl, fun p hp => ?_⟩
    obtain ⟨g1, g2⟩ := hr1.inl hp (.lst xs)
    refine ⟨ρ1, S1, τ, g1, (sr.ext e1).ext g2, ?_⟩
    refine Post.seq (Post.at g2 h1) fun ρ2 H2 S2 v y hr2 e2 r2 h2 => ?_
    cases v with
    | int k =>
      have r2 : y = V.int k := by simpa only [relV, VR] using r2
      subst r2
      have h2 : Post X.K W σ ρ2 H2 (relV X.K) (if 0 ≤ k ∧ k < 2 ^ 63 ∧ us.length * k.toNat ≤ sizeLine then .ok (mkL cell (List.replicate k.toNat us).flatten S2).1 (mkL cell (List.replicate k.toNat us).flatten S2).2 else .bad) Q := h2
      by_cases c : 0 ≤ k ∧ k < 2 ^ 63 ∧ us.length * k.toNat ≤ sizeLine
      · rw [if_pos c] at h2
        exact ⟨p, k, xs, rfl, rfl, e2.keep p _ upd_same (hr1.ne hp) (fun _ z => nomatch z), by omega, c.2.1, by rw [← l]; exact c.2.2, fun q hq => new_lst hr2 (VRs.rep (VRs.ext e2 (VRs.ext g2 r1)) k.toNat) cell h2 hq⟩
      · rw [if_neg c] at h2
        exact h2.elim
    | _ => exact h2.elim
  · rw [if_neg hl] at h1
    exact h1.elim
/-- {}; tu: its keys are to be tuples -/
def dNewD (tu : Bool) : Ed := fun _ _ S => .ok (.ref S.length) (S ++ [⟨if tu = true then .dtu [] else .dic [], false⟩])
theorem s_dnew (tu : Bool) : PE X (.Dict [] [] pos) (tE X.K en W (dNewD tu)) := by
  cases tu with
  | false =>
    refine pe_dnewK.jimp fun σ H Q ⟨ρ, S, τ, hr, sr, h⟩ => fun p hp => ?_
    obtain ⟨h1, h2, h3⟩ := new_dic (kvs := []) (ys := []) hr (by simp only [VRk]) hp
    exact h _ _ _ h1 h2 h3
  | true =>
    refine pe_dnewT.jimp fun σ H Q ⟨ρ, S, τ, hr, sr, h⟩ => fun p hp => ?_
    have e0 : Ext X.K ρ H (ρ ++ [p]) (upd H p (.dT [])) := ⟨⟨[p], rfl, fun a ha => by
      have z : a = p := by simpa using ha
      rw [z]
      exact ⟨hr.ne hp, no_tbl hp⟩⟩, fun b u hb _ _ => by rw [upd_ne (ne_of_none hb hp)]; exact hb, fun b o u hb => by rw [upd_ne (ne_of_none hb hp)]; exact hb, tabs_upd (nt_none hp)⟩
    obtain ⟨a, e⟩ := hr.new hp (.dT []) ⟨.dtu [], false⟩ (by
      simp only [OR]
      exact ⟨[], upd_same, by simp only [VRk]⟩)
    refine h _ _ _ a e ?_
    simp only [relV, VR]
    refine ⟨p, ?_, rfl⟩
    rw [hr.len, List.getElem?_append_right (Nat.le_refl _)]
    simp
/-- the pairs of a display -/
def dPairs : List (Ed × Ed) → En → Ta → SH → R (List (IV × IV))
  | [], _, _, S => .ok [] S
  | (k, v) :: r, en, τ, S => (k en τ S).bind fun x S1 => (v en τ S1).bind fun y S2 => (dPairs r en τ S2).bind fun ps S3 => .ok ((x, y) :: ps) S3
def keyPs : List (IV × IV) → Option (List (Key × IV))
  | [] => some []
  | (k, v) :: r => match keyI k, keyPs r with
    | some k, some r => some ((k, v) :: r)
    | _, _ => none
def putAll (kvs : List (Key × IV)) : List (Key × IV) → List (Key × IV)
  | [] => kvs
  | p :: r => putAll (putI kvs p.1 p.2) r
/-- the new dict stands (empty) while the pairs are made -/
def dDisp (ps : List (Ed × Ed)) : Ed := fun en τ S => (dPairs ps en τ (S ++ [⟨.dic [], false⟩])).bind fun qs S1 => match S1[S.length]?, keyPs qs with
  | some ⟨.dic [], false⟩, some kvs => if kvs.length ≤ 15 then .ok (.ref S.length) (S1.set S.length ⟨.dic (putAll [] kvs), false⟩) else .bad
  | _, _ => .bad
def VRps (K : PySem.W.Frag) (ρ : List Addr) (H : Hp) : List (IV × IV) → List (V × V) → Prop
  | [], ys => ys = []
  | p :: r, ys => ∃ x y s, ys = (x, y) :: s ∧ VR K ρ H p.1 x ∧ VR K ρ H p.2 y ∧ VRps K ρ H r s
theorem VRps.ext {ρ' : List Addr} {H' : Hp} (e : Ext K ρ H ρ' H') : ∀ {ps : List (IV × IV)} {ys : List (V × V)}, VRps K ρ H ps ys → VRps K ρ' H' ps ys
  | [], _, h => h
  | p :: r, _, ⟨x, y, s, h1, h2, h3, h4⟩ => ⟨x, y, s, h1, h2.ext e, h3.ext e, VRps.ext e h4⟩
theorem pairs_post {ps : List (Ed × Ed)} {σ : L2.St} {τ : Ta} : ∀ {ρ : List Addr} {H : Hp} {S : SH} {T : List (V × V) → Hp → Prop} {γ : Type} {k : List (IV × IV) → SH → R γ} {δ : Type} {rel2 : List Addr → Hp → γ → δ → Prop} {Q : δ → Hp → Prop}, HR X.K ρ H S → SR X.K ρ H τ σ → Post X.K W σ ρ H rel2 ((dPairs ps en τ S).bind k) Q →
    (∀ ρ1 H1 S1 qs xs, HR X.K ρ1 H1 S1 → Ext X.K ρ H ρ1 H1 → VRps X.K ρ1 H1 qs xs → Post X.K W σ ρ1 H1 rel2 (k qs S1) Q → T xs H1) → tPairs (ps.map fun p => (tE X.K en W p.1, tE X.K en W p.2)) σ H T := by
  induction ps with
  | nil => exact fun hr sr h q => q _ _ _ [] [] hr (Ext.refl _ _) rfl h
  | cons p r ih =>
    intro ρ H S T γ k δ rel2 Q hr sr h q
    obtain ⟨dk, dv⟩ := p
    refine ⟨ρ, S, τ, hr, sr, ?_⟩
    have h0 : Post X.K W σ ρ H rel2 ((dk en τ S).bind fun x S1 => (dv en τ S1).bind fun y S2 => (dPairs r en τ S2).bind fun ps S3 => k ((x, y) :: ps) S3) Q := by
      have h' : Post X.K W σ ρ H rel2 (((dk en τ S).bind fun x S1 => (dv en τ S1).bind fun y S2 => (dPairs r en τ S2).bind fun ps S3 => .ok ((x, y) :: ps) S3).bind k) Q := h
      revert h'
      cases dk en τ S with
      | ok x S1 =>
        show Post _ _ _ _ _ _ (R.bind (R.bind (dv en τ S1) _) _) _ → Post _ _ _ _ _ _ (R.bind (dv en τ S1) _) _
        cases dv en τ S1 with
        | ok y S2 =>
          show Post _ _ _ _ _ _ (R.bind (R.bind (dPairs r en τ S2) _) _) _ → Post _ _ _ _ _ _ (R.bind (dPairs r en τ S2) _) _
          cases dPairs r en τ S2 <;> exact id
        | exc _ _ => exact id
        | bad => exact id
      | exc _ _ => exact id
      | bad => exact id
    refine Post.seq h0 fun ρ1 H1 S1 u x hr1 e1 r1 h1 => ⟨ρ1, S1, τ, hr1, sr.ext e1, ?_⟩
    refine Post.seq h1 fun ρ2 H2 S2 v y hr2 e2 r2 h2 => ?_
    refine ih hr2 ((sr.ext e1).ext e2) h2 fun ρ3 H3 S3 qs xs hr3 e3 r3 h3 => ?_
    exact q ρ3 H3 S3 _ _ hr3 ((e1.trans e2).trans e3) (show VRps X.K ρ3 H3 ((u, v) :: qs) ((x, y) :: xs) from ⟨x, y, xs, rfl, VR.ext e3 (VR.ext e2 r1), VR.ext e3 r2, r3⟩) h3
theorem keyPs_rel : ∀ {qs : List (IV × IV)} {xs : List (V × V)} {kvs : List (Key × IV)}, VRps K ρ H qs xs → keyPs qs = some kvs → ∃ ys : List (Key × V), xs = ys.map (fun kv => (kV kv.1, kv.2)) ∧ VRk K ρ H kvs ys
  | [], _, _, h, e => by
    simp only [keyPs] at e
    cases e
    exact ⟨[], h, by simp only [VRk]⟩
  | p :: r, _, _, ⟨x, y, s, h1, h2, h3, h4⟩, e => by
    obtain ⟨u, v⟩ := p
    simp only [keyPs] at e
    split at e
    · rename_i k kvs ek er
      cases e
      obtain ⟨ys, g1, g2⟩ := keyPs_rel h4 er
      refine ⟨(k, y) :: ys, ?_, ?_⟩
      · rw [h1, g1, keyI_rel h2 ek]
        rfl
      · simp only [VRk]
        exact ⟨y, ys, rfl, h3, g2⟩
    · cases e
theorem putAll_rel : ∀ {ks kvs : List (Key × IV)} {zs ys : List (Key × V)}, VRk K ρ H ks zs → VRk K ρ H kvs ys → VRk K ρ H (putAll kvs ks) (mergeK ys zs)
  | [], _, _, _, h, q => by
    simp only [VRk] at h
    rw [h]
    exact q
  | p :: r, kvs, _, ys, h, q => by
    simp only [VRk] at h
    obtain ⟨x, s, rfl, r1, r2⟩ := h
    exact putAll_rel (ks := r) (kvs := putI kvs p.1 p.2) (zs := s) (ys := putK ys p.1 x) r2 (q.put p.1 r1)
theorem s_disp {keys : List (Option Expr)} {values : List Expr} {ps : List (Ed × Ed)} (h : PPs X pos keys values (ps.map fun p => (tE X.K en W p.1, tE X.K en W p.2))) (hall : keys.all (·.isSome) = true) (hl : keys.length = values.length) (h0 : keys ≠ []) (h15 : keys.length ≤ 15) :
    PE X (.Dict keys values pos) (tE X.K en W (dDisp ps)) := by
  refine (pe_disp h hall hl h0 h15).jimp fun σ H Q ⟨ρ, S, τ, hr, sr, h⟩ => fun p hp => ?_
  obtain ⟨h1, h2, h3⟩ := new_dic (kvs := []) (ys := []) hr (by simp only [VRk]) hp
  refine pairs_post h1 (sr.ext h2) (Post.at h2 h) fun ρ1 H1 S1 qs xs hr1 e1 r1 hq => ?_
  split at hq
  · rename_i kvs eS eK
    have q0 : (ρ ++ [p])[S.length]? = some p := by rw [hr.len, List.getElem?_append_right (Nat.le_refl _)]; simp
    have q1 := e1.at q0
    have ho := hr1.cell _ _ p eS q1
    simp only [OR] at ho
    obtain ⟨ys, g1, g2⟩ := ho
    simp only [VRk] at g2
    subst g2
    obtain ⟨zs, k1, k2⟩ := keyPs_rel r1 eK
    have ll := k2.length
    split at hq
    · rename_i hle
      obtain ⟨w1, w2⟩ := put_dic hr1 q1 g1 (putAll_rel k2 (by simp only [VRk] : VRk X.K ρ1 H1 ([] : List (Key × IV)) ([] : List (Key × V))))
      refine ⟨g1, zs, k1, by rw [ll]; exact hle, hq _ _ _ w1 w2 ?_⟩
      simp only [relV, VR]
      exact ⟨p, q1, rfl⟩
    · exact hq.elim
  · exact hq.elim
end
end JF
set_option maxHeartbeats 1000000
/-! JF: statements; targets; what a loop walks; comprehensions. -/
namespace JF
open PySem PySem.Spec PyProof.Rows L2

/-! ### what a statement comes to -/
section
variable (K : PySem.W.Frag)
def PostS (W : WX) (ρ : List Addr) (H : Hp) (r : RS) (D : Ends) : Prop := match r with
  | .nx τ S => ∀ ρ' H' σ', HR K ρ' H' S → Ext K ρ H ρ' H' → SR K ρ' H' τ σ' → D.nx σ' H'
  | .ret v S => ∀ ρ' H' x, HR K ρ' H' S → Ext K ρ H ρ' H' → VR K ρ' H' v x → D.rt x H'
  | .brk τ S => ∀ ρ' H' σ', HR K ρ' H' S → Ext K ρ H ρ' H' → SR K ρ' H' τ σ' → D.bk σ' H'
  | .cnt τ S => ∀ ρ' H' σ', HR K ρ' H' S → Ext K ρ H ρ' H' → SR K ρ' H' τ σ' → D.ct σ' H'
  | .exc e τ S => ∀ ρ' H' σ' cls d, HR K ρ' H' S → Ext K ρ H ρ' H' → SR K ρ' H' τ σ' → ExR K ρ' H' e cls d → W cls d σ' H'
  | .bad => False
def tS (en : En) (W : WX) (d : Sd) : TS := fun D σ H => ∃ ρ S τ, HR K ρ H S ∧ SR K ρ H τ σ ∧ PostS K W ρ H (d en τ S) D
end
def liftS {α : Type} (r : R α) (τ : Ta) (k : α → SH → RS) : RS := match r with
  | .ok a S => k a S
  | .exc e S => .exc e τ S
  | .bad => .bad
section
variable {K : PySem.W.Frag} {W : WX} {σ : L2.St} {τ : Ta} {ρ ρ1 : List Addr} {H H1 : Hp} {D : Ends}
theorem PostS.at {r : RS} (e : Ext K ρ H ρ1 H1) (h : PostS K W ρ H r D) : PostS K W ρ1 H1 r D := by
  cases r with
  | nx τ S => exact fun ρ' H' x a b c => h ρ' H' x a (e.trans b) c
  | ret τ S => exact fun ρ' H' x a b c => h ρ' H' x a (e.trans b) c
  | brk τ S => exact fun ρ' H' x a b c => h ρ' H' x a (e.trans b) c
  | cnt τ S => exact fun ρ' H' x a b c => h ρ' H' x a (e.trans b) c
  | exc x τ S => exact fun ρ' H' x y z a b c d => h ρ' H' x y z a (e.trans b) c d
  | bad => exact h
theorem PostS.lift {α β : Type} {rel : List Addr → Hp → α → β → Prop} {m : R α} {k : α → SH → RS} {T : β → Hp → Prop} (h : PostS K W ρ H (liftS m τ k) D) (sr : SR K ρ H τ σ)
    (q : ∀ ρ1 H1 S1 v x, HR K ρ1 H1 S1 → Ext K ρ H ρ1 H1 → rel ρ1 H1 v x → PostS K W ρ1 H1 (k v S1) D → T x H1) : Post K W σ ρ H rel m T := by
  cases m with
  | ok v S => exact fun ρ' H' x a b c => q ρ' H' S v x a b c (PostS.at b h)
  | exc x S => exact fun ρ' H' cls d a b c => h ρ' H' σ cls d a b (sr.ext b) c
  | bad => exact h
end
theorem _root_.L2.PS.jimp {X : Cx} {e : Stmt} {t t' : TS} (h : PS X e t) (q : ∀ D σ H, t' D σ H → t D σ H) : PS X e t' := ⟨fun pins s σ H D I w => h.run pins s σ H D I (q D σ H w)⟩
theorem _root_.L2.PS.jor {X : Cx} {e : Stmt} {t t' : TS} (h : PS X e t) (h' : PS X e t') : PS X e (fun D σ H => t D σ H ∨ t' D σ H) := ⟨fun pins s σ H D I w => w.elim (h.run pins s σ H D I) (h'.run pins s σ H D I)⟩
theorem _root_.L2.PSs.jimp {X : Cx} {e : List Stmt} {t t' : TS} (h : PSs X e t) (q : ∀ D σ H, t' D σ H → t D σ H) : PSs X e t' := ⟨fun pins s σ H D I w => h.run pins s σ H D I (q D σ H w)⟩
theorem _root_.L2.PG.jimp {X : Cx} {e : Expr} {t t' : TG} (h : PG X e t) (q : ∀ v σ H Q, t' v σ H Q → t v σ H Q) : PG X e t' := ⟨fun pins s σ H v u Q I r w => h.run pins s σ H v u Q I r (q _ _ _ _ w)⟩
theorem _root_.L2.PG.jor {X : Cx} {e : Expr} {t t' : TG} (h : PG X e t) (h' : PG X e t') : PG X e (fun v σ H Q => t v σ H Q ∨ t' v σ H Q) := ⟨fun pins s σ H v u Q I r w => w.elim (h.run pins s σ H v u Q I r) (h'.run pins s σ H v u Q I r)⟩
theorem _root_.L2.PI.jimp {X : Cx} {tg e : Expr} {t t' : TI} (h : PI X tg e t) (q : ∀ σ H Q, t' σ H Q → t σ H Q) : PI X tg e t' := ⟨fun pins s σ H Q I w => h.run pins s σ H Q I (q _ _ _ w)⟩
theorem _root_.L2.PI.jor {X : Cx} {tg e : Expr} {t t' : TI} (h : PI X tg e t) (h' : PI X tg e t') : PI X tg e (fun σ H Q => t σ H Q ∨ t' σ H Q) := ⟨fun pins s σ H Q I w => w.elim (h.run pins s σ H Q I) (h'.run pins s σ H Q I)⟩

/-! ### the codes -/
def dNx : Sd := fun _ τ S => .nx τ S
def dBrk : Sd := fun _ τ S => .brk τ S
def dRet (e : Ed) : Sd := fun en τ S => liftS (e en τ S) τ fun v S => .ret v S
def dRetN : Sd := fun _ _ S => .ret .non S
def dExp (e : Ed) : Sd := fun en τ S => liftS (e en τ S) τ fun _ S => .nx τ S
def dIfS (t : Td) (a b : Sd) : Sd := fun en τ S => liftS (t en τ S) τ fun c S => if c = true then a en τ S else b en τ S
def dSeq (a b : Sd) : Sd := fun en τ S => match a en τ S with
  | .nx τ S => b en τ S
  | r => r
def dSet (i : Nat) (e : Ed) : Sd := fun en τ S => liftS (e en τ S) τ fun v S => .nx (τ.set i (some v)) S
/-- targets of names -/
inductive Tg where
  | nm (i : Nat)
  | tp (ts : List Tg)
mutual
def bindT (S : SH) : Tg → IV → Ta → Option Ta
  | .nm i, v, τ => some (τ.set i (some v))
  | .tp ts, v, τ => match rdSq S v with
    | some xs => bindTs S ts xs τ
    | none => none
def bindTs (S : SH) : List Tg → List IV → Ta → Option Ta
  | [], [], τ => some τ
  | t :: ts, x :: xs, τ => match bindT S t x τ with
    | some τ' => bindTs S ts xs τ'
    | none => none
  | _, _, _ => none
end
mutual
def Tg.ix : Tg → List Nat
  | .nm i => [i]
  | .tp ts => tgIx ts
def tgIx : List Tg → List Nat
  | [] => []
  | t :: ts => t.ix ++ tgIx ts
end
def dAsg (t : Tg) (e : Ed) : Sd := fun en τ S => liftS (e en τ S) τ fun v S => match bindT S t v τ with
  | some τ' => .nx τ' S
  | none => .bad
/-- o.f = e: the value first -/
def fldPut (S : SH) (f : Str) (u v : IV) : Option SH := match u with
  | .ref n => match S[n]? with
    | some ⟨.ins fs, false⟩ => if fs.length < 1000 then some (S.set n ⟨.ins (putL f v fs), false⟩) else none
    | _ => none
  | _ => none
where putL (f : Str) (v : IV) : List (Str × IV) → List (Str × IV)
  | [] => [(f, v)]
  | (g, x) :: r => if g = f then (g, v) :: r else (g, x) :: putL f v r
def dSetF (f : Str) (o e : Ed) : Sd := fun en τ S => liftS (e en τ S) τ fun v S => liftS (o en τ S) τ fun u S => match fldPut S f u v with
  | some S => .nx τ S
  | none => .bad
/-- o[i] = v -/
def idxPut (S : SH) (u k v : IV) : Option SH := match u with
  | .ref n => match S[n]? with
    | some ⟨.lst xs, false⟩ => (match k with
      | .int i => (ixN xs.length i).map fun j => S.set n ⟨.lst (xs.set j v), false⟩
      | _ => none)
    | some ⟨.dic kvs, false⟩ => if kvs.length < sizeLine then (keyI k).map fun k => S.set n ⟨.dic (putI kvs k v), false⟩ else none
    | some ⟨.dtu kvs, false⟩ => if kvs.length < sizeLine then (keyT k).map fun k => S.set n ⟨.dtu (putI kvs k v), false⟩ else none
    | _ => none
  | _ => none
def dSetI (o i e : Ed) : Sd := fun en τ S => liftS (e en τ S) τ fun v S => liftS (o en τ S) τ fun u S => liftS (i en τ S) τ fun k S => match idxPut S u k v with
  | some S => .nx τ S
  | none => .bad
def whGo (c : Ta → SH → R Bool) (b : Ta → SH → RS) : Nat → Ta → SH → RS
  | 0, _, _ => .bad
  | n + 1, τ, S => liftS (c τ S) τ fun k S => if k = true then (match b τ S with
    | .nx τ S => whGo c b n τ S
    | .cnt τ S => whGo c b n τ S
    | .brk τ S => .nx τ S
    | r => r) else .nx τ S
def dWhile (c : Td) (b : Sd) : Sd := fun en τ S => whGo (c en) (b en) en.fuel τ S

section
variable {X : Cx} {K : PySem.W.Frag} {ρ : List Addr} {H : Hp} {S : SH} {Q : VK} {en : En} {W : WX} {pos : Pos}
theorem ps_nx : PS X (.Pass pos) (tS X.K en W dNx) := ps_pass.jimp fun D σ H ⟨ρ, S, τ, hr, sr, h⟩ => h ρ H σ hr (Ext.refl _ _) sr
theorem ps_brk : PS X (.Break pos) (tS X.K en W dBrk) := ps_break.jimp fun D σ H ⟨ρ, S, τ, hr, sr, h⟩ => h ρ H σ hr (Ext.refl _ _) sr
theorem j_ret {e : Expr} {d : Ed} (h : PE X e (tE X.K en W d)) : PS X (.Return (some e) pos) (tS X.K en W (dRet d)) := (ps_ret h).jimp fun D σ H ⟨ρ, S, τ, hr, sr, h⟩ => ⟨ρ, S, τ, hr, sr,
  PostS.lift h sr fun ρ1 H1 S1 v x hr1 e1 r1 h1 => h1 ρ1 H1 x hr1 (Ext.refl _ _) r1⟩
theorem j_retN : PS X (.Return none pos) (tS X.K en W dRetN) := ps_retN.jimp fun D σ H ⟨ρ, S, τ, hr, sr, h⟩ => h ρ H .non hr (Ext.refl _ _) vr_non
theorem j_exp {e : Expr} {d : Ed} (h : PE X e (tE X.K en W d)) (hs : swapsWith e none pos.line X.env = pure false) : PS X (.Expr e pos) (tS X.K en W (dExp d)) := (ps_expr h hs).jimp fun D σ H ⟨ρ, S, τ, hr, sr, h⟩ => ⟨ρ, S, τ, hr, sr,
  PostS.lift h sr fun ρ1 H1 S1 v x hr1 e1 r1 h1 => h1 ρ1 H1 σ hr1 (Ext.refl _ _) (sr.ext e1)⟩
theorem j_if {c : Expr} {a b : List Stmt} {t : Td} {da db : Sd} (hc : PT X c (tT X.K en W t)) (ha : PSs X a (tS X.K en W da)) (hb : PSs X b (tS X.K en W db)) : PS X (.If c a b pos) (tS X.K en W (dIfS t da db)) := (ps_if hc ha hb).jimp fun D σ H ⟨ρ, S, τ, hr, sr, h⟩ => ⟨ρ, S, τ, hr, sr,
  PostS.lift h sr fun ρ1 H1 S1 v x hr1 e1 r1 h1 => by
    cases (show v = x from r1)
    cases v with
    | true => exact ⟨ρ1, S1, τ, hr1, sr.ext e1, h1⟩
    | false => exact ⟨ρ1, S1, τ, hr1, sr.ext e1, h1⟩⟩
theorem j_nil : PSs X [] (tS X.K en W dNx) := pss_nil.jimp fun D σ H ⟨ρ, S, τ, hr, sr, h⟩ => h ρ H σ hr (Ext.refl _ _) sr
theorem j_one {st : Stmt} {d : Sd} (h : PS X st (tS X.K en W d)) : PSs X [st] (tS X.K en W d) := pss_one h
theorem PostS.ends {D : Ends} {r : RS} {n : L2.St → Hp → Prop} (h : PostS K W ρ H (match r with
    | .nx τ S => .nx τ S
    | r => r) D) : PostS K W ρ H r D := by
  cases r <;> exact h
theorem j_cons {st : Stmt} {rest : List Stmt} {a b : Sd} (h : PS X st (tS X.K en W a)) (h2 : PSs X rest (tS X.K en W b)) : PSs X (st :: rest) (tS X.K en W (dSeq a b)) := (pss_cons h h2).jimp fun D σ H ⟨ρ, S, τ, hr, sr, h⟩ => ⟨ρ, S, τ, hr, sr, by
  unfold dSeq at h
  revert h
  cases a en τ S with
  | nx τ1 S1 => exact fun h ρ' H' σ' a b c => ⟨ρ', S1, τ1, a, c, PostS.at b h⟩
  | ret _ _ => exact id
  | brk _ _ => exact id
  | cnt _ _ => exact id
  | exc _ _ _ => exact id
  | bad => exact id⟩

/-! ### targets of names -/
/-- but at those places nothing is changed -/
def Same (l : List Nat) (σ σ' : L2.St) : Prop := σ'.length = σ.length ∧ ∀ j, j ∉ l → σ'[j]? = σ[j]?
theorem Same.refl (l : List Nat) (σ : L2.St) : Same l σ σ := ⟨rfl, fun _ _ => rfl⟩
theorem Same.trans {l l' : List Nat} {σ σ1 σ2 : L2.St} (a : Same l σ σ1) (b : Same l' σ1 σ2) : Same (l ++ l') σ σ2 := ⟨b.1.trans a.1, fun j h => by
  rw [List.mem_append] at h
  exact (b.2 j fun z => h (.inr z)).trans (a.2 j fun z => h (.inl z))⟩
def tG (K : PySem.W.Frag) (t : Tg) : TG := fun v σ H Q => ∃ ρ S τ u τ', HR K ρ H S ∧ SR K ρ H τ σ ∧ VR K ρ H u v ∧ bindT S t u τ = some τ' ∧ ∀ σ', SR K ρ H τ' σ' → Same t.ix σ σ' → Q σ' H
def tGs (K : PySem.W.Frag) (ts : List Tg) : TGs := fun vs σ H Q => ∃ ρ S τ us τ', HR K ρ H S ∧ SR K ρ H τ σ ∧ VRs K ρ H us vs ∧ bindTs S ts us τ = some τ' ∧ ∀ σ', SR K ρ H τ' σ' → Same (tgIx ts) σ σ' → Q σ' H
theorem g_nm {i : Nat} {x : Str} (hN : X.N.Nodup) (hi : X.N[i]? = some x) (hx : Loc X.env.scope x) (hf : X.fn x = true ∨ X.env.scope.names.lookup x = some .local) : PG X (.Name x pos) (tG X.K (.nm i)) := (pg_name hN hi hx hf).jimp fun v σ H Q ⟨ρ, S, τ, u, τ', hr, sr, r, e, h⟩ => by
  simp only [bindT] at e
  cases e
  refine h _ (sr.set r i) ⟨by simp, fun j hj => ?_⟩
  simp only [Tg.ix, List.mem_singleton] at hj
  rw [List.getElem?_set_ne (fun z => hj z.symm)]
theorem gs_nil : PGs X [] (tGs X.K []) := ⟨fun pins s σ H vs us Q I r ⟨ρ, S, τ, ws, τ', hr, sr, rr, e, h⟩ => by
  cases ws with
  | nil =>
    simp only [VRs] at rr
    simp only [bindTs] at e
    cases e
    exact pgs_nil.run pins s σ H vs us Q I r ⟨rr, h σ sr (Same.refl _ _)⟩
  | cons w ws => simp only [bindTs] at e; cases e⟩
theorem gs_cons {e : Expr} {es : List Expr} {t : Tg} {ts : List Tg} (h1 : PG X e (tG X.K t)) (h2 : PGs X es (tGs X.K ts)) (hs : (assignEach (e :: es) X.env).map (·.2) = assign e X.env :: (assignEach es X.env).map (·.2)) : PGs X (e :: es) (tGs X.K (t :: ts)) :=
  ⟨fun pins s σ H vs us Q I r ⟨ρ, S, τ, ws, τ', hr, sr, rr, e, h⟩ => by
    cases ws with
    | nil => simp only [bindTs] at e; cases e
    | cons w ws =>
      simp only [VRs] at rr
      obtain ⟨y, ys, rfl, r1, r2⟩ := rr
      simp only [bindTs] at e
      split at e
      · rename_i τ1 e1
        exact (pgs_cons h1 h2 hs).run pins s σ H _ us Q I r ⟨y, ys, rfl, ρ, S, τ, w, τ1, hr, sr, r1, e1, fun σ1 sr1 s1 => ⟨ρ, S, τ1, ws, τ', hr, sr1, r2, e, fun σ2 sr2 s2 => h σ2 sr2 (s1.trans s2)⟩⟩
      · cases e⟩
theorem bindTs_len : ∀ {ts : List Tg} {xs : List IV} {τ τ' : Ta}, bindTs S ts xs τ = some τ' → xs.length = ts.length
  | [], [], _, _, _ => rfl
  | [], _ :: _, _, _, e => by simp only [bindTs] at e; cases e
  | _ :: _, [], _, _, e => by simp only [bindTs] at e; cases e
  | t :: ts, x :: xs, τ, τ', e => by
    simp only [bindTs] at e
    split at e
    · rw [List.length_cons, List.length_cons, bindTs_len e]
    · cases e
theorem g_tp {es : List Expr} {k : Nat} {ts : List Tg} (hc : X.calm = true) (h : PGs X es (tGs X.K ts)) (hn : (assignEach es X.env).length = ts.length) (hst : (assignEach es X.env).findIdx? (·.1) = none) : PG X (.Tuple es k pos) (tG X.K (.tp ts)) :=
  ((pg_tup hc h hn hst).jor (pg_lst hc h hn hst)).jimp fun v σ H Q ⟨ρ, S, τ, u, τ', hr, sr, r, e, h⟩ => by
    simp only [bindT] at e
    split at e
    · rename_i xs ex
      obtain ⟨a, ys, rfl, hq, rr⟩ := rdSq_sq hr r ex
      have hl : ys.length = ts.length := by rw [← VRs.length rr]; exact bindTs_len e
      have h2 : tGs X.K ts ys σ H Q := ⟨ρ, S, τ, xs, τ', hr, sr, rr, e, fun σ' a b => h σ' a (by simpa only [Tg.ix] using b)⟩
      rcases hq with hq | hq
      · exact .inr ⟨a, ys, rfl, hq, hl, h2⟩
      · exact .inl ⟨a, ys, rfl, hq, hl, h2⟩
    · cases e

/-! ### assignments -/
theorem j_set {i : Nat} {x : Str} {p : Pos} {e : Expr} {d : Ed} (hN : X.N.Nodup) (hi : X.N[i]? = some x) (hx : Loc X.env.scope x) (hf : X.fn x = true ∨ X.env.scope.names.lookup x = some .local) (h : PE X e (tE X.K en W d))
    (hs : swapsWith e (some (.Name x p)) pos.line X.env = pure false) : PS X (.Assign [.Name x p] e pos) (tS X.K en W (dSet i d)) := (ps_set hN hi hx h hs hf).jimp fun D σ H ⟨ρ, S, τ, hr, sr, h⟩ => ⟨ρ, S, τ, hr, sr,
  PostS.lift h sr fun ρ1 H1 S1 v x hr1 e1 r1 h1 => h1 ρ1 H1 _ hr1 (Ext.refl _ _) ((sr.ext e1).set r1 i)⟩
theorem j_asg {tg e : Expr} {t : Tg} {d : Ed} (h : PE X e (tE X.K en W d)) (hg : PG X tg (tG X.K t)) (hs : swapsWithSole [tg] e pos.line X.env = pure false) (hw : swappedStores [tg] e X.env = pure none) (h1 : (assignEach [tg] X.env).map (·.2) = [assign tg X.env]) :
    PS X (.Assign [tg] e pos) (tS X.K en W (dAsg t d)) := (ps_asg h hg hs hw h1).jimp fun D σ H ⟨ρ, S, τ, hr, sr, h⟩ => ⟨ρ, S, τ, hr, sr,
  PostS.lift h sr fun ρ1 H1 S1 v x hr1 e1 r1 h1 => by
    cases eb : bindT S1 t v τ with
    | none => rw [eb] at h1; exact h1.elim
    | some τ' =>
      rw [eb] at h1
      exact ⟨ρ1, S1, τ, v, τ', hr1, sr.ext e1, r1, eb, fun σ' a _ => h1 ρ1 H1 σ' hr1 (Ext.refl _ _) a⟩⟩
theorem putL_rel {f : Str} {v : IV} {y : V} (rv : VR K ρ H v y) : ∀ {fs : List (Str × IV)} {ys : List (Str × V)}, VRk K ρ H fs ys → VRk K ρ H (fldPut.putL f v fs) (putF f y ys)
  | [], _, h => by
    simp only [VRk] at h
    rw [h]
    simp only [fldPut.putL, putF, VRk]
    exact ⟨y, [], rfl, rv, rfl⟩
  | (g, w) :: fs, _, h => by
    simp only [VRk] at h
    obtain ⟨x, ys, rfl, r1, r2⟩ := h
    simp only [fldPut.putL, putF]
    split
    · simp only [VRk]
      exact ⟨y, ys, rfl, rv, r2⟩
    · simp only [VRk]
      exact ⟨x, _, rfl, r1, putL_rel rv r2⟩
theorem j_setF {o e : Expr} {f : Str} {p : Pos} {dob d : Ed} (hc : Cls X.K (He.ga X.K "Roof")) (hn : NoAttr X.K (He.ga X.K "Roof") f) (ho : PE X o (tE X.K en W dob)) (h : PE X e (tE X.K en W d)) (hs : swapsWith e (some (.Attribute o f p)) pos.line X.env = pure false) :
    PS X (.Assign [.Attribute o f p] e pos) (tS X.K en W (dSetF f dob d)) := (ps_fld ho h hs).jimp fun D σ H ⟨ρ, S, τ, hr, sr, h⟩ => ⟨ρ, S, τ, hr, sr,
  PostS.lift h sr fun ρ1 H1 S1 v x hr1 e1 r1 h1 => ⟨ρ1, S1, τ, hr1, sr.ext e1, PostS.lift h1 (sr.ext e1) fun ρ2 H2 S2 u y hr2 e2 r2 h2 => by
    cases ep : fldPut S2 f u v with
    | none => rw [ep] at h2; exact h2.elim
    | some S3 =>
      rw [ep] at h2
      unfold fldPut at ep
      split at ep
      · rename_i n
        split at ep
        · rename_i fs eS
          split at ep
          · rename_i hl
            cases ep
            simp only [relV, VR] at r2
            obtain ⟨a, q, rfl⟩ := r2
            have hob := hr2.cell n _ a eS q
            simp only [OR] at hob
            obtain ⟨dx, ys, g1, g2⟩ := hob
            have g1 : H2 a = some (.ins (He.ga X.K "Roof") dx ys) := g1
            obtain ⟨w1, w2⟩ := hr2.upd q (fun o u z => by rw [g1] at z; cases z) (.ins (He.ga X.K "Roof") dx (putF f x ys)) ⟨.ins (fldPut.putL f v fs), false⟩ fun e => by
              simp only [OR]
              exact ⟨dx, putF f x ys, upd_same, (putL_rel (VR.ext e2 r1) g2).ext e⟩
            exact ⟨a, _, dx, ys, rfl, g1, hc, hn, by rw [g2.length]; exact hl, h2 ρ2 _ σ w1 w2 (((sr.ext e1).ext e2).ext w2)⟩
          · cases ep
        · cases ep
      · cases ep⟩⟩
theorem idxPut_rel {u k v : IV} {x y z : V} {S2 : SH} (hr : HR K ρ H S) (ru : VR K ρ H u x) (rk : VR K ρ H k y) (rv : VR K ρ H v z) (e : idxPut S u k v = some S2) {Q : Hp → Prop} (q : ∀ H', HR K ρ H' S2 → Ext K ρ H ρ H' → Q H') : rSetL x y z H Q ∨ rSetD x y z H Q := by
  unfold idxPut at e
  split at e
  · rename_i n
    split at e
    · rename_i xs eS
      split at e
      · rename_i i
        obtain ⟨j, ej, rfl⟩ := Option.map_eq_some_iff.mp e
        obtain ⟨a, ys, qa, rfl, ha, rr⟩ := lst_cell (xs := xs) hr ru (by simp only [lstAt]; rw [eS])
        simp only [VR] at rk
        subst rk
        rw [VRs.length rr] at ej
        obtain ⟨h1, h2⟩ := put_lst (zs := ys.set j z) (xs := xs.set j v) hr qa ha (rr.set rv j)
        exact .inl ⟨a, ys, i, j, rfl, rfl, ha, ej, q _ h1 h2⟩
      · cases e
    · rename_i kvs eS
      split at e
      · rename_i hl
        obtain ⟨k', ek, rfl⟩ := Option.map_eq_some_iff.mp e
        obtain ⟨a, ys, qa, rfl, g1, g2⟩ := dic_at hr ru eS
        have g1 : H a = some (.dK ys) := g1
        obtain ⟨h1, h2⟩ := put_dic hr qa g1 (g2.put k' rv)
        exact .inr ⟨a, _, rfl, .inl ⟨ys, k', g1, keyI_rel rk ek, by rw [g2.length]; exact hl, rfl⟩, q _ h1 h2⟩
      · cases e
    · rename_i kvs eS
      split at e
      · rename_i hl
        obtain ⟨k', ek, rfl⟩ := Option.map_eq_some_iff.mp e
        simp only [VR] at ru
        obtain ⟨a, qa, rfl⟩ := ru
        have hob := hr.cell n _ a eS qa
        simp only [OR] at hob
        obtain ⟨ys, g1, g2⟩ := hob
        have g1 : H a = some (.dT ys) := g1
        unfold keyT at ek
        split at ek
        · rename_i xs
          simp only [VR] at rk
          obtain ⟨b, zs, rfl, hb, rz⟩ := rk
          have ez := keyIs9_rel rz ek
          rw [ez] at hb
          obtain ⟨h1, h2⟩ := hr.upd qa (fun o u z => by rw [g1] at z; cases z) (.dT (putK ys k' z)) ⟨.dtu (putI kvs k' v), false⟩ fun e => by
            simp only [OR]
            exact ⟨_, upd_same, (g2.put k' rv).ext e⟩
          exact .inr ⟨a, _, rfl, .inr ⟨ys, k', b, g1, rfl, hb.2, by rw [g2.length]; exact hl, rfl⟩, q _ h1 h2⟩
        · cases ek
      · cases e
    · cases e
  · cases e
theorem _root_.L2.PSet.jor {t t' : TSet} (h : PSet X t) (h' : PSet X t') : PSet X (fun o i v H Q => t o i v H Q ∨ t' o i v H Q) := fun pins s σ H o i v ov iv u Q I ro ri rv w => w.elim (h pins s σ H o i v ov iv u Q I ro ri rv) (h' pins s σ H o i v ov iv u Q I ro ri rv)
theorem j_setI {o i e : Expr} {p : Pos} {dob di d : Ed} (hu : X.A.units + 1 < cLine) (ho : PE X o (tE X.K en W dob)) (hi : PE X i (tE X.K en W di)) (h : PE X e (tE X.K en W d))
    (ha : ∀ v, assign (.Subscript o i p) X.env v = (do
      let ov ← holding [v] (eval o X.env)
      let iv ← holding [v, ov] (eval i X.env)
      standAt p
      holding [v, ov, iv] (setItem ov iv v)
      release [v, ov, iv] []))
    (hs : swapsWithSole [.Subscript o i p] e pos.line X.env = pure false) (hw : swappedStores [.Subscript o i p] e X.env = pure none) (h1 : (assignEach [.Subscript o i p] X.env).map (·.2) = [assign (.Subscript o i p) X.env]) :
    PS X (.Assign [.Subscript o i p] e pos) (tS X.K en W (dSetI dob di d)) := (ps_asg h (pg_sub ho hi (set_list.jor (set_dict hu)) ha) hs hw h1).jimp fun D σ H ⟨ρ, S, τ, hr, sr, h⟩ => ⟨ρ, S, τ, hr, sr,
  PostS.lift h sr fun ρ1 H1 S1 v x hr1 e1 r1 h1 => ⟨ρ1, S1, τ, hr1, sr.ext e1, PostS.lift h1 (sr.ext e1) fun ρ2 H2 S2 u y hr2 e2 r2 h2 => ⟨ρ2, S2, τ, hr2, (sr.ext e1).ext e2, PostS.lift h2 ((sr.ext e1).ext e2) fun ρ3 H3 S3 k z hr3 e3 r3 h3 => by
    cases ep : idxPut S3 u k v with
    | none => rw [ep] at h3; exact h3.elim
    | some S4 =>
      rw [ep] at h3
      exact idxPut_rel hr3 (VR.ext e3 r2) r3 (VR.ext e3 (VR.ext e2 r1)) ep fun H' a b => h3 ρ3 H' σ a b ((((sr.ext e1).ext e2).ext e3).ext b)⟩⟩⟩

/-! ### while -/
theorem j_while {c : Expr} {body : List Stmt} {t : Td} {d : Sd} (hp : PassesOwn (model X.prog X.w) X.A X.env X.xe) (hc : PT X c (tT X.K en W t)) (hb : PSs X body (tS X.K en W d)) : PS X (.While c body [] pos) (tS X.K en W (dWhile t d)) := (ps_while hp hc hb).jimp fun D σ H ⟨ρ, S, τ, hr, sr, h⟩ => by
  refine ⟨fun m σ' H' => ∃ ρ' S' τ', HR X.K ρ' H' S' ∧ SR X.K ρ' H' τ' σ' ∧ PostS X.K W ρ' H' (whGo (t en) (d en) m τ' S') D, ⟨_, ρ, S, τ, hr, sr, h⟩, ?_⟩
  rintro m σ1 H1 ⟨ρ1, S1, τ1, hr1, sr1, h1⟩
  cases m with
  | zero => exact h1.elim
  | succ m =>
    refine ⟨ρ1, S1, τ1, hr1, sr1, PostS.lift h1 sr1 fun ρ2 H2 S2 v x hr2 e2 r2 h2 => ?_⟩
    cases (show v = x from r2)
    cases v with
    | false => exact h2 ρ2 H2 σ1 hr2 (Ext.refl _ _) (sr1.ext e2)
    | true =>
      refine ⟨fun σ' H' => ∃ ρ' S' τ', HR X.K ρ' H' S' ∧ SR X.K ρ' H' τ' σ' ∧ PostS X.K W ρ' H' (whGo (t en) (d en) m τ' S') D, fun σ' H' w => ⟨m, Nat.lt_succ_self m, w⟩, ρ2, S2, τ1, hr2, sr1.ext e2, ?_⟩
      revert h2
      show PostS _ _ _ _ (match d en τ1 S2 with | .nx τ S => _ | .cnt τ S => _ | .brk τ S => _ | r => r) _ → _
      cases d en τ1 S2 with
      | nx τ3 S3 => exact fun h ρ' H' σ' a b c => ⟨ρ', S3, τ3, a, c, PostS.at b h⟩
      | cnt τ3 S3 => exact fun h ρ' H' σ' a b c => ⟨ρ', S3, τ3, a, c, PostS.at b h⟩
      | brk τ3 S3 => exact id
      | ret _ _ => exact id
      | exc _ _ _ => exact id
      | bad => exact id
end
end JF
set_option maxHeartbeats 1000000
/-! JG: what a loop walks; for; comprehensions of lists and dicts. -/
namespace JF
open PySem PySem.Spec PyProof.Rows L2

/-! ### sources -/
/-- values told beforehand; a list's cell, read each turn; the same numbered -/
inductive Src where
  | vs (xs : List IV)
  | rd (n : Nat)
  | en (n : Nat)
def numb (i : Nat) (o : Option IV) : Option IV := o.map fun v => .tup [.int (i : Nat), v]
def Src.get (s : Src) (S : SH) (i : Nat) : Option (Option IV) := match s with
  | .vs xs => some xs[i]?
  | .rd n => (lstAt S n).map fun xs => xs[i]?
  | .en n => (lstAt S n).map fun xs => numb i xs[i]?
def Src.fuel (s : Src) (en : En) : Nat := match s with
  | .vs xs => xs.length + 1
  | _ => en.fuel
abbrev Zd := En → Ta → SH → R Src
def ItOk (K : PySem.W.Frag) (ρ : List Addr) (H : Hp) (src : Src) (J : It) : Prop := ∀ ρ' H' S', HR K ρ' H' S' → Ext K ρ H ρ' H' → ∀ i o, src.get S' i = some o → match o with
  | none => J.stop i H'
  | some v => J.go i H' ∧ ∀ x H2, J.yld i H' x H2 → ∃ ρ2, HR K ρ2 H2 S' ∧ Ext K ρ' H' ρ2 H2 ∧ VR K ρ2 H2 v x
def tZ (K : PySem.W.Frag) (en : En) (W : WX) (z : Zd) : TI := fun σ H R => ∃ ρ S τ, HR K ρ H S ∧ SR K ρ H τ σ ∧ Post K W σ ρ H (ItOk K) (z en τ S) R
def charsI (z : Str) : List IV := z.cps.toList.map fun c => .str ⟨#[c]⟩
def seqSrc (S : SH) : IV → Option Src
  | .tup xs => some (.vs xs)
  | .lst xs => some (.vs xs)
  | .scr ns => some (.vs (ns.map IV.int))
  | .str z => some (.vs (charsI z))
  | .ref n => match lstAt S n with
    | some _ => some (.rd n)
    | none => none
  | _ => none
def okS {α : Type} (o : Option α) (S : SH) : R α := match o with
  | some a => .ok a S
  | none => .bad
def zSeq (d : Ed) : Zd := fun en τ S => (d en τ S).bind fun u S => okS (seqSrc S u) S
def rngI (lo step : Int) (n : Nat) : List IV := (List.range n).map fun i => .int (lo + (i : Nat) * step)
def zRng1 (a : Ed) : Zd := fun en τ S => (a en τ S).bind fun u S => match u with
  | .int j => if -(2 ^ 62) ≤ j ∧ j < 2 ^ 62 then .ok (.vs (rngI 0 1 j.toNat)) S else .bad
  | _ => .bad
def zRng2 (a b : Ed) : Zd := fun en τ S => (a en τ S).bind fun u S => (b en τ S).bind fun v S => match u, v with
  | .int i, .int j => if (-(2 ^ 62) ≤ i ∧ i < 2 ^ 62) ∧ -(2 ^ 62) ≤ j ∧ j < 2 ^ 62 then .ok (.vs (rngI i 1 (j - i).toNat)) S else .bad
  | _, _ => .bad
/-- downwards, by one -/
def zRngD (a b c : Ed) : Zd := fun en τ S => (a en τ S).bind fun u S => (b en τ S).bind fun v S => (c en τ S).bind fun w S => match u, v, w with
  | .int i, .int j, .int k => if k = -1 ∧ (-(2 ^ 62) ≤ i ∧ i < 2 ^ 62) ∧ -(2 ^ 62) ≤ j ∧ j < 2 ^ 62 then .ok (.vs (rngI i (-1) (i - j).toNat)) S else .bad
  | _, _, _ => .bad
def numbI (xs : List IV) : List IV := (List.range xs.length).map fun i => .tup [.int (i : Nat), xs.getD i .non]
def enSrc (S : SH) : IV → Option Src
  | .lst xs => some (.vs (numbI xs))
  | .ref n => match lstAt S n with
    | some _ => some (.en n)
    | none => none
  | _ => none
def zEnum (d : Ed) : Zd := fun en τ S => (d en τ S).bind fun u S => okS (enSrc S u) S
def zipI (xs ys : List IV) : List IV := List.zipWith (fun a b => .tup [a, b]) xs ys
def zipSrc : IV → IV → Option Src
  | .lst xs, .lst ys => some (.vs (zipI xs ys))
  | .tup xs, .tup ys => some (.vs (zipI xs ys))
  | _, _ => none
def zZip (a b : Ed) : Zd := fun en τ S => (a en τ S).bind fun u S => (b en τ S).bind fun v S => okS (zipSrc u v) S
section
variable {X : Cx} {K : PySem.W.Frag} {ρ : List Addr} {H : Hp} {S : SH} {en : En} {W : WX} {pos : Pos} {tg : Expr}
theorem lstAt_rd {n : Nat} {a : Addr} {xs : List IV} (hr : HR K ρ H S) (q : ρ[n]? = some a) (e : lstAt S n = some xs) : ∃ ys, H a = some (.lst ys) ∧ VRs K ρ H xs ys := by
  obtain ⟨a', ys, q', ex, h1, h2⟩ := lst_cell (x := .ref a) hr (by simp only [VR]; exact ⟨a, q, rfl⟩) e
  cases ex
  exact ⟨ys, h1, h2⟩
theorem it_list {u : IV} {x : V} {src : Src} (hr : HR K ρ H S) (r : VR K ρ H u x) (e : seqSrc S u = some src) (hl : ∀ xs, u ≠ .tup xs) (hs : ∀ z, u ≠ .str z) : ∃ a ys, x = .ref a ∧ SqL K H a ys ∧ ItOk K ρ H src (Itl K a) := by
  have vals : ∀ {xs : List IV} {a : Addr} {ys : List V}, (∀ ρ' H', Ext K ρ H ρ' H' → SqL K H' a ys) → VRs K ρ H xs ys → ItOk K ρ H (.vs xs) (Itl K a) := fun {xs a ys} hq rr ρ' H' S' hr' e' i o eo => by
    have q := hq ρ' H' e'
    have rr' := VRs.ext e' rr
    simp only [Src.get] at eo
    cases eo
    cases ei : xs[i]? with
    | none =>
      refine ⟨ys, q, ?_⟩
      rw [← VRs.length rr]
      exact List.getElem?_eq_none_iff.mp ei
    | some v =>
      obtain ⟨y, ey, ry⟩ := rr'.get ei
      refine ⟨⟨ys, y, q, ey⟩, fun z H2 hz => ?_⟩
      obtain ⟨rfl, hz⟩ := hz
      have := hz ys q
      rw [ey] at this
      cases this
      exact ⟨ρ', hr', Ext.refl _ _, ry⟩
  cases u with
  | lst xs =>
    simp only [seqSrc] at e
    cases e
    simp only [VR] at r
    obtain ⟨a, ys, rfl, q, rr⟩ := r
    exact ⟨a, ys, rfl, .inl q.rd, vals (fun ρ' H' e' => .inl (q.tr e'.tr).rd) rr⟩
  | scr ns =>
    simp only [seqSrc] at e
    cases e
    simp only [VR] at r
    obtain ⟨a, rfl, q⟩ := r
    refine ⟨a, _, rfl, q.elim (fun q => .inl q.rd) .inr, vals (fun ρ' H' e' => ?_) (ints_vrs ns)⟩
    rcases q with q | q
    · exact .inl (q.tr e'.tr).rd
    · exact .inr q
  | ref n =>
    simp only [seqSrc] at e
    cases eS : lstAt S n with
    | none => rw [eS] at e; cases e
    | some xs =>
      rw [eS] at e
      cases e
      simp only [VR] at r
      obtain ⟨a, q, rfl⟩ := r
      obtain ⟨ys, h1, h2⟩ := lstAt_rd hr q eS
      refine ⟨a, ys, rfl, SqL.of h1, fun ρ' H' S' hr' e' i o eo => ?_⟩
      simp only [Src.get] at eo
      obtain ⟨zs, ez, rfl⟩ := Option.map_eq_some_iff.mp eo
      obtain ⟨ws, g1, g2⟩ := lstAt_rd hr' (e'.at q) ez
      have q' : SqL K H' a ws := SqL.of g1
      cases ei : zs[i]? with
      | none =>
        refine ⟨ws, q', ?_⟩
        rw [← VRs.length g2]
        exact List.getElem?_eq_none_iff.mp ei
      | some v =>
        obtain ⟨y, ey, ry⟩ := g2.get ei
        refine ⟨⟨ws, y, q', ey⟩, fun z H2 hz => ?_⟩
        obtain ⟨rfl, hz⟩ := hz
        have := hz ws q'
        rw [ey] at this
        cases this
        exact ⟨ρ', hr', Ext.refl _ _, ry⟩
  | tup xs => exact (hl xs rfl).elim
  | str z => exact (hs z rfl).elim
  | _ => cases e
theorem i_seq {e : Expr} {d : Ed} (h : PE X e (tE X.K en W d)) : PI X tg e (tZ X.K en W (zSeq d)) := by
  refine ((pi_list h).jor ((pi_tup h).jor (pi_str h))).jimp fun σ H R ⟨ρ, S, τ, hr, sr, h⟩ => ?_
  unfold zSeq at h
  cases eu : d en τ S with
  | bad => rw [eu] at h; exact h.elim
  | exc e S1 =>
    rw [eu] at h
    exact .inl ⟨ρ, S, τ, hr, sr, by rw [eu]; exact h⟩
  | ok u S1 =>
    rw [eu] at h
    have h : Post X.K W σ ρ H (ItOk X.K) (okS (seqSrc S1 u) S1) R := h
    cases es : seqSrc S1 u with
    | none => rw [es] at h; exact h.elim
    | some src =>
      rw [es] at h
      by_cases ht : ∃ xs, u = .tup xs
      · obtain ⟨xs, rfl⟩ := ht
        refine .inr (.inl ⟨ρ, S, τ, hr, sr, ?_⟩)
        rw [eu]
        intro ρ1 H1 x hr1 e1 r1
        simp only [seqSrc] at es
        cases es
        simp only [relV, VR] at r1
        obtain ⟨a, ys, rfl, q, rr⟩ := r1
        refine ⟨a, rfl, ⟨ys, SqT.of q.2⟩, h ρ1 H1 _ hr1 e1 fun ρ' H' S' hr' e' i o eo => ?_⟩
        have q' : SqT X.K H' a ys := SqT.of (e'.rd q).2
        have rr' := VRs.ext e' rr
        simp only [Src.get] at eo
        cases eo
        cases ei : xs[i]? with
        | none =>
          refine ⟨ys, q', ?_⟩
          rw [← VRs.length rr]
          exact List.getElem?_eq_none_iff.mp ei
        | some v =>
          obtain ⟨y, ey, ry⟩ := rr'.get ei
          refine ⟨⟨ys, y, q', ey⟩, fun z H2 hz => ?_⟩
          obtain ⟨rfl, hz⟩ := hz
          have := hz ys q'
          rw [ey] at this
          cases this
          exact ⟨ρ', hr', Ext.refl _ _, ry⟩
      · by_cases hs : ∃ z, u = .str z
        · obtain ⟨z, rfl⟩ := hs
          refine .inr (.inr ⟨ρ, S, τ, hr, sr, ?_⟩)
          rw [eu]
          intro ρ1 H1 x hr1 e1 r1
          simp only [seqSrc] at es
          cases es
          simp only [relV, VR] at r1
          refine ⟨z, r1, h ρ1 H1 _ hr1 e1 fun ρ' H' S' hr' e' i o eo => ?_⟩
          simp only [Src.get, charsI] at eo
          cases eo
          rw [List.getElem?_map, Array.getElem?_toList]
          cases ei : z.cps[i]? with
          | none => exact Array.getElem?_eq_none_iff.mp ei
          | some c =>
            refine ⟨(Array.getElem?_eq_some_iff.mp ei).1, fun y H2 hz => ?_⟩
            obtain ⟨rfl, c', ec, rfl⟩ := hz
            rw [ei] at ec
            cases ec
            exact ⟨ρ', hr', Ext.refl _ _, vr_str⟩
        · refine .inl ⟨ρ, S, τ, hr, sr, ?_⟩
          rw [eu]
          intro ρ1 H1 x hr1 e1 r1
          obtain ⟨a, ys, rfl, hq, it⟩ := it_list hr1 r1 es (fun xs z => ht ⟨xs, z⟩) (fun y z => hs ⟨y, z⟩)
          exact ⟨a, rfl, ⟨ys, hq⟩, h ρ1 H1 _ hr1 e1 it⟩
theorem rng_get {lo step : Int} {n i : Nat} : (rngI lo step n)[i]? = if i < n then some (.int (lo + (i : Nat) * step)) else none := by
  unfold rngI
  rw [List.getElem?_map]
  by_cases h : i < n
  · rw [List.getElem?_range h, if_pos h]
    rfl
  · rw [List.getElem?_eq_none (by simpa using h), if_neg h]
    rfl
theorem it_rng {lo : Int} {n : Nat} : ItOk K ρ H (.vs (rngI lo 1 n)) (Itr lo n) := fun ρ' H' S' hr' e' i o eo => by
  simp only [Src.get, rng_get] at eo
  cases eo
  by_cases h : i < n
  · rw [if_pos h]
    refine ⟨h, fun y H2 hz => ?_⟩
    obtain ⟨rfl, rfl⟩ := hz
    refine ⟨ρ', hr', Ext.refl _ _, ?_⟩
    rw [Int.mul_one]
    exact vr_int
  · rw [if_neg h]
    exact Nat.le_of_not_lt h
theorem it_rngC {lo c : Int} {n : Nat} : ItOk K ρ H (.vs (rngI lo c n)) (Itc lo c n) := fun ρ' H' S' hr' e' i o eo => by
  simp only [Src.get, rng_get] at eo
  cases eo
  by_cases h : i < n
  · rw [if_pos h]
    refine ⟨h, fun y H2 hz => ?_⟩
    obtain ⟨rfl, rfl⟩ := hz
    exact ⟨ρ', hr', Ext.refl _ _, vr_int⟩
  · rw [if_neg h]
    exact Nat.le_of_not_lt h
theorem args1 {a : Expr} {da : Ed} (hs : notStar a = true) (ha : PE X a (tE X.K en W da)) : PA X [a] (tA X.K en W (dCons da dNil)) := a_cons hs ha a_nil
theorem bind1 {γ δ : Type} {rel2 : List Addr → Hp → γ → δ → Prop} {Q : δ → Hp → Prop} {T : List V → Hp → Prop} {σ : L2.St} {τ : Ta} {da : Ed} {k : IV → SH → R γ} (h : Post K W σ ρ H rel2 ((da en τ S).bind k) Q)
    (q : ∀ ρ1 H1 S1 v x, HR K ρ1 H1 S1 → Ext K ρ H ρ1 H1 → VR K ρ1 H1 v x → Post K W σ ρ1 H1 rel2 (k v S1) Q → T [x] H1) : Post K W σ ρ H (relL K) (dCons da dNil en τ S) T := by
  have h0 : Post K W σ ρ H rel2 ((dCons da dNil en τ S).bind fun us S => match us with
    | [u] => k u S
    | _ => .bad) Q := by
    revert h
    show Post _ _ _ _ _ _ ((da en τ S).bind k) _ → Post _ _ _ _ _ _ (((da en τ S).bind _).bind _) _
    cases da en τ S <;> exact id
  refine Post.seq h0 fun ρ1 H1 S1 us xs hr1 e1 r1 h1 => ?_
  cases us with
  | nil => exact h1.elim
  | cons u us =>
    cases us with
    | nil =>
      obtain ⟨x, rfl, rx⟩ := one_vrs rfl r1
      exact q ρ1 H1 S1 u x hr1 e1 rx h1
    | cons _ _ => exact h1.elim
theorem bind2 {γ δ : Type} {rel2 : List Addr → Hp → γ → δ → Prop} {Q : δ → Hp → Prop} {T : List V → Hp → Prop} {σ : L2.St} {τ : Ta} {da db : Ed} {k : IV → IV → SH → R γ} (h : Post K W σ ρ H rel2 ((da en τ S).bind fun u S => (db en τ S).bind fun v S => k u v S) Q)
    (q : ∀ ρ1 H1 S1 u v x y, HR K ρ1 H1 S1 → Ext K ρ H ρ1 H1 → VR K ρ1 H1 u x → VR K ρ1 H1 v y → Post K W σ ρ1 H1 rel2 (k u v S1) Q → T [x, y] H1) : Post K W σ ρ H (relL K) (dCons da (dCons db dNil) en τ S) T := by
  have h0 : Post K W σ ρ H rel2 ((dCons da (dCons db dNil) en τ S).bind fun us S => match us with
    | [u, v] => k u v S
    | _ => .bad) Q := by
    revert h
    show Post _ _ _ _ _ _ ((da en τ S).bind _) _ → Post _ _ _ _ _ _ (((da en τ S).bind _).bind _) _
    cases da en τ S with
    | ok u S1 =>
      show Post _ _ _ _ _ _ ((db en τ S1).bind _) _ → Post _ _ _ _ _ _ ((((((db en τ S1).bind _)).bind _)).bind _) _
      cases db en τ S1 <;> exact id
    | exc _ _ => exact id
    | bad => exact id
  refine Post.seq h0 fun ρ1 H1 S1 us xs hr1 e1 r1 h1 => ?_
  match us, h1, r1 with
  | [u, v], h1, r1 =>
    simp only [relL, VRs] at r1
    obtain ⟨x, _, rfl, rx, y, _, rfl, ry, rfl⟩ := r1
    exact q ρ1 H1 S1 u v x y hr1 e1 rx ry h1
  | [], h1, _ => exact h1.elim
  | [_], h1, _ => exact h1.elim
  | _ :: _ :: _ :: _, h1, _ => exact h1.elim
theorem i_rng1 {a : Expr} {p : Pos} {da : Ed} (hg : Gl X "range") (hm : X.mg "range" = none) (hs : notStar a = true) (ha : PE X a (tE X.K en W da)) : PI X tg (.Call (.Name "range" p) [a] [] pos) (tZ X.K en W (zRng1 da)) := by
  refine (pi_range1 hg hm (args1 hs ha) (star_cons hs)).jimp fun σ H R ⟨ρ, S, τ, hr, sr, h⟩ => ⟨ρ, S, τ, hr, sr, ?_⟩
  refine bind1 h fun ρ1 H1 S1 u x hr1 e1 r1 h1 => ?_
  cases u with
  | int j =>
    simp only [VR] at r1
    subst r1
    have h1 : Post X.K W σ ρ1 H1 (ItOk X.K) (if -(2 ^ 62) ≤ j ∧ j < 2 ^ 62 then .ok (.vs (rngI 0 1 j.toNat)) S1 else .bad) R := h1
    by_cases c : -(2 ^ 62) ≤ j ∧ j < 2 ^ 62
    · rw [if_pos c] at h1
      exact ⟨j, rfl, c.1, c.2, h1 ρ1 H1 _ hr1 (Ext.refl _ _) it_rng⟩
    · rw [if_neg c] at h1
      exact h1.elim
  | _ => exact h1.elim
theorem i_rng2 {a b : Expr} {p : Pos} {da db : Ed} (hg : Gl X "range") (hm : X.mg "range" = none) (hs : notStar a = true) (hs2 : notStar b = true) (ha : PE X a (tE X.K en W da)) (hb : PE X b (tE X.K en W db)) : PI X tg (.Call (.Name "range" p) [a, b] [] pos) (tZ X.K en W (zRng2 da db)) := by
  refine (pi_range2 hg hm (a_cons hs ha (args1 hs2 hb)) (by rw [star_cons hs, star_cons hs2]; rfl) (star_cons hs2)).jimp fun σ H R ⟨ρ, S, τ, hr, sr, h⟩ => ⟨ρ, S, τ, hr, sr, ?_⟩
  refine bind2 h fun ρ1 H1 S1 u v x y hr1 e1 r1 r2 h1 => ?_
  cases u with
  | int i =>
    cases v with
    | int j =>
      simp only [VR] at r1 r2
      subst r1 r2
      have h1 : Post X.K W σ ρ1 H1 (ItOk X.K) (if (-(2 ^ 62) ≤ i ∧ i < 2 ^ 62) ∧ -(2 ^ 62) ≤ j ∧ j < 2 ^ 62 then .ok (.vs (rngI i 1 (j - i).toNat)) S1 else .bad) R := h1
      by_cases c : (-(2 ^ 62) ≤ i ∧ i < 2 ^ 62) ∧ -(2 ^ 62) ≤ j ∧ j < 2 ^ 62
      · rw [if_pos c] at h1
        exact ⟨i, j, rfl, ⟨c.1.1, c.1.2, c.2.1, c.2.2⟩, h1 ρ1 H1 _ hr1 (Ext.refl _ _) it_rng⟩
      · rw [if_neg c] at h1
        exact h1.elim
    | _ => exact h1.elim
  | _ => exact h1.elim
theorem numb_get {xs : List IV} {i : Nat} : (numbI xs)[i]? = numb i xs[i]? := by
  unfold numbI numb
  rw [List.getElem?_map]
  by_cases h : i < xs.length
  · rw [List.getElem?_range h, List.getElem?_eq_getElem h]
    simp [List.getD, List.getElem?_eq_getElem h]
  · rw [List.getElem?_eq_none (by simpa using h), List.getElem?_eq_none (by simpa using h)]
    rfl
theorem it_enum {u : IV} {x : V} {src : Src} (hr : HR K ρ H S) (r : VR K ρ H u x) (e : enSrc S u = some src) : ∃ a ys, x = .ref a ∧ SqL K H a ys ∧ ItOk K ρ H src (Ite K a) := by
  have turn : ∀ {ρ' : List Addr} {H' : Hp} {S' : SH} {a : Addr} {xs : List IV} {ys : List V} (hr' : HR K ρ' H' S') (q : SqL K H' a ys) (rr : VRs K ρ' H' xs ys) (i : Nat), match numb i xs[i]? with
      | none => (Ite K a).stop i H'
      | some v => (Ite K a).go i H' ∧ ∀ x H2, (Ite K a).yld i H' x H2 → ∃ ρ2, HR K ρ2 H2 S' ∧ Ext K ρ' H' ρ2 H2 ∧ VR K ρ2 H2 v x := fun {ρ' H' S' a xs ys} hr' q rr i => by
    cases ei : xs[i]? with
    | none =>
      refine ⟨ys, q, ?_⟩
      rw [← VRs.length rr]
      exact List.getElem?_eq_none_iff.mp ei
    | some v =>
      obtain ⟨y, ey, ry⟩ := rr.get ei
      refine ⟨⟨ys, y, q, ey⟩, fun z H2 hz => ?_⟩
      obtain ⟨T, w, rfl, hT, rfl, hz⟩ := hz
      have := hz ys q
      rw [ey] at this
      cases this
      obtain ⟨h1, h2, h3⟩ := new_tup (us := [.int (i : Nat), v]) (xs := [.int (i : Nat), y]) hr' (by simp only [VRs, VR]; exact ⟨_, _, rfl, rfl, _, _, rfl, ry, rfl⟩) hT
      exact ⟨ρ', h1, h2, h3⟩
  cases u with
  | lst xs =>
    simp only [enSrc] at e
    cases e
    simp only [VR] at r
    obtain ⟨a, ys, rfl, q, rr⟩ := r
    refine ⟨a, ys, rfl, .inl q.rd, fun ρ' H' S' hr' e' i o eo => ?_⟩
    simp only [Src.get, numb_get] at eo
    cases eo
    exact turn hr' (.inl (q.tr e'.tr).rd) (VRs.ext e' rr) i
  | ref n =>
    simp only [enSrc] at e
    cases eS : lstAt S n with
    | none => rw [eS] at e; cases e
    | some xs =>
      rw [eS] at e
      cases e
      simp only [VR] at r
      obtain ⟨a, q, rfl⟩ := r
      obtain ⟨ys, h1, h2⟩ := lstAt_rd hr q eS
      refine ⟨a, ys, rfl, SqL.of h1, fun ρ' H' S' hr' e' i o eo => ?_⟩
      simp only [Src.get] at eo
      obtain ⟨zs, ez, rfl⟩ := Option.map_eq_some_iff.mp eo
      obtain ⟨ws, g1, g2⟩ := lstAt_rd hr' (e'.at q) ez
      exact turn hr' (SqL.of g1) g2 i
  | _ => cases e
theorem i_enum {a : Expr} {p tpos : Pos} {elts : List Expr} {kk : Nat} {da : Ed} (hg : Gl X "enumerate") (hm : X.mg "enumerate" = none) (hs : notStar a = true) (ha : PE X a (tE X.K en W da)) : PI X (.Tuple elts kk tpos) (.Call (.Name "enumerate" p) [a] [] pos) (tZ X.K en W (zEnum da)) := by
  refine (pi_enum hg hm (args1 hs ha) (star_cons hs)).jimp fun σ H R ⟨ρ, S, τ, hr, sr, h⟩ => ⟨ρ, S, τ, hr, sr, ?_⟩
  refine bind1 h fun ρ1 H1 S1 u x hr1 e1 r1 h1 => ?_
  cases es : enSrc S1 u with
  | none => rw [es] at h1; exact h1.elim
  | some src =>
    rw [es] at h1
    obtain ⟨a, ys, rfl, hq, it⟩ := it_enum hr1 r1 es
    exact ⟨a, ys, rfl, hq, h1 ρ1 H1 _ hr1 (Ext.refl _ _) it⟩
theorem zip_none {xs ys : List IV} {i : Nat} (h : (zipI xs ys)[i]? = none) : xs.length ≤ i ∨ ys.length ≤ i := by
  unfold zipI at h
  rw [List.getElem?_eq_none_iff, List.length_zipWith] at h
  omega
theorem zip_some {xs ys : List IV} {i : Nat} {v : IV} (h : (zipI xs ys)[i]? = some v) : ∃ a b, xs[i]? = some a ∧ ys[i]? = some b ∧ v = .tup [a, b] := by
  unfold zipI at h
  rw [List.getElem?_zipWith] at h
  cases e1 : xs[i]? with
  | none => rw [e1] at h; cases h
  | some a =>
    cases e2 : ys[i]? with
    | none => rw [e1, e2] at h; cases h
    | some b =>
      rw [e1, e2] at h
      cases h
      exact ⟨a, b, rfl, rfl, rfl⟩
theorem i_zip {a b : Expr} {p tpos : Pos} {elts : List Expr} {kk : Nat} {da db : Ed} (hg : Gl X "zip") (hm : X.mg "zip" = none) (hs : notStar a = true) (hs2 : notStar b = true) (ha : PE X a (tE X.K en W da)) (hb : PE X b (tE X.K en W db)) :
    PI X (.Tuple elts kk tpos) (.Call (.Name "zip" p) [a, b] [] pos) (tZ X.K en W (zZip da db)) := by
  refine (RZ.pi_zipA hg hm (a_cons hs ha (args1 hs2 hb)) (star_cons hs) (star_any (by simp [hs2]))).jimp fun σ H R ⟨ρ, S, τ, hr, sr, h⟩ => ⟨ρ, S, τ, hr, sr, ?_⟩
  refine bind2 h fun ρ1 H1 S1 u v x y hr1 e1 r1 r2 h1 => ?_
  cases es : zipSrc u v with
  | none => rw [es] at h1; exact h1.elim
  | some src =>
    rw [es] at h1
    unfold zipSrc at es
    split at es
    · rename_i xs ys
      cases es
      simp only [VR] at r1 r2
      obtain ⟨a, us, rfl, q1, rr1⟩ := r1
      obtain ⟨b, ws, rfl, q2, rr2⟩ := r2
      refine ⟨a, b, us, ws, rfl, .inl ⟨.inl q1.rd, .inl q2.rd, h1 ρ1 H1 _ hr1 (Ext.refl _ _) fun ρ' H' S' hr' e' i o eo => ?_⟩⟩
      have k1 : SqL X.K H' a us := .inl (q1.tr e'.tr).rd
      have k2 : SqL X.K H' b ws := .inl (q2.tr e'.tr).rd
      simp only [Src.get] at eo
      cases eo
      cases ei : (zipI xs ys)[i]? with
      | none =>
        refine ⟨us, ws, k1, k2, ?_⟩
        rw [← VRs.length rr1, ← VRs.length rr2]
        exact zip_none ei
      | some v =>
        obtain ⟨p, q, ep, eq, rfl⟩ := zip_some ei
        obtain ⟨y1, ey1, ry1⟩ := (VRs.ext e' rr1).get ep
        obtain ⟨y2, ey2, ry2⟩ := (VRs.ext e' rr2).get eq
        refine ⟨⟨us, ws, y1, y2, k1, k2, ey1, ey2⟩, fun z H2 hz => ?_⟩
        obtain ⟨T, w1, w2, rfl, hT, rfl, hz1, hz2⟩ := hz
        have t1 := hz1 us k1
        have t2 := hz2 ws k2
        rw [ey1] at t1
        rw [ey2] at t2
        cases t1
        cases t2
        obtain ⟨h1, h2, h3⟩ := new_tup (us := [p, q]) (xs := [y1, y2]) hr' (by simp only [VRs]; exact ⟨_, _, rfl, ry1, _, _, rfl, ry2, rfl⟩) hT
        exact ⟨ρ', h1, h2, h3⟩
    · rename_i xs ys
      cases es
      simp only [VR] at r1 r2
      obtain ⟨a, us, rfl, q1, rr1⟩ := r1
      obtain ⟨b, ws, rfl, q2, rr2⟩ := r2
      refine ⟨a, b, us, ws, rfl, .inr ⟨SqT.of q1.2, SqT.of q2.2, h1 ρ1 H1 _ hr1 (Ext.refl _ _) fun ρ' H' S' hr' e' i o eo => ?_⟩⟩
      have k1 : SqT X.K H' a us := SqT.of (e'.rd q1).2
      have k2 : SqT X.K H' b ws := SqT.of (e'.rd q2).2
      simp only [Src.get] at eo
      cases eo
      cases ei : (zipI xs ys)[i]? with
      | none =>
        refine ⟨us, ws, k1, k2, ?_⟩
        rw [← VRs.length rr1, ← VRs.length rr2]
        exact zip_none ei
      | some v =>
        obtain ⟨p, q, ep, eq, rfl⟩ := zip_some ei
        obtain ⟨y1, ey1, ry1⟩ := (VRs.ext e' rr1).get ep
        obtain ⟨y2, ey2, ry2⟩ := (VRs.ext e' rr2).get eq
        refine ⟨⟨us, ws, y1, y2, k1, k2, ey1, ey2⟩, fun z H2 hz => ?_⟩
        obtain ⟨T, w1, w2, rfl, hT, rfl, hz1, hz2⟩ := hz
        have t1 := hz1 us k1
        have t2 := hz2 ws k2
        rw [ey1] at t1
        rw [ey2] at t2
        cases t1
        cases t2
        obtain ⟨h1, h2, h3⟩ := new_tup (us := [p, q]) (xs := [y1, y2]) hr' (by simp only [VRs]; exact ⟨_, _, rfl, ry1, _, _, rfl, ry2, rfl⟩) hT
        exact ⟨ρ', h1, h2, h3⟩
    · cases es

/-! ### for -/
def forGo (get : SH → Nat → Option (Option IV)) (b : SH → IV → Ta → RS) : Nat → Nat → Ta → SH → RS
  | 0, _, _, _ => .bad
  | f + 1, i, τ, S => match get S i with
    | none => .bad
    | some none => .nx τ S
    | some (some v) => match b S v τ with
      | .nx τ S => forGo get b f (i + 1) τ S
      | .cnt τ S => forGo get b f (i + 1) τ S
      | .brk τ S => .nx τ S
      | r => r
def stepT (t : Tg) (d : Ta → SH → RS) : SH → IV → Ta → RS := fun S v τ => match bindT S t v τ with
  | some τ => d τ S
  | none => .bad
def dFor (z : Zd) (t : Tg) (d : Sd) : Sd := fun en τ S => liftS (z en τ S) τ fun src S => forGo src.get (stepT t (d en)) (src.fuel en) 0 τ S
theorem for_post {z : Zd} {t : Tg} {d : Sd} {D : Ends} {σ : L2.St} {H : Hp} (h : tS K en W (dFor z t d) D σ H) : tFor (tZ K en W z) (tG K t) (tS K en W d) D σ H := by
  obtain ⟨ρ, S, τ, hr, sr, h⟩ := h
  refine ⟨ρ, S, τ, hr, sr, PostS.lift h sr fun ρ1 H1 S1 src J hr1 e1 r1 h1 => ?_⟩
  refine ⟨fun i m σ' H' => ∃ ρ' S' τ', HR K ρ' H' S' ∧ Ext K ρ1 H1 ρ' H' ∧ SR K ρ' H' τ' σ' ∧ PostS K W ρ' H' (forGo src.get (stepT t (d en)) m i τ' S') D, ⟨_, ρ1, S1, τ, hr1, Ext.refl _ _, sr.ext e1, h1⟩, ?_⟩
  rintro i m σ' H' ⟨ρ', S', τ', hr', e', sr', h'⟩
  cases m with
  | zero => exact h'.elim
  | succ m =>
    unfold forGo at h'
    cases eg : src.get S' i with
    | none => rw [eg] at h'; exact h'.elim
    | some o =>
      rw [eg] at h'
      have it := r1 ρ' H' S' hr' e' i o eg
      cases o with
      | none => exact .inl ⟨it, h' ρ' H' σ' hr' (Ext.refl _ _) sr'⟩
      | some v =>
        refine .inr ⟨it.1, fun σ2 H2 => ∃ ρ' S' τ', HR K ρ' H2 S' ∧ Ext K ρ1 H1 ρ' H2 ∧ SR K ρ' H2 τ' σ2 ∧ PostS K W ρ' H2 (forGo src.get (stepT t (d en)) m (i + 1) τ' S') D, fun σ2 H2 w => ⟨m, Nat.lt_succ_self m, w⟩, fun x H2 hy => ?_⟩
        obtain ⟨ρ2, hr2, e2, rv⟩ := it.2 x H2 hy
        have h' : PostS K W ρ' H' (match stepT t (d en) S' v τ' with
          | .nx τ S => forGo src.get (stepT t (d en)) m (i + 1) τ S
          | .cnt τ S => forGo src.get (stepT t (d en)) m (i + 1) τ S
          | .brk τ S => .nx τ S
          | r => r) D := h'
        unfold stepT at h'
        cases eb : bindT S' t v τ' with
        | none => rw [eb] at h'; exact h'.elim
        | some τ2 =>
          rw [eb] at h'
          refine ⟨ρ2, S', τ', v, τ2, hr2, sr'.ext e2, rv, eb, fun σ3 sr3 _ => ⟨ρ2, S', τ2, hr2, sr3, ?_⟩⟩
          revert h'
          show PostS _ _ _ _ (match d en τ2 S' with | .nx τ S => _ | .cnt τ S => _ | .brk τ S => _ | r => r) _ → _
          cases d en τ2 S' with
          | nx τ3 S3 => exact fun h ρ4 H4 σ4 a b c => ⟨ρ4, S3, τ3, a, (e'.trans e2).trans b, c, PostS.at (e2.trans b) h⟩
          | cnt τ3 S3 => exact fun h ρ4 H4 σ4 a b c => ⟨ρ4, S3, τ3, a, (e'.trans e2).trans b, c, PostS.at (e2.trans b) h⟩
          | brk τ3 S3 => exact fun h => PostS.at e2 h
          | ret _ _ => exact fun h => PostS.at e2 h
          | exc _ _ _ => exact fun h => PostS.at e2 h
          | bad => exact id
theorem j_for {iter : Expr} {body : List Stmt} {z : Zd} {t : Tg} {d : Sd} (hp : PassesOwn (model X.prog X.w) X.A X.env X.xe) (hc : X.calm = true) (hi : PI X tg iter (tZ X.K en W z)) (hg : PG X tg (tG X.K t)) (hb : PSs X body (tS X.K en W d)) (hs : ∀ x, foldedSetIterable iter X.env x = pure x) :
    PS X (.For tg iter body [] pos) (tS X.K en W (dFor z t d)) := (ps_for hp hc hi hg hb hs).jimp fun D σ H h => for_post h
end
end JF
set_option maxHeartbeats 1000000
/-! JH: comprehensions of lists and dicts; a dict locked while its keys are walked. -/
namespace JF
open PySem PySem.Spec PyProof.Rows L2

def wipeT (τ : Ta) : List Nat → Ta
  | [] => τ
  | v :: vs => (wipeT τ vs).set v none
def WF : WX := fun _ _ _ _ => False
/-- the turns of a list comprehension -/
def lcGo (get : SH → Nat → Option (Option IV)) (bd : SH → IV → Option Ta) (tt : Ta → SH → R Bool) (te : Ta → SH → R IV) : Nat → Nat → List IV → SH → Option (List IV × SH)
  | 0, _, _, _ => none
  | f + 1, i, acc, S => match get S i with
    | none => none
    | some none => some (acc, S)
    | some (some v) => match bd S v with
      | none => none
      | some τ => match tt τ S with
        | .ok true S => (match te τ S with
          | .ok y S => if acc.length < sizeLine then lcGo get bd tt te f (i + 1) (acc ++ [y]) S else none
          | _ => none)
        | .ok false S => lcGo get bd tt te f (i + 1) acc S
        | _ => none
def dLc (cell : Bool) (z : Zd) (t : Tg) (tt : Td) (te : Ed) (vs : List Nat) : Ed := fun en τ S => (z en τ S).bind fun src S => match lcGo src.get (fun S v => bindT S t v (wipeT τ vs)) (tt en) (te en) (src.fuel en) 0 [] S with
  | some (xs, S) => .ok (mkL cell xs S).1 (mkL cell xs S).2
  | none => .bad
/-- the turns of a dict comprehension -/
def dcGo (get : SH → Nat → Option (Option IV)) (bd : SH → IV → Option Ta) (tt : Ta → SH → R Bool) (tk te : Ta → SH → R IV) : Nat → Nat → List (Key × IV) → SH → Option (List (Key × IV) × SH)
  | 0, _, _, _ => none
  | f + 1, i, acc, S => match get S i with
    | none => none
    | some none => some (acc, S)
    | some (some v) => match bd S v with
      | none => none
      | some τ => match tt τ S with
        | .ok true S => (match tk τ S with
          | .ok k S => (match te τ S with
            | .ok y S => (match keyI k with
              | some k => if acc.length < sizeLine then dcGo get bd tt tk te f (i + 1) (putI acc k y) S else none
              | none => none)
            | _ => none)
          | _ => none)
        | .ok false S => dcGo get bd tt tk te f (i + 1) acc S
        | _ => none
def dDc (z : Zd) (t : Tg) (tt : Td) (tk te : Ed) (vs : List Nat) : Ed := fun en τ S => (z en τ S).bind fun src S => match dcGo src.get (fun S v => bindT S t v (wipeT τ vs)) (tt en) (tk en) (te en) (src.fuel en) 0 [] S with
  | some (xs, S) => .ok (.ref S.length) (S ++ [⟨.dic xs, false⟩])
  | none => .bad
def dYes : Td := fun _ _ S => .ok true S
section
variable {X : Cx} {K : PySem.W.Frag} {ρ ρ1 : List Addr} {H H1 : Hp} {S : SH} {en : En} {W : WX} {pos : Pos} {tg : Expr}
theorem wipe_in {σ : L2.St} {j : Nat} : ∀ {vs : List Nat}, j ∈ vs → (wipe σ vs)[j]? = if j < σ.length then some none else none
  | [], h => by simp at h
  | v :: vs, h => by
    unfold wipe
    by_cases e : v = j
    · subst e
      rw [List.getElem?_set]
      simp [wipe_length]
    · rw [List.getElem?_set_ne e]
      exact wipe_in ((List.mem_cons.mp h).resolve_left fun z => e z.symm)
theorem wipe_out {σ : L2.St} {j : Nat} : ∀ {vs : List Nat}, j ∉ vs → (wipe σ vs)[j]? = σ[j]?
  | [], _ => rfl
  | v :: vs, h => by
    unfold wipe
    rw [List.getElem?_set_ne (fun z => h (by rw [z]; exact List.mem_cons_self))]
    exact wipe_out fun z => h (List.mem_cons_of_mem _ z)
theorem wipeT_in {σ : Ta} {j : Nat} : ∀ {vs : List Nat}, j ∈ vs → (wipeT σ vs)[j]? = some none ∨ (wipeT σ vs)[j]? = none
  | [], h => by simp at h
  | v :: vs, h => by
    unfold wipeT
    by_cases e : v = j
    · subst e
      rw [List.getElem?_set]
      simp only [if_true]
      split
      · exact .inl rfl
      · exact .inr rfl
    · rw [List.getElem?_set_ne e]
      exact wipeT_in ((List.mem_cons.mp h).resolve_left fun z => e z.symm)
theorem wipeT_out {σ : Ta} {j : Nat} : ∀ {vs : List Nat}, j ∉ vs → (wipeT σ vs)[j]? = σ[j]?
  | [], _ => rfl
  | v :: vs, h => by
    unfold wipeT
    rw [List.getElem?_set_ne (fun z => h (by rw [z]; exact List.mem_cons_self))]
    exact wipeT_out fun z => h (List.mem_cons_of_mem _ z)
theorem wipeT_length (σ : Ta) : ∀ vs : List Nat, (wipeT σ vs).length = σ.length
  | [] => rfl
  | v :: vs => by unfold wipeT; rw [List.length_set, wipeT_length σ vs]
theorem SR.wipe {τ : Ta} {σ : L2.St} (vs : List Nat) (h : SR K ρ H τ σ) : SR K ρ H (wipeT τ vs) (L2.wipe σ vs) := ⟨by rw [wipeT_length, wipe_length, h.1], fun j v e => by
  by_cases hj : j ∈ vs
  · rcases wipeT_in (σ := τ) hj with z | z <;> rw [z] at e <;> cases e
  · rw [wipeT_out hj] at e
    rw [wipe_out hj]
    exact h.2 j v e⟩
theorem Same.wipe {l vs : List Nat} {σ σ' : L2.St} (h : Same l (L2.wipe σ vs) σ') (sub : ∀ j ∈ l, j ∈ vs) : L2.wipe σ' vs = L2.wipe σ vs := by
  refine List.ext_getElem? fun j => ?_
  by_cases hj : j ∈ vs
  · rw [wipe_in hj, wipe_in hj, h.1, wipe_length]
  · rw [wipe_out hj, h.2 j fun z => hj (sub j z)]
/-- a thing outside of all cells, not frozen, is changed -/
structure Off (ρ : List Addr) (H : Hp) (D : Addr) : Prop where
  out : D ∉ ρ
  tup : ∀ ys, H D ≠ some (.tup ys)
  frz : ∀ o u, H D ≠ some (.frz o u)
  nt : NT (H D)
  xd : ∀ fs, H D ≠ some (.xd fs)
theorem Off.tr {D : Addr} (h : Off ρ H D) (o : HO) : Tr K ρ H ρ (upd H D o) := ⟨fun _ _ q => q, fun a ys n q => by
    have z : a ≠ D := fun z => h.tup ys (z ▸ q)
    exact ⟨n, by rw [upd_ne z]; exact q⟩, fun b o' u _ q => by
    have z : b ≠ D := fun z => h.frz o' _ (z ▸ q)
    rw [upd_ne z]
    exact q, tabs_upd h.nt, fun a fs n q => by
    have z : a ≠ D := fun z => h.xd fs (z ▸ q)
    exact ⟨n, by rw [upd_ne z]; exact q⟩⟩
theorem Off.push {D : Addr} (h : Off ρ H D) : Tr K ρ H (ρ ++ [D]) H := ⟨fun n a q => by rw [List.getElem?_append_left (List.getElem?_eq_some_iff.mp q).1]; exact q, fun a ys n q => by
    have z : a ≠ D := fun z => h.tup ys (z ▸ q)
    exact ⟨fun w => by
      rcases List.mem_append.mp w with w | w
      · exact n w
      · exact z (by simpa using w), q⟩, fun _ _ _ _ q => q, id, fun a fs n q => by
    have z : a ≠ D := fun z => h.xd fs (z ▸ q)
    exact ⟨fun w => by
      rcases List.mem_append.mp w with w | w
      · exact n w
      · exact z (by simpa using w), q⟩⟩
theorem Off.hr {D : Addr} (h : Off ρ H D) (o : HO) (hr : HR K ρ H S) : HR K ρ (upd H D o) S := hr.off (h.tr o) fun a ha => upd_ne fun z => h.out (z ▸ ha)
theorem Off.lst {D : Addr} {ys : List V} (n : D ∉ ρ) (h : H D = some (.lst ys)) : Off ρ H D := ⟨n, fun zs z => (by rw [h] at z; cases z), fun o u z => (by rw [h] at z; cases z), nt_lst h, fun fs z => (by rw [h] at z; cases z)⟩
theorem Off.dK {D : Addr} {ys : List (Key × V)} (n : D ∉ ρ) (h : H D = some (.dK ys)) : Off ρ H D := ⟨n, fun zs z => (by rw [h] at z; cases z), fun o u z => (by rw [h] at z; cases z), nt_dK h, fun fs z => (by rw [h] at z; cases z)⟩
/-- from before D was made -/
theorem Ext.upd {D : Addr} (e : Ext K ρ H ρ1 H1) (hD : H D = none) (nt : NT (H1 D)) (o : HO) : Ext K ρ H ρ1 (L2.upd H1 D o) := ⟨e.pre, fun b u hb n t => by rw [upd_ne (ne_of_none hb hD)]; exact e.keep b u hb n t, fun b o' u hb => by rw [upd_ne (ne_of_none hb hD)]; exact e.frz b o' u hb, fun h => tabs_upd nt (e.tbs h)⟩
theorem Ext.grow {D : Addr} (e : Ext K ρ H ρ1 H1) (hD : H D = none) (n : D ∉ ρ) : Ext K ρ H (ρ1 ++ [D]) H1 := by
  obtain ⟨⟨new, rfl, h⟩, k, z, w⟩ := e
  refine ⟨⟨new ++ [D], by rw [List.append_assoc], fun a ha => ?_⟩, k, z, w⟩
  rcases List.mem_append.mp ha with ha | ha
  · exact h a ha
  · have e : a = D := by simpa using ha
    rw [e]
    exact ⟨n, no_tbl hD⟩
theorem lc_post {cell : Bool} {z : Zd} {t : Tg} {tt : Td} {te : Ed} {vs : List Nat} {σ : L2.St} {Q Q2 : VK} (sub : ∀ j ∈ t.ix, j ∈ vs) (h : tE K en W (dLc cell z t tt te vs) σ H Q) (hq : ∀ x H, fz Q x H → Q2 x H) : tLc (tZ K en W z) (tG K t) (tT K en WF tt) (tE K en WF te) vs σ H Q2 := by
  obtain ⟨ρ, S, τ, hr, sr, h⟩ := h
  refine ⟨ρ, S, τ, hr, sr, Post.seq h fun ρ1 H1 S1 src J hr1 e1 r1 h1 D hD => ?_⟩
  cases el : lcGo src.get (fun S v => bindT S t v (wipeT τ vs)) (tt en) (te en) (src.fuel en) 0 [] S1 with
  | none => rw [el] at h1; exact h1.elim
  | some p =>
    obtain ⟨xs, S9⟩ := p
    rw [el] at h1
    have h1 : ∀ ρ' H' x, HR K ρ' H' (mkL cell xs S9).2 → Ext K ρ1 H1 ρ' H' → VR K ρ' H' (mkL cell xs S9).1 x → Q x H' := h1
    have sr1 := sr.ext e1
    have nD := hr1.ne hD
    obtain ⟨hr2, e2⟩ := hr1.inl hD (.lst [])
    refine ⟨fun i m H' => ∃ ρ' S' acc ys, HR K ρ' H' S' ∧ Ext K ρ1 H1 ρ' H' ∧ D ∉ ρ' ∧ H' D = some (.lst ys) ∧ VRs K ρ' H' acc ys ∧ lcGo src.get (fun S v => bindT S t v (wipeT τ vs)) (tt en) (te en) m i acc S' = some (xs, S9), ⟨_, ρ1, S1, [], [], hr2, e2, nD, upd_same, by simp only [VRs], el⟩, ?_⟩
    rintro i m H' ⟨ρ', S', acc, ys, hr', e', n', hD', ra, el'⟩
    have off := Off.lst n' hD'
    cases m with
    | zero => cases el'
    | succ m =>
      unfold lcGo at el'
      cases eg : src.get S' i with
      | none => rw [eg] at el'; cases el'
      | some o =>
        rw [eg] at el'
        have it := r1 ρ' H' S' hr' e' i o eg
        cases o with
        | none =>
          cases el'
          refine .inl ⟨it, hq _ _ ?_⟩
          cases cell with
          | false => exact .inr ⟨D, _, rfl, hD', True.intro, fun od => h1 ρ' _ _ (off.hr _ hr') (e'.upd hD off.nt _) (by
              show VR K ρ' _ (.lst xs) _
              simp only [VR]
              exact ⟨D, ys, rfl, ⟨od, upd_same⟩, ra.tr (off.tr _)⟩)⟩
          | true => exact .inl (h1 (ρ' ++ [D]) H' _ (hr'.push n' off.push ⟨.lst xs, false⟩ (by
              simp only [OR]
              exact ⟨ys, hD', ra.tr off.push⟩)) (e'.grow hD nD) (by
              show VR K _ _ (.ref S9.length) _
              simp only [VR]
              refine ⟨D, ?_, rfl⟩
              rw [hr'.len, List.getElem?_append_right (Nat.le_refl _)]
              simp))
        | some v =>
          refine .inr ⟨it.1, fun H' => ∃ ρ' S' acc ys, HR K ρ' H' S' ∧ Ext K ρ1 H1 ρ' H' ∧ D ∉ ρ' ∧ H' D = some (.lst ys) ∧ VRs K ρ' H' acc ys ∧ lcGo src.get (fun S v => bindT S t v (wipeT τ vs)) (tt en) (te en) m (i + 1) acc S' = some (xs, S9), fun H' w => ⟨m, Nat.lt_succ_self m, w⟩, fun x H2 hy => ?_⟩
          obtain ⟨ρ2, hr2, e2, rv⟩ := it.2 x H2 hy
          simp only at el'
          cases eb : bindT S' t v (wipeT τ vs) with
          | none => rw [eb] at el'; cases el'
          | some τ2 =>
            rw [eb] at el'
            have sr2 : SR K ρ2 H2 (wipeT τ vs) (wipe σ vs) := ((sr1.ext e').ext e2).wipe vs
            refine ⟨ρ2, S', _, v, τ2, hr2, sr2, rv, eb, fun σ3 sr3 same => ⟨same.wipe sub, ρ2, S', τ2, hr2, sr3, ?_⟩⟩
            have d2 := e2.rd ⟨n', hD'⟩
            have ra2 := VRs.ext e2 ra
            cases et : tt en τ2 S' with
            | bad => simp only [et] at el'; cases el'
            | exc _ _ => simp only [et] at el'; cases el'
            | ok b S3 =>
              intro ρ3 H3 b' hr3 e3 rb
              cases (show b = b' from rb)
              have d3 := e3.rd d2
              have ra3 := VRs.ext e3 ra2
              cases b with
              | false =>
                simp only [et] at el'
                exact ⟨ρ3, S3, acc, ys, hr3, (e'.trans e2).trans e3, d3.1, d3.2, ra3, el'⟩
              | true =>
                simp only [et] at el'
                refine ⟨ρ3, S3, τ2, hr3, sr3.ext e3, ?_⟩
                cases ee : te en τ2 S3 with
                | bad => simp only [ee] at el'; cases el'
                | exc _ _ => simp only [ee] at el'; cases el'
                | ok y S4 =>
                  intro ρ4 H4 w hr4 e4 ry
                  simp only [ee] at el'
                  split at el'
                  · rename_i hl
                    have d4 := e4.rd d3
                    have ra4 := VRs.ext e4 ra3
                    have off4 := Off.lst d4.1 d4.2
                    refine ⟨ys, d4.2, by rw [← VRs.length ra]; exact hl, ρ4, S4, acc ++ [y], ys ++ [w], off4.hr _ hr4, (((e'.trans e2).trans e3).trans e4).upd hD off4.nt _, d4.1, upd_same, ?_, el'⟩
                    exact (ra4.append (by simp only [VRs]; exact ⟨w, [], rfl, ry, rfl⟩)).tr (off4.tr _)
                  · cases el'
theorem dc_post {z : Zd} {t : Tg} {tt : Td} {tk te : Ed} {vs : List Nat} {σ : L2.St} {Q : VK} (sub : ∀ j ∈ t.ix, j ∈ vs) (h : tE K en W (dDc z t tt tk te vs) σ H Q) : tDc (tZ K en W z) (tG K t) (tT K en WF tt) (tE K en WF tk) (tE K en WF te) vs σ H Q := by
  obtain ⟨ρ, S, τ, hr, sr, h⟩ := h
  refine ⟨ρ, S, τ, hr, sr, Post.seq h fun ρ1 H1 S1 src J hr1 e1 r1 h1 D hD => ?_⟩
  cases el : dcGo src.get (fun S v => bindT S t v (wipeT τ vs)) (tt en) (tk en) (te en) (src.fuel en) 0 [] S1 with
  | none => rw [el] at h1; exact h1.elim
  | some p =>
    obtain ⟨xs, S9⟩ := p
    rw [el] at h1
    have h1 : ∀ ρ' H' x, HR K ρ' H' (S9 ++ [⟨.dic xs, false⟩]) → Ext K ρ1 H1 ρ' H' → VR K ρ' H' (.ref S9.length) x → Q x H' := h1
    have sr1 := sr.ext e1
    have nD := hr1.ne hD
    obtain ⟨hr2, e2⟩ := hr1.inl hD (.dK [])
    refine ⟨fun i m H' => ∃ ρ' S' acc ys, HR K ρ' H' S' ∧ Ext K ρ1 H1 ρ' H' ∧ D ∉ ρ' ∧ H' D = some (.dK ys) ∧ VRk K ρ' H' acc ys ∧ dcGo src.get (fun S v => bindT S t v (wipeT τ vs)) (tt en) (tk en) (te en) m i acc S' = some (xs, S9), ⟨_, ρ1, S1, [], [], hr2, e2, nD, upd_same, by simp only [VRk], el⟩, ?_⟩
    rintro i m H' ⟨ρ', S', acc, ys, hr', e', n', hD', ra, el'⟩
    have off := Off.dK n' hD'
    cases m with
    | zero => cases el'
    | succ m =>
      unfold dcGo at el'
      cases eg : src.get S' i with
      | none => rw [eg] at el'; cases el'
      | some o =>
        rw [eg] at el'
        have it := r1 ρ' H' S' hr' e' i o eg
        cases o with
        | none =>
          cases el'
          refine .inl ⟨it, ?_⟩
          exact h1 (ρ' ++ [D]) H' _ (hr'.push n' off.push ⟨.dic xs, false⟩ (by
              simp only [OR]
              exact ⟨ys, hD', ra.tr off.push⟩)) (e'.grow hD nD) (by
              simp only [VR]
              refine ⟨D, ?_, rfl⟩
              rw [hr'.len, List.getElem?_append_right (Nat.le_refl _)]
              simp)
        | some v =>
          refine .inr ⟨it.1, fun H' => ∃ ρ' S' acc ys, HR K ρ' H' S' ∧ Ext K ρ1 H1 ρ' H' ∧ D ∉ ρ' ∧ H' D = some (.dK ys) ∧ VRk K ρ' H' acc ys ∧ dcGo src.get (fun S v => bindT S t v (wipeT τ vs)) (tt en) (tk en) (te en) m (i + 1) acc S' = some (xs, S9), fun H' w => ⟨m, Nat.lt_succ_self m, w⟩, fun x H2 hy => ?_⟩
          obtain ⟨ρ2, hr2, e2, rv⟩ := it.2 x H2 hy
          simp only at el'
          cases eb : bindT S' t v (wipeT τ vs) with
          | none => rw [eb] at el'; cases el'
          | some τ2 =>
            rw [eb] at el'
            have sr2 : SR K ρ2 H2 (wipeT τ vs) (wipe σ vs) := ((sr1.ext e').ext e2).wipe vs
            refine ⟨ρ2, S', _, v, τ2, hr2, sr2, rv, eb, fun σ3 sr3 same => ⟨same.wipe sub, ρ2, S', τ2, hr2, sr3, ?_⟩⟩
            have d2 := e2.rd ⟨n', hD'⟩
            have ra2 := VRk.ext e2 ra
            cases et : tt en τ2 S' with
            | bad => simp only [et] at el'; cases el'
            | exc _ _ => simp only [et] at el'; cases el'
            | ok b S3 =>
              intro ρ3 H3 b' hr3 e3 rb
              cases (show b = b' from rb)
              have d3 := e3.rd d2
              have ra3 := VRk.ext e3 ra2
              cases b with
              | false =>
                simp only [et] at el'
                exact ⟨ρ3, S3, acc, ys, hr3, (e'.trans e2).trans e3, d3.1, d3.2, ra3, el'⟩
              | true =>
                simp only [et] at el'
                refine ⟨ρ3, S3, τ2, hr3, sr3.ext e3, ?_⟩
                cases ek : tk en τ2 S3 with
                | bad => simp only [ek] at el'; cases el'
                | exc _ _ => simp only [ek] at el'; cases el'
                | ok k S4 =>
                  intro ρ4 H4 w hr4 e4 rk
                  simp only [ek] at el'
                  refine ⟨ρ4, S4, τ2, hr4, (sr3.ext e3).ext e4, ?_⟩
                  have d4 := e4.rd d3
                  have ra4 := VRk.ext e4 ra3
                  cases ee : te en τ2 S4 with
                  | bad => simp only [ee] at el'; cases el'
                  | exc _ _ => simp only [ee] at el'; cases el'
                  | ok y S5 =>
                    intro ρ5 H5 q hr5 e5 ry
                    simp only [ee] at el'
                    cases eK : keyI k with
                    | none => simp only [eK] at el'; cases el'
                    | some k' =>
                      simp only [eK] at el'
                      split at el'
                      · rename_i hl
                        have d5 := e5.rd d4
                        have ra5 := VRk.ext e5 ra4
                        have off5 := Off.dK d5.1 d5.2
                        refine ⟨ys, k', keyI_rel rk eK, d5.2, by rw [ra.length]; exact hl, ρ5, S5, putI acc k' y, putK ys k' q, off5.hr _ hr5, ((((e'.trans e2).trans e3).trans e4).trans e5).upd hD off5.nt _, d5.1, upd_same, ?_, el'⟩
                        exact (ra5.put k' ry).tr (off5.tr _)
                      · cases el'
theorem ts_nil : PTs X [] (tT X.K en W dYes) := ⟨fun pins s σ H Q I ⟨ρ, S, τ, hr, sr, h⟩ => pts_nil.run pins s σ H Q I (h ρ H true hr (Ext.refl _ _) rfl)⟩
theorem ts_one {c : Expr} {t : Td} (h : PT X c (tT X.K en W t)) : PTs X [c] (tT X.K en W t) := pts_one h
section
variable {elt kx iter : Expr} {ifs : List Expr} {scope : Scope} {own : List (Str × Nat)} {z : Zd} {t : Tg} {tt : Td} {tk te : Ed}
theorem s_lc (cell : Bool) (hc : X.calm = true) (hN : X.N.Nodup) (hi : PI X tg iter (tZ X.K en W z)) (ok : BlkOk X.N X.env.scope scope own) (sub : ∀ j ∈ t.ix, j ∈ own.map (·.2))
    (hg : ∀ (s : Shared) (H : Hp) (C : Addr) (cl : List (Str × Addr)) (fp : List Addr), PG (X.blk s H scope (compEnvC scope cl C X.env) fp) tg (tG X.K t)) (ht : ∀ (s : Shared) (H : Hp) (C : Addr) (cl : List (Str × Addr)) (fp : List Addr), PTs (X.blk s H scope (compEnvC scope cl C X.env) fp) ifs (tT X.K en WF tt))
    (he : ∀ (s : Shared) (H : Hp) (C : Addr) (cl : List (Str × Addr)) (fp : List Addr), PE (X.blk s H scope (compEnvC scope cl C X.env) fp) elt (tE X.K en WF te)) (hs : ∀ x, foldedSetIterable iter X.env x = pure x) :
    PE X (.ListComp elt [⟨tg, iter, ifs, 0⟩] scope pos) (tE X.K en W (dLc cell z t tt te (own.map (·.2)))) := (pe_lc hc hN hi ok hg ht he hs).fz.jimp fun σ H Q h => lc_post sub h fun _ _ q => q
theorem s_dc (hc : X.calm = true) (hN : X.N.Nodup) (hi : PI X tg iter (tZ X.K en W z)) (ok : BlkOk X.N X.env.scope scope own) (sub : ∀ j ∈ t.ix, j ∈ own.map (·.2))
    (hg : ∀ (s : Shared) (H : Hp) (C : Addr) (cl : List (Str × Addr)) (fp : List Addr), PG (X.blk s H scope (compEnvC scope cl C X.env) fp) tg (tG X.K t)) (ht : ∀ (s : Shared) (H : Hp) (C : Addr) (cl : List (Str × Addr)) (fp : List Addr), PTs (X.blk s H scope (compEnvC scope cl C X.env) fp) ifs (tT X.K en WF tt))
    (hk : ∀ (s : Shared) (H : Hp) (C : Addr) (cl : List (Str × Addr)) (fp : List Addr), PE (X.blk s H scope (compEnvC scope cl C X.env) fp) kx (tE X.K en WF tk))
    (he : ∀ (s : Shared) (H : Hp) (C : Addr) (cl : List (Str × Addr)) (fp : List Addr), PE (X.blk s H scope (compEnvC scope cl C X.env) fp) elt (tE X.K en WF te)) (hs : ∀ x, foldedSetIterable iter X.env x = pure x) :
    PE X (.DictComp kx elt [⟨tg, iter, ifs, 0⟩] scope pos) (tE X.K en W (dDc z t tt tk te (own.map (·.2)))) := (pe_dc hc hN hi ok hg ht hk he hs).jimp fun σ H Q h => dc_post sub h
end
/-- the list just stored, locked for good if wanted -/
def fzD (D : Ends) : Ends := { D with nx := fun σ H => D.nx σ H ∨ ∃ d u, H d = some u ∧ Mut (some u) ∧ ∀ od, D.nx σ (upd H d (.frz od u)) }
theorem _root_.L2.PS.fz {st : Stmt} {t : TS} (h : PS X st t) : PS X st (fun D σ H => t (fzD D) σ H) := ⟨fun pins s σ H D I w => thn (h.run pins s σ H _ I w) fun f s1 q => by
  cases f with
  | next =>
    obtain ⟨σ', H', I1, q | ⟨d, u, hd, mu, q⟩⟩ := q
    · exact ⟨σ', H', I1, q⟩
    · obtain ⟨od, I2⟩ := I1.lock hd mu
      exact ⟨σ', _, I2, q od⟩
  | brk => exact q
  | cont => exact q
  | ret v => exact q⟩
theorem j_setLc {i : Nat} {y : Str} {py spos : Pos} {elt iter : Expr} {ifs : List Expr} {scope : Scope} {own : List (Str × Nat)} {z : Zd} {t : Tg} {tt : Td} {te : Ed} (cell : Bool) (hc : X.calm = true) (hN : X.N.Nodup) (hy : X.N[i]? = some y) (hyl : X.env.scope.names.lookup y = some .local)
    (hsw : swapsWith (.ListComp elt [⟨tg, iter, ifs, 0⟩] scope pos) (some (.Name y py)) spos.line X.env = pure true) (hi : PI X tg iter (tZ X.K en W z)) (ok : BlkOk X.N X.env.scope scope own) (sub : ∀ j ∈ t.ix, j ∈ own.map (·.2))
    (hg : ∀ (s : Shared) (H : Hp) (C : Addr) (cl : List (Str × Addr)) (fp : List Addr), PG (X.blk s H scope (compEnvC scope cl C X.env) fp) tg (tG X.K t)) (ht : ∀ (s : Shared) (H : Hp) (C : Addr) (cl : List (Str × Addr)) (fp : List Addr), PTs (X.blk s H scope (compEnvC scope cl C X.env) fp) ifs (tT X.K en WF tt))
    (he : ∀ (s : Shared) (H : Hp) (C : Addr) (cl : List (Str × Addr)) (fp : List Addr), PE (X.blk s H scope (compEnvC scope cl C X.env) fp) elt (tE X.K en WF te)) (hs : ∀ x, foldedSetIterable iter X.env x = pure x) :
    PS X (.Assign [.Name y py] (.ListComp elt [⟨tg, iter, ifs, 0⟩] scope pos) spos) (tS X.K en W (dSet i (dLc cell z t tt te (own.map (·.2))))) := by
  refine (ps_setLc hc hN hy hyl hsw hi ok hg ht he hs).fz.jimp fun D σ H ⟨ρ, S, τ, hr, sr, h⟩ => ?_
  have h2 : tE X.K en W (dLc cell z t tt te (own.map (·.2))) σ H (fun x H1 => D.nx (σ.set i (some x)) H1) := ⟨ρ, S, τ, hr, sr, PostS.lift h sr fun ρ1 H1 S1 v x hr1 e1 r1 h1 => h1 ρ1 H1 _ hr1 (Ext.refl _ _) ((sr.ext e1).set r1 i)⟩
  exact lc_post sub h2 fun x H1 q => q.elim .inl fun ⟨d, u, _, h1, h2, h3⟩ => .inr ⟨d, u, h1, h2, h3⟩

/-! ### a dict's keys, the dict locked -/
/-- the dict (locked), as a source -/
def keySrc (S : SH) : IV → Option Src
  | .ref n => match S[n]? with
    | some ⟨.dic kvs, true⟩ => some (.vs (kvs.map fun kv => kI kv.1))
    | _ => none
  | _ => none
def zKey (d : Ed) : Zd := fun en τ S => (d en τ S).bind fun u S => okS (keySrc S u) S
theorem i_key {e : Expr} {d : Ed} (h : PE X e (tE X.K en W d)) : PI X tg e (tZ X.K en W (zKey d)) := by
  refine (pi_keys h).jimp fun σ H R ⟨ρ, S, τ, hr, sr, h⟩ => ⟨ρ, S, τ, hr, sr, ?_⟩
  refine Post.seq h fun ρ1 H1 S1 u x hr1 e1 r1 h1 => ?_
  cases es : keySrc S1 u with
  | none => rw [es] at h1; exact h1.elim
  | some src =>
    rw [es] at h1
    unfold keySrc at es
    split at es
    · rename_i n
      split at es
      · rename_i kvs eS
        cases es
        obtain ⟨a, ys, q, rfl, ⟨o, g1⟩, g2⟩ := dic_at hr1 r1 eS
        refine ⟨a, o, rfl, .inl ⟨ys, g1, h1 ρ1 H1 _ hr1 (Ext.refl _ _) fun ρ' H' S' hr' e' i o2 eo => ?_⟩⟩
        have g1' := e'.frz _ _ _ g1
        simp only [Src.get, List.getElem?_map] at eo
        cases eo
        have hk := g2.keys
        have hki : (ys[i]?).map (·.1) = (kvs[i]?).map (·.1) := by rw [← List.getElem?_map, ← List.getElem?_map, hk]
        cases ei : kvs[i]? with
        | none =>
          rw [ei] at hki
          cases ey : ys[i]? with
          | none => exact ⟨g1', List.getElem?_eq_none_iff.mp ey⟩
          | some p => rw [ey] at hki; cases hki
        | some p =>
          rw [ei] at hki
          cases ey : ys[i]? with
          | none => rw [ey] at hki; cases hki
          | some p' =>
            rw [ey] at hki
            have hpp : p'.1 = p.1 := Option.some.inj hki
            refine ⟨⟨g1', (List.getElem?_eq_some_iff.mp ey).1⟩, fun y H2 hy => ?_⟩
            obtain ⟨rfl, k, v, ek, rfl⟩ := hy
            rw [ey] at ek
            cases ek
            refine ⟨ρ', hr', Ext.refl _ _, ?_⟩
            have hk2 : k = p.1 := hpp
            rw [hk2]
            exact vr_key
      · cases es
    · cases es
def setLk (S : SH) (n : Nat) (b : Bool) : SH := match S[n]? with
  | some c => S.set n { c with lk := b }
  | none => S
/-- the dict that e tells, if it is not locked -/
def lkOf (S : SH) : IV → Option Nat
  | .ref n => match S[n]? with
    | some ⟨.dic _, false⟩ => some n
    | _ => none
  | _ => none
/-- unlocked where a statement ends -/
def unlk (n : Nat) : RS → RS
  | .nx τ S => .nx τ (setLk S n false)
  | .ret v S => .ret v (setLk S n false)
  | .brk τ S => .brk τ (setLk S n false)
  | .cnt τ S => .cnt τ (setLk S n false)
  | r => r
/-- n: the dict that d tells, of no locked one -/
def lkAt (d : Ed) (en : En) (τ : Ta) (S : SH) : Option Nat := match d en τ S with
  | .ok u _ => lkOf S u
  | _ => none
/-- the statement, while the dict that d tells is locked -/
def dLk (d : Ed) (st : Sd) : Sd := fun en τ S => match lkAt d en τ S with
  | some n => unlk n (st en τ (setLk S n true))
  | none => st en τ S
def unlkE (n : Nat) : R IV → R IV
  | .ok v S => .ok v (setLk S n false)
  | r => r
def dLkE (d : Ed) (e : Ed) : Ed := fun en τ S => match lkAt d en τ S with
  | some n => unlkE n (e en τ (setLk S n true))
  | none => e en τ S
theorem lkAt_ok {d : Ed} {τ : Ta} {n : Nat} (hr : HR K ρ H S) (e : lkAt d en τ S = some n) : ∃ a kvs ys, ρ[n]? = some a ∧ S[n]? = some ⟨.dic kvs, false⟩ ∧ H a = some (.dK ys) ∧ VRk K ρ H kvs ys := by
  unfold lkAt at e
  split at e
  · rename_i u S1 _
    unfold lkOf at e
    split at e
    · rename_i m
      split at e
      · rename_i kvs eS
        cases e
        obtain ⟨a, q⟩ := hr.addr eS
        have h := hr.cell _ _ a eS q
        simp only [OR] at h
        obtain ⟨ys, g1, g2⟩ := h
        exact ⟨a, kvs, ys, q, eS, g1, g2⟩
      · cases e
    · cases e
  · cases e
theorem hr_lock {n : Nat} {a : Addr} {kvs : List (Key × IV)} {ys : List (Key × V)} (hr : HR K ρ H S) (q : ρ[n]? = some a) (eS : S[n]? = some ⟨.dic kvs, false⟩) (ha : H a = some (.dK ys)) (r : VRk K ρ H kvs ys) (od : Obj) :
    HR K ρ (upd H a (.frz od (.dK ys))) (setLk S n true) ∧ Ext K ρ H ρ (upd H a (.frz od (.dK ys))) := by
  have e : setLk S n true = S.set n ⟨.dic kvs, true⟩ := by simp only [setLk, eS]
  rw [e]
  exact hr.upd q (fun o u z => by rw [ha] at z; cases z) _ _ fun e => by
    simp only [OR]
    exact ⟨ys, ⟨od, upd_same⟩, r.ext e⟩
theorem hr_unlock {n : Nat} {a : Addr} {od : Obj} {ys : List (Key × V)} (hr : HR K ρ H S) (q : ρ[n]? = some a) (ha : H a = some (.frz od (.dK ys))) : HR K ρ (upd H a (.dK ys)) (setLk S n false) ∧ Tr K ρ H ρ (upd H a (.dK ys)) := by
  have t : Tr K ρ H ρ (upd H a (.dK ys)) := ⟨fun _ _ q => q, fun b zs nb hb => by
    have z : b ≠ a := fun z => by rw [z, ha] at hb; cases hb
    exact ⟨nb, by rw [upd_ne z]; exact hb⟩, fun b o u nu hb => by
    have z : b ≠ a := fun z => by rw [z, ha] at hb; cases hb; exact nu _ rfl
    rw [upd_ne z]; exact hb, tabs_upd (nt_frz ha), fun b fs nb hb => by
    have z : b ≠ a := fun z => by rw [z, ha] at hb; cases hb
    exact ⟨nb, by rw [upd_ne z]; exact hb⟩⟩
  refine ⟨?_, t⟩
  obtain ⟨c, ec⟩ := hr.there q
  have ho := hr.cell n c a ec q
  have e : setLk S n false = S.set n { c with lk := false } := by simp only [setLk, ec]
  rw [e]
  refine hr.set q _ t (fun b nb => upd_ne nb) ?_
  obtain ⟨o, lk⟩ := c
  cases lk with
  | false =>
    cases o <;> simp only [OR] at ho
    · obtain ⟨_, g, _⟩ := ho; rw [show H a = _ from g] at ha; cases ha
    · obtain ⟨_, g, _⟩ := ho; rw [show H a = _ from g] at ha; cases ha
    · obtain ⟨_, g, _⟩ := ho; rw [show H a = _ from g] at ha; cases ha
    · obtain ⟨_, _, g, _⟩ := ho; rw [show H a = _ from g] at ha; cases ha
  | true =>
    cases o <;> simp only [OR] at ho ⊢
    · obtain ⟨_, ⟨_, g⟩, _⟩ := ho; rw [ha] at g; cases g
    · obtain ⟨zs, ⟨_, g⟩, r⟩ := ho
      rw [ha] at g
      cases g
      exact ⟨_, upd_same, r.tr t⟩
    · obtain ⟨_, ⟨_, g⟩, _⟩ := ho; rw [ha] at g; cases g
    · obtain ⟨_, _, ⟨_, g⟩, _⟩ := ho; rw [ha] at g; cases g
/-- from before the lock -/
theorem Ext.unlock {a : Addr} {od : Obj} {u : HO} {ρ' : List Addr} {H' : Hp} (ha : a ∈ ρ) (nf : ∀ o u, H a ≠ some (.frz o u)) (nt : NT (H a)) (e : Ext K ρ (L2.upd H a (.frz od u)) ρ' H') : Ext K ρ H ρ' H' := by
  obtain ⟨⟨new, rfl, h⟩, k, z, tt⟩ := e
  refine ⟨⟨new, rfl, fun b hb => ⟨(h b hb).1, ?_⟩⟩, fun b o hb n t => k b o (by rw [upd_ne (show b ≠ a from fun w => n (w ▸ ha))]; exact hb) n t, fun b o u' hb => z b o u' (by rw [upd_ne (show b ≠ a from fun w => nf o u' (w ▸ hb))]; exact hb), fun q => tt (tabs_upd nt q)⟩
  have nb : b ≠ a := fun w => (h b hb).1 (w ▸ ha)
  have := (h b hb).2
  rw [upd_ne nb] at this
  exact this
theorem Ext.set {a : Addr} {o : HO} {ρ' : List Addr} {H' : Hp} (ha : a ∈ ρ) (nf : ∀ o u, H a ≠ some (.frz o u)) (nt : NT (H' a)) (e : Ext K ρ H ρ' H') : Ext K ρ H ρ' (L2.upd H' a o) := by
  obtain ⟨p, k, z, tt⟩ := e
  refine ⟨p, fun b u hb n t => ?_, fun b o' u hb => ?_, fun q => tabs_upd nt (tt q)⟩
  · rw [upd_ne (show b ≠ a from fun w => n (w ▸ ha))]; exact k b u hb n t
  · rw [upd_ne (show b ≠ a from fun w => nf o' u (w ▸ hb))]; exact z b o' u hb
theorem SR.tr {ρ' : List Addr} {H' : Hp} {τ : Ta} {σ : L2.St} (e : Tr K ρ H ρ' H') (h : SR K ρ H τ σ) : SR K ρ' H' τ σ := ⟨h.1, fun i v q => by
  obtain ⟨x, a, b⟩ := h.2 i v q
  exact ⟨x, a, b.tr e⟩⟩
theorem j_lk {st : Stmt} {d : Sd} (de : Ed) (h : PS X st (tS X.K en W d)) : PS X st (tS X.K en W (dLk de d)) := (h.jor (ps_lock h)).jimp fun D σ H ⟨ρ, S, τ, hr, sr, h⟩ => by
  unfold dLk at h
  cases el : lkAt de en τ S with
  | none => rw [el] at h; exact .inl ⟨ρ, S, τ, hr, sr, h⟩
  | some n =>
    rw [el] at h
    obtain ⟨a, kvs, ys, q, eS, ha, r⟩ := lkAt_ok hr el
    have mem : a ∈ ρ := List.mem_of_getElem? q
    have nf : ∀ o u, H a ≠ some (.frz o u) := fun o u z => by rw [ha] at z; cases z
    refine .inr ⟨a, .dK ys, ha, True.intro, fun od => ?_⟩
    obtain ⟨h1, h2⟩ := hr_lock hr q eS ha r od
    refine ⟨ρ, setLk S n true, τ, h1, sr.ext h2, ?_⟩
    have fin : ∀ {ρ' H'}, Ext X.K ρ (upd H a (.frz od (.dK ys))) ρ' H' → ρ'[n]? = some a ∧ H' a = some (.frz od (.dK ys)) ∧ Ext X.K ρ H ρ' (upd H' a (.dK ys)) := fun e => ⟨e.at q, e.frz _ _ _ upd_same, (e.unlock mem nf (nt_dK ha)).set mem nf (nt_frz (e.frz _ _ _ upd_same))⟩
    revert h
    show PostS _ _ _ _ (unlk n (d en τ (setLk S n true))) _ → _
    cases d en τ (setLk S n true) with
    | nx τ1 S1 => exact fun h ρ' H' σ' a1 b1 c1 => let ⟨g1, g2, g3⟩ := fin b1; let ⟨k1, k2⟩ := hr_unlock a1 g1 g2; ⟨g2, h ρ' _ σ' k1 g3 (c1.tr k2)⟩
    | brk τ1 S1 => exact fun h ρ' H' σ' a1 b1 c1 => let ⟨g1, g2, g3⟩ := fin b1; let ⟨k1, k2⟩ := hr_unlock a1 g1 g2; ⟨g2, h ρ' _ σ' k1 g3 (c1.tr k2)⟩
    | cnt τ1 S1 => exact fun h ρ' H' σ' a1 b1 c1 => let ⟨g1, g2, g3⟩ := fin b1; let ⟨k1, k2⟩ := hr_unlock a1 g1 g2; ⟨g2, h ρ' _ σ' k1 g3 (c1.tr k2)⟩
    | ret v S1 => exact fun h ρ' H' x a1 b1 c1 => let ⟨g1, g2, g3⟩ := fin b1; let ⟨k1, k2⟩ := hr_unlock a1 g1 g2; ⟨g2, h ρ' _ x k1 g3 (c1.tr k2)⟩
    | exc x τ1 S1 => exact fun h ρ' H' σ' cls dx a1 b1 c1 d1 => h ρ' H' σ' cls dx a1 (b1.unlock mem nf (nt_dK ha)) c1 d1
    | bad => exact id
theorem s_lk {e : Expr} {d : Ed} (de : Ed) (h : PE X e (tE X.K en W d)) : PE X e (tE X.K en W (dLkE de d)) := (h.jor (pe_lock h)).jimp fun σ H Q ⟨ρ, S, τ, hr, sr, h⟩ => by
  unfold dLkE at h
  cases el : lkAt de en τ S with
  | none => rw [el] at h; exact .inl ⟨ρ, S, τ, hr, sr, h⟩
  | some n =>
    rw [el] at h
    obtain ⟨a, kvs, ys, q, eS, ha, r⟩ := lkAt_ok hr el
    have mem : a ∈ ρ := List.mem_of_getElem? q
    have nf : ∀ o u, H a ≠ some (.frz o u) := fun o u z => by rw [ha] at z; cases z
    refine .inr ⟨a, .dK ys, ha, True.intro, fun od => ?_⟩
    obtain ⟨h1, h2⟩ := hr_lock hr q eS ha r od
    refine ⟨ρ, setLk S n true, τ, h1, sr.ext h2, ?_⟩
    revert h
    show Post _ _ _ _ _ _ (unlkE n (d en τ (setLk S n true))) _ → _
    cases d en τ (setLk S n true) with
    | ok v S1 =>
      intro h ρ' H' x a1 b1 c1
      have g1 := b1.at q
      have g2 := b1.frz _ _ _ upd_same
      obtain ⟨k1, k2⟩ := hr_unlock a1 g1 g2
      exact ⟨g2, h ρ' _ x k1 ((b1.unlock mem nf (nt_dK ha)).set mem nf (nt_frz g2)) (VR.tr k2 c1)⟩
    | exc x S1 => exact fun h ρ' H' cls dx a1 b1 c1 => h ρ' H' cls dx a1 (b1.unlock mem nf (nt_dK ha)) c1
    | bad => exact id
end
end JF
set_option maxHeartbeats 1000000
/-! JI: calls of defs, of methods; new Roofs; raising. -/
namespace JF
open PySem PySem.Spec PyProof.Rows L2

def spF (K : PySem.W.Frag) (en : En) (j n : Nat) : Sp := fun vs H Q E => ∃ ρ S us, us.length = n ∧ HR K ρ H S ∧ VRs K ρ H us vs ∧ Post K (fun c d _ H => E c d H) [] ρ H (relV K) (en.fn j us S) Q
/-- the def named x that may be called -/
structure CalleeK (P : Program) (w : World) (K : PySem.W.Frag) (mg : Str → Option Value) (base : Heap) (k : Nat) (en : En) (j n : Nat) (x : Str) : Prop where
  ex : ∃ f fd ps, FnOk P w K mg base (L2N.CX P w) k f fd ps (spF K en j n) ∧ L2.Binds K fd ps [] ∧ mg x = some (.ref f) ∧ PySem.W.keepIn K (.ref f) = true
abbrev Callee (X : Cx) (k : Nat) (en : En) (j n : Nat) (x : Str) : Prop := CalleeK X.prog X.w X.K X.mg X.base k en j n x
/-- Roof's method m -/
structure CalleeMK (P : Program) (w : World) (K : PySem.W.Frag) (mg : Str → Option Value) (base : Heap) (k : Nat) (en : En) (j n : Nat) (m : Str) : Prop where
  ex : ∃ f fd ps, FnOk P w K mg base (L2N.CX P w) k f fd ps (spF K en j n) ∧ L2.Binds K fd ps [] ∧ Meth K (He.ga K "Roof") m f
  cl : Cls K (He.ga K "Roof")
abbrev CalleeM (X : Cx) (k : Nat) (en : En) (j n : Nat) (m : Str) : Prop := CalleeMK X.prog X.w X.K X.mg X.base k en j n m
/-- Roof -/
structure CalleeCK (P : Program) (w : World) (K : PySem.W.Frag) (mg : Str → Option Value) (base : Heap) (k : Nat) (en : En) (j : Nat) : Prop where
  ex : ∃ f fd ps, FnOk P w K mg base (L2N.CX P w) k f fd ps (spF K en j 1) ∧ L2.Binds K fd ps [] ∧ Mk K (He.ga K "Roof") f
  gl : mg "Roof" = some (.ref (He.ga K "Roof"))
abbrev CalleeC (X : Cx) (k : Nat) (en : En) (j : Nat) : Prop := CalleeCK X.prog X.w X.K X.mg X.base k en j
def Flat (W : WX) : Prop := ∀ cls d σ σ' H, W cls d σ H → W cls d σ' H

def dFn (j n : Nat) (ds : Ad) : Ed := fun en τ S => (ds en τ S).bind fun us S1 => if us.length = n then en.fn j us S1 else .bad
def rcv (m : Str) (S : SH) : IV → Option Nat
  | .ref r => match S[r]? with
    | some ⟨.ins fs, false⟩ => if (fs.lookup m).isNone = true then some r else none
    | _ => none
  | _ => none
def dMe (j n : Nat) (m : Str) (o : Ed) (ds : Ad) : Ed := fun en τ S => (o en τ S).bind fun u S1 => match rcv m S1 u with
  | some r => (ds en τ S1).bind fun us S2 => if us.length + 1 = n then en.fn j (.ref r :: us) S2 else .bad
  | none => .bad
def dMk0 (j : Nat) : Ed := fun en τ S => (en.fn j [.ref S.length] (S ++ [⟨.ins [], false⟩])).bind fun u S1 => match u with
  | .non => .ok (.ref S.length) S1
  | _ => .bad
def dRaise (c : Str) : Sd := fun _ τ S => .exc ⟨c, none⟩ τ S
section
variable {X : Cx} {K : PySem.W.Frag} {ρ : List Addr} {H : Hp} {S : SH} {en : En} {W : WX} {pos p apos : Pos} {k j n : Nat} {x m : Str} {e o : Expr} {es : List Expr} {ds : Ad} {dob : Ed}
theorem s_fn (c : Callee X k en j n x) (hr : Room k X.A) (tk : L2N.Takes X W) (hg : Gl X x) (ha : PA X (e :: es) (tA X.K en W ds)) (hs : (e :: es).all notStar = true) (hdb : (x == ("__debug__" : Str)) = false) :
    PE X (.Call (.Name x p) (e :: es) [] pos) (tE X.K en W (dFn j n ds)) := by
  obtain ⟨f, fd, ps, F, hb, hm, hk⟩ := c.ex
  have h2 := Bool.and_eq_true_iff.mp (show (notStar e && es.all notStar) = true from hs)
  refine (pe_callS F hr hg hm hk hb (fun σ => L2N.passAt tk σ) ha hdb (star_cons h2.1) (star_any h2.2)).jimp fun σ H Q ⟨ρ, S, τ, hr, sr, h⟩ => ⟨ρ, S, τ, hr, sr, ?_⟩
  refine Post.seq h fun ρ1 H1 S1 us xs hr1 e1 r1 h1 => ?_
  by_cases hl : us.length = n
  · rw [if_pos hl] at h1
    exact ⟨ρ1, S1, us, hl, hr1, r1, h1⟩
  · rw [if_neg hl] at h1
    exact h1.elim
theorem s_fn0 (c : Callee X k en j 0 x) (hr : Room k X.A) (tk : L2N.Takes X W) (fl : Flat W) (hg : Gl X x) (hdb : (x == ("__debug__" : Str)) = false) :
    PE X (.Call (.Name x p) [] [] pos) (tE X.K en W (dFn j 0 dNil)) := by
  obtain ⟨f, fd, ps, F, hb, hm, hk⟩ := c.ex
  refine (pe_call0 F hr hg hm hk hb .nil (L2N.passes_call (E := fun c d H => W c d [] H) tk fun c d σ H h => fl c d _ _ H h) hdb).jimp fun σ H Q ⟨ρ, S, τ, hr, sr, h⟩ => ?_
  refine ⟨ρ, S, [], rfl, hr, by simp only [VRs]; rfl, ?_⟩
  have h : Post X.K W σ ρ H (relV X.K) (en.fn j [] S) Q := h
  revert h
  cases en.fn j [] S with
  | ok v S1 => exact id
  | exc ex S1 => exact fun h ρ' H' cls d a b c => fl _ _ _ _ _ (h ρ' H' cls d a b c)
  | bad => exact id
theorem vrk_none {fs : List (Str × IV)} {ys : List (Str × V)} (r : VRk K ρ H fs ys) (h : fs.lookup m = none) : ys.lookup m = none := by
  induction fs generalizing ys with
  | nil =>
    simp only [VRk] at r
    rw [r]; rfl
  | cons p fs ih =>
    simp only [VRk] at r
    obtain ⟨g, w⟩ := p
    obtain ⟨v, ys', rfl, _, r2⟩ := r
    simp only [List.lookup] at h ⊢
    split at h
    · cases h
    · exact ih r2 h
theorem rcv_at {u : IV} {y : V} {r : Nat} (hr : HR K ρ H S) (ru : VR K ρ H u y) (e : rcv m S u = some r) : u = .ref r ∧ ∃ a dx ys, y = .ref a ∧ H a = some (.ins (He.ga K "Roof") dx ys) ∧ ys.lookup m = none := by
  unfold rcv at e
  split at e
  · rename_i q
    split at e
    · rename_i fs eS
      split at e
      · rename_i hl
        cases e
        simp only [VR] at ru
        obtain ⟨a, q, rfl⟩ := ru
        have h := hr.cell _ _ a eS q
        simp only [OR] at h
        obtain ⟨dx, ys, g1, g2⟩ := h
        exact ⟨rfl, a, dx, ys, rfl, g1, vrk_none g2 (Option.isNone_iff_eq_none.mp hl)⟩
      · cases e
    · cases e
  · cases e
theorem flat_post {σ : L2.St} {r : R IV} {Q : VK} (fl : Flat W) (h : Post K W σ ρ H (relV K) r Q) : Post K (fun c d _ H => W c d [] H) [] ρ H (relV K) r Q := by
  cases r with
  | ok v S1 => exact h
  | exc ex S1 => exact fun ρ' H' cls d a b c => fl _ _ _ _ _ (h ρ' H' cls d a b c)
  | bad => exact h
theorem s_me {pl : Sem Bool} (c : CalleeM X k en j n m) (hr : Room k X.A) (tk : L2N.Takes X W) (fl : Flat W) (ho : PE X o (tE X.K en W dob)) (ha : PA X (e :: es) (tA X.K en W ds)) (hs : (e :: es).all notStar = true)
    (ht : eval (.Call (.Attribute o m apos) (e :: es) [] pos) X.env = (do
      let ov ← eval o X.env
      standAt apos.atName
      let (f, first) ← holding [ov] (getMethod ov m pl)
      callWith pos f first (backTo pos (starEach (e :: es) X.env)) (backToKw pos (keywordEach [] X.env)))) :
    PE X (.Call (.Attribute o m apos) (e :: es) [] pos) (tE X.K en W (dMe j n m dob ds)) := by
  obtain ⟨f, fd, ps, F, hb, hm⟩ := c.ex
  have h2 := Bool.and_eq_true_iff.mp (show (notStar e && es.all notStar) = true from hs)
  refine (pe_meth ho c.cl hm F hr hb .nil (L2N.passes_call (E := fun c d H => W c d [] H) tk fun c d σ H h => fl c d _ _ H h) ha (star_cons h2.1) (star_any h2.2) ht).jimp fun σ H Q ⟨ρ, S, τ, hr, sr, h⟩ => ⟨ρ, S, τ, hr, sr, ?_⟩
  refine Post.seq h fun ρ1 H1 S1 u y hr1 e1 r1 h1 => ?_
  cases er : rcv m S1 u with
  | none => rw [er] at h1; exact h1.elim
  | some r =>
    rw [er] at h1
    obtain ⟨rfl, a, dx, ys, rfl, ea, l⟩ := rcv_at hr1 r1 er
    refine ⟨a, dx, ys, rfl, ea, l, ρ1, S1, τ, hr1, sr.ext e1, ?_⟩
    refine Post.seq h1 fun ρ2 H2 S2 us xs hr2 e2 r2 h2 => ?_
    by_cases hl : us.length + 1 = n
    · rw [if_pos hl] at h2
      refine ⟨ρ2, S2, .ref r :: us, by simpa using hl, hr2, ?_, flat_post fl h2⟩
      simp only [VRs, List.append_nil]
      exact ⟨_, _, rfl, VR.ext e2 r1, r2⟩
    · rw [if_neg hl] at h2
      exact h2.elim
theorem s_me0 {pl : Sem Bool} (c : CalleeM X k en j n m) (hr : Room k X.A) (tk : L2N.Takes X W) (fl : Flat W) (ho : PE X o (tE X.K en W dob))
    (ht : eval (.Call (.Attribute o m apos) [] [] pos) X.env = (do
      let ov ← eval o X.env
      standAt apos.atName
      let (f, first) ← holding [ov] (getMethod ov m pl)
      callWith pos f first (backTo pos (starEach [] X.env)) (backToKw pos (keywordEach [] X.env)))) :
    PE X (.Call (.Attribute o m apos) [] [] pos) (tE X.K en W (dMe j n m dob dNil)) := by
  obtain ⟨f, fd, ps, F, hb, hm⟩ := c.ex
  refine (pe_meth0 ho c.cl hm F hr hb .nil (L2N.passes_call (E := fun c d H => W c d [] H) tk fun c d σ H h => fl c d _ _ H h) ht).jimp fun σ H Q ⟨ρ, S, τ, hr, sr, h⟩ => ⟨ρ, S, τ, hr, sr, ?_⟩
  refine Post.seq h fun ρ1 H1 S1 u y hr1 e1 r1 h1 => ?_
  cases er : rcv m S1 u with
  | none => rw [er] at h1; exact h1.elim
  | some r =>
    rw [er] at h1
    obtain ⟨rfl, a, dx, ys, rfl, ea, l⟩ := rcv_at hr1 r1 er
    refine ⟨a, dx, ys, rfl, ea, l, ?_⟩
    have h1 : Post X.K W σ ρ1 H1 (relV X.K) (if ([] : List IV).length + 1 = n then en.fn j (.ref r :: []) S1 else .bad) Q := h1
    by_cases hl : ([] : List IV).length + 1 = n
    · rw [if_pos hl] at h1
      refine ⟨ρ1, S1, [.ref r], by simpa using hl, hr1, ?_, flat_post fl h1⟩
      simp only [VRs, List.append_nil]
      exact ⟨_, _, rfl, r1, rfl⟩
    · rw [if_neg hl] at h1
      exact h1.elim
theorem s_mk0 (c : CalleeC X k en j) (hr : Room (k + 1) X.A) (tk : L2N.Takes X W) (fl : Flat W) (hg : Gl X "Roof") : PE X (.Call (.Name "Roof" p) [] [] pos) (tE X.K en W (dMk0 j)) := by
  obtain ⟨f, fd, ps, F, hb, hm⟩ := c.ex
  refine (pe_make0 hm F hr hg c.gl hb .nil (L2N.passes_call (E := fun c d H => W c d [] H) tk fun c d σ H h => fl c d _ _ H h)).jimp fun σ H Q ⟨ρ, S, τ, hr, sr, h⟩ => fun x dx hx hdx ne => ?_
  obtain ⟨hr1, e1⟩ := hr.inl hdx (.own x)
  have hx1 : (upd H dx (.own x)) x = none := by rw [upd_ne ne.symm]; exact hx
  obtain ⟨hr2, e2⟩ := hr1.new hx1 (.ins (He.ga X.K "Roof") dx []) ⟨.ins [], false⟩ (by
    simp only [OR]
    exact ⟨dx, [], upd_same, by simp only [VRk]⟩)
  have hn : (ρ ++ [x])[S.length]? = some x := by rw [hr.len, List.getElem?_append_right (Nat.le_refl _)]; simp
  refine ⟨_, S ++ [⟨.ins [], false⟩], [.ref S.length], rfl, hr2, ?_, ?_⟩
  · simp only [VRs, VR, List.append_nil]
    exact ⟨_, _, rfl, ⟨x, hn, rfl⟩, rfl⟩
  · have h := flat_post fl (Post.at (e1.trans e2) h)
    revert h
    show Post _ _ _ _ _ _ ((en.fn j [.ref S.length] (S ++ [⟨.ins [], false⟩])).bind _) _ → _
    cases en.fn j [.ref S.length] (S ++ [⟨.ins [], false⟩]) with
    | ok v S1 =>
      intro h ρ' H' y a b r
      cases v with
      | non =>
        simp only [relV, VR] at r
        refine ⟨r, h ρ' H' (.ref x) a b ?_⟩
        simp only [relV, VR]
        exact ⟨x, b.at hn, rfl⟩
      | _ => exact h.elim
    | exc ex S1 => exact id
    | bad => exact id
theorem j_raise {C : Str} {msg : Str} {i : Nat} {p2 p3 : Pos} (hc : X.calm = true) (tk : L2N.Takes X W) (q : PySem.W.excIn X.K (He.ga X.K C) He.veBase "ValueError.__new__" = true ∧ PySem.W.keepIn X.K (.ref (He.ga X.K C)) = true ∧ PySem.W.subIn X.K (.ref (He.ga X.K C)) (.type "BaseException") = some true ∧ PySem.W.typeIn X.K (.ref (He.ga X.K C)) = some (.type "type"))
    (gC : X.mg C = some (.ref (He.ga X.K C))) (hg : Gl X C) (hdb : (C == ("__debug__" : Str)) = false) : PS X (.Raise (some (.Call (.Name C p) [.Constant (.str msg) i p2] [] p3)) none pos) (tS X.K en W (dRaise C)) := by
  refine (L2N.ps_raise hc tk (L2N.pmk_own PySem.F.excBase_ValueError q.1 gC q.2.1 (raises_own q.2.2.1 q.2.2.2) hg hdb)).jimp fun D σ H ⟨ρ, S, τ, hr, sr, h⟩ => ?_
  exact h ρ H σ _ none hr (Ext.refl _ _) sr ⟨rfl, rfl⟩
end
/-! ### the table of defs -/
/-- a def's body run: us its arguments, l how many names it has -/
def runF (b : Sd) (l : Nat) (en : En) (us : List IV) (S : SH) : R IV := match b en (us.map some ++ List.replicate (l - us.length) none) S with
  | .nx _ S => .ok .non S
  | .ret v S => .ok v S
  | .exc e _ S => .exc e S
  | _ => .bad
structure FD where
  n : Nat
  l : Nat
  b : Sd
def enAt (fs : List FD) (fuel : Nat) : Nat → En
  | 0 => ⟨fun _ _ _ => .bad, fuel⟩
  | k + 1 => ⟨fun j us S => match fs[j]? with
    | some f => if us.length = f.n then runF f.b f.l (enAt fs fuel k) us S else .bad
    | none => .bad, fuel⟩
section
variable {P : Program} {w : World} {K : PySem.W.Frag} {mg : Str → Option Value} {base : Heap} {en : En}
theorem sr_start {ρ : List Addr} {H : Hp} {us : List IV} {vs : List V} {N : List Str} (r : VRs K ρ H us vs) : SR K ρ H (us.map some ++ List.replicate (N.length - us.length) none) (L2.start N vs) := by
  have hl := r.length
  refine ⟨?_, fun i v e => ?_⟩
  · unfold L2.start
    simp [hl]
  · by_cases h : i < us.length
    · rw [List.getElem?_append_left (by simpa using h), List.getElem?_map] at e
      cases q : us[i]? with
      | none => rw [q] at e; cases e
      | some u =>
        rw [q] at e
        cases e
        obtain ⟨x, q1, q2⟩ := r.get q
        refine ⟨x, ?_, q2⟩
        unfold L2.start
        rw [List.getElem?_append_left (by simp; rw [← hl]; exact h), List.getElem?_map, q1]
        rfl
    · rw [List.getElem?_append_right (by simpa using h), List.getElem?_replicate] at e
      split at e
      · cases e
      · cases e
/-- a def's promise from its body -/
theorem fn_body {x qual : Str} {params : Arguments} {body : List Stmt} {scope : Scope} {dvs : List V} {kws : List (Str × V)} {f : Addr} {fd : FuncData} {N ps : List Str} {k j n : Nat} {b : Sd} {en1 : En} (F : FunD K x qual params body scope dvs kws f fd) (S : FnScope N ps scope) (hn : ps.length = n)
    (he : ∀ us S, en1.fn j us S = if us.length = n then runF b N.length en us S else .bad)
    (hb : ∀ (cdv : Value) (A : Around) (outer : List Env) (s : Shared) (H : Hp) (E : XK), Room k (A.deeper (envOfC qual scope s.heap.objs.size f cdv)) → PSs (cxOf (L2N.CX P w) P w K mg base N qual scope f cdv A outer s H E) body (tS K en (fun c d _ H => E c d H) b)) :
    FnOk P w K mg base (L2N.CX P w) (k + 1) f fd ps (spF K en1 j n) := by
  refine F.ok S (fun vs H Q E ⟨ρ, S, us, hl, _, r, _⟩ => by rw [← r.length, hl, hn]) fun cdv A outer s H vs Q E hr ⟨ρ, S, us, hl, h1, r, h⟩ => ⟨_, hb cdv A outer s H E hr, ρ, S, _, h1, sr_start r, ?_⟩
  rw [he us S, if_pos hl] at h
  unfold runF at h
  revert h
  generalize b en (us.map some ++ List.replicate (N.length - us.length) none) S = z
  cases z with
  | nx τ S1 => exact fun h ρ' H' σ' a b c => h ρ' H' .non a b vr_non
  | ret v S1 => exact fun h ρ' H' x a b c => h ρ' H' x a b c
  | exc e τ S1 => exact fun h ρ' H' σ' cls d a b c dd => h ρ' H' cls d a b dd
  | brk _ _ => exact False.elim
  | cnt _ _ => exact False.elim
  | bad => exact False.elim
end
end JF
set_option maxHeartbeats 1000000
/-! JW: a list walked while an exception is handled: its end, sum, a comprehension of int(x). -/
namespace JF
open PySem PySem.Spec PyProof.Rows L2 HotX

section
variable {prog : Program} {w : World} {A : Around}
theorem nextEndH {E : Value → Shared → Prop} {s : Shared} {it l x1 : Addr} {i : Nat} {items : Array Value} {Q : Option Value → Shared → Prop} (hot : HotAt A x1 s.heap) (nx : x1 ≠ it) (hit : s.heap.IsListIter it l i) (hl : s.heap.IsList l items) (hx : items[i]? = none)
    (hQ : ∀ h', (∀ b o, b ≠ it → s.heap.get? b = some o → h'.get? b = some o) → Q none { s with heap := h' }) : wpAny (model prog w) A (pyNext (.ref it)) Q E s := by
  obtain ⟨oi, gi, ci, di⟩ := id hit
  obtain ⟨ol, gl, cl, nl, dl⟩ := hl
  obtain ⟨hh, o1, vs1, g1, d1, c1⟩ := hot
  unfold pyNext
  refine wpAny_bind (wpAny_attempt (wpAny_callSpecial?_slot (name := Str.ofString "__next__") hit.typeIs slot_listiter_next (wpAny_call_entry slot_listiter_next hit.typeIs entry_listiter_next ?walk (args_listiter_next _))))
  show wpAny _ _ (field (.ref it) 0 >>= _) _ _ s; refine wpAny_bind (wpAny_field gi di (x := .ref l) rfl ?_)
  show wpAny _ _ (if (Value.ref l == Value.none) = true then _ else _) _ _ s; rw [if_neg (show ¬ ((Value.ref l == Value.none) = true) from Bool.false_ne_true)]
  show wpAny _ _ (field (.ref it) 1 >>= _) _ _ s; refine wpAny_bind (wpAny_field gi di (x := .int i 0) rfl ?_)
  show wpAny _ _ (seqItems? (.ref l) >>= _) _ _ s; refine wpAny_bind (wpAny_seqItems gl dl ?_)
  simp only [Int.toNat_natCast, hx]; refine wpAny_bind (wpAny_rule (wpAny_bind (wpAny_setField gi di (by simp) ?_)))
  show wpAny _ _ (newExc (.type "StopIteration") [] >>= _) _ _ _; refine wpAny_bind ?_
  simp only [newExc, newTuple]; refine wpAny_bind (wpAny_newObj_type ?_ (by size_fits))
  refine wpAny_bind (m := firstArgMember _ _) (wpAny_of_eq (a := Value.none) (by first | rfl | (simp only [firstArgMember]; rfl)) ?_)
  refine wpAny_newObj_type ?_ (by size_fits)
  have g1' := (Heap.get?_update_other s.heap (Obj.mapFields (·.setIfInBounds 0 Value.none)) (Ne.symm nx)).trans g1
  refine raiseNew_hot ⟨hh, o1, vs1, Heap.get?_push_of_some _ (Heap.get?_push_of_some _ g1'), d1, c1⟩ (Nat.ne_of_lt (Heap.lt_size (Heap.get?_push_of_some _ g1'))) (Heap.get?_push_size _ rfl) rfl (by first | (simp; done) | (simp; omega) | (simp only [Array.size_append]; simp; omega)) ?_
  refine wpAny_bind (wpAny_isInstance (T := "StopIteration") (b := true) ⟨_, Heap.get?_update_self _ (Heap.get?_push_size _ rfl) rfl, rfl⟩ isSubtype_stop ?_)
  refine wpAny_pure (hQ _ fun b o nb e => ?_)
  have e' := (Heap.get?_update_other s.heap (Obj.mapFields (·.setIfInBounds 0 Value.none)) (Ne.symm nb)).trans e
  rw [Heap.get?_update_other _ _ (Nat.ne_of_gt (Heap.lt_size (Heap.get?_push_of_some _ e')))]
  exact Heap.get?_push_of_some _ (Heap.get?_push_of_some _ e')
theorem hotAt_keep {x1 : Addr} {h h' : Heap} (hot : HotAt A x1 h) (k : ∀ o, h.get? x1 = some o → h'.get? x1 = some o) : HotAt A x1 h' := by
  obtain ⟨hh, o, vs, g, d, c⟩ := hot
  exact ⟨hh, o, vs, k o g, d, c⟩
theorem walkH {I l x1 : Addr} (nl : l ≠ I) (nx : x1 ≠ I) (items : Array Value) : Walks prog w A I [I, l, x1] [I] items.size (fun i v => items[i]? = some v) (fun i h => h.IsListIter I l i ∧ h.IsList l items ∧ HotAt A x1 h) where
  sub := fun b hb => by simp at hb; simp [hb]
  frame := fun i h h' st k => ⟨st.1.at fun o e => k I (by simp) o e, st.2.1.at fun o e => k l (by simp) o e, hotAt_keep st.2.2 fun o e => k x1 (by simp) o e⟩
  item := fun i s Q E hi st hQ => wpAny_pyNext_list_item st.1 st.2.1 (x := items[i]) (by simp [hi]) fun h' hit' hs' => hQ _ h' s.toks (by simp [hi]) ⟨hit', st.2.1.extBut hs'.extBut nl, hotAt_keep st.2.2 fun o e => hs'.extBut x1 o nx e⟩
    fun b o hb e => hs'.extBut b o (fun h => hb (by simp [h])) e
  done := fun s Q E st hQ => nextEndH st.2.2 nx st.1 st.2.1 (by simp) fun h' he' => hQ h' s.toks fun b o hb e => he' b o (fun h => hb (by simp [h])) e
  self := fun _ _ _ _ st hQ => wpAny_pyIter_listiter st.1 hQ
end
/-- a new list that nobody knew -/
theorem laid_none {X : Cx} {pins : List (Addr × Obj)} {σ : L2.St} {H : Hp} {s : Shared} {h' : Heap} {D : Addr} {xs : List V} {its : List Value} {n t' : Nat} (I : Inv X pins σ H s) (k : ∀ b u, s.heap.get? b = some u → h'.get? b = some u) (hp : s.heap.get? D = none)
    (hl : xs.length ≤ sizeLine) (r : Vals xs its) (e : h'.get? D = some { cls := .type "list", data := .seq its.toArray n }) : H D = none ∧ Inv X pins σ (upd H D (.lst xs)) { s with heap := h', toks := t' } := by
  have hn : H D = none := I.hok.gone hp
  have ne : ∀ {b u}, s.heap.get? b = some u → b ≠ D := fun {b u} q z => by rw [z, hp] at q; cases q
  refine ⟨hn, I.un { keep := fun b u q _ _ _ => k b u q, slot := fun b u q _ _ _ => ⟨u.slots, k b u q⟩, free := fun b u q n _ => by rw [upd_ne (ne q)]; exact n, there := fun b u q _ => ⟨u, k b u q⟩, tups := fun b xs q => by rw [upd_ne (ne_of_none q hn)]; exact q
                     frzs := fun b u xs q => by rw [upd_ne (ne_of_none q hn)]; exact q, tbls := fun b ps q => ⟨#[], by rw [upd_ne (ne_of_none q hn), q]; simp⟩ } fun b u q => ?_⟩
  by_cases hb : b = D
  · subst hb
    rw [upd_same] at q
    cases q
    exact ⟨hl, its, n, r, e⟩
  · rw [upd_ne hb] at q
    exact (I.hok b u q).stay (fun c v _ q => k c v q) (fun c q => by rw [upd_ne (ne_of_none q hn)]; exact q) fun c xs q => by rw [upd_ne (ne_of_none q hn)]; exact q
section
variable {X : Cx}
theorem preSum_sum (ns : List Int) : ∀ j, preSum (fun i => ns.getD i 0) j = (ns.take j).sum
  | 0 => by simp [preSum]
  | j + 1 => by
    rw [preSum, preSum_sum ns j]
    by_cases h : j < ns.length
    · rw [List.take_add_one, List.getElem?_eq_getElem h, List.sum_append]
      simp [List.getD, List.getElem?_eq_getElem h]
    · have h' : ns.length ≤ j := Nat.le_of_not_lt h
      rw [List.take_of_length_le h', List.take_of_length_le (Nat.le_succ_of_le h')]
      simp [List.getD, List.getElem?_eq_none h']
theorem sumH (hc : L2H.HotC X) : CallR X (.builtin "sum") (rSum X.K) := by
  intro pins s σ H vs us Q I r h
  obtain ⟨a, ns, rfl, hs, q⟩ := h
  obtain ⟨its, rv, hl, _⟩ := I.list hs
  rw [Vals.ref1 r]
  obtain ⟨x1, hot⟩ := hc.at I
  have hl := hl.isList
  have hlt : a < s.heap.objs.size := by obtain ⟨_, e, _⟩ := hl; exact Heap.lt_size e
  have hx : x1 < s.heap.objs.size := by obtain ⟨_, _, _, e, _⟩ := hot; exact Heap.lt_size e
  refine call_sum_walkG (wpAny_pyIter_list hl ⟨_, _, _, _, _, _, fun i => ns.getD i 0, rfl, walkH (x1 := x1) (l := a) (Nat.ne_of_lt hlt) (Nat.ne_of_lt hx) its.toArray, ⟨⟨_, Heap.get?_push_size _ rfl, rfl, rfl⟩, hl.push _, hotAt_keep hot fun o e => Heap.get?_push_of_some _ e⟩, fun b hb => ?_, fun i v e => ?_, fun h' tk t' k => ?_⟩)
  · show b < (s.heap.push _).objs.size
    rw [Heap.size_push]
    simp only [List.mem_cons, List.not_mem_nil, or_false] at hb
    rcases hb with e | e | e
    · rw [e]; exact Nat.lt_succ_self _
    · rw [e]; exact Nat.lt_succ_of_lt hlt
    · rw [e]; exact Nat.lt_succ_of_lt hx
  · exact rv.ints.int_at i v (by simpa using e)
  · have e2 : its.toArray.size = ns.length := by rw [List.size_toArray]; exact rv.ints.length
    refine ⟨.int ns.sum, H, ?_, ⟨t', ?_⟩, q⟩
    · exact I.kept (s := s) (t' := tk) fun b o e => k b o (by simp; exact Nat.ne_of_lt (Heap.lt_size e)) (Heap.get?_push_of_some _ e)
    · rw [e2, preSum_sum, List.take_of_length_le (Nat.le_refl _)]
theorem bl_at {bs : List Bool} {its : List Value} (r : Vals (bs.map V.bl) its) {i : Nat} {v : Value} (e : its[i]? = some v) : ∃ b, bs[i]? = some b ∧ v = .bool b := by
  have hl := r.length
  rw [List.length_map] at hl
  have h : i < bs.length := by rw [hl]; exact (List.getElem?_eq_some_iff.mp e).1
  obtain ⟨u, hu, ru⟩ := r.get (i := i) (by rw [List.getElem?_map, List.getElem?_eq_getElem h]; rfl)
  rw [e] at hu
  cases hu
  exact ⟨bs[i], List.getElem?_eq_getElem h, ru⟩
theorem ints_ofW {bs : List Bool} : ∀ {its ys : List Value}, Vals (bs.map V.bl) its → Paired (fun v y => ∀ b, v = Value.bool b → ∃ t, y = Value.int (if b = true then 1 else 0) t) its ys → Vals (bs.map fun b => V.int (if b = true then 1 else 0)) ys := by
  induction bs with
  | nil => intro its ys r q; cases r; cases q; exact .nil
  | cons b bs ih =>
    intro its ys r q
    cases r with
    | cons r1 r2 =>
      cases q with
      | cons q1 q2 => exact .cons (q1 b r1) (ih r2 q2)
/-- [int(x) for x in ..] of truths -/
theorem lcIntH {x : Str} {px p1 p2 p3 pos : Pos} {iter : Expr} {scope : Scope} {ti : TE} (hc : L2H.HotC X) (hi : PE X iter ti) (hk : scope.kind = .function) (hcell : ∀ y ∈ scope.names, y.2 ≠ .cell) (hfree : ∀ y ∈ scope.names, y.2 ≠ .free)
    (hn : ∀ y ∈ scope.names, y.2 = .local → scope.names.lookup y.1 = some .local) (hlx : scope.names.lookup x = some .local) (hkx : ∀ cl C, (compEnvC scope cl C X.env).kindOf x = some .local) (hki : ∀ cl C, (compEnvC scope cl C X.env).kindOf "int" = some .globalImplicit)
    (hkf : ∀ cl C, (compEnvC scope cl C X.env).scope.kind = .function) (hm : X.mg "int" = none) (hd : (x == ("__debug__" : Str)) = false) (hs : ∀ x, foldedSetIterable iter X.env x = pure x) :
    PE X (.ListComp (.Call (.Name "int" p1) [.Name x p2] [] p3) [⟨.Name x px, iter, [], 0⟩] scope pos) (fun σ H Q => ti σ H fun v H1 => ∃ (a : Addr) (bs : List Bool), v = .ref a ∧ SqL X.K H1 a (bs.map V.bl) ∧ ∀ D, H1 D = none → Q (.ref D) (upd H1 D (.lst (bs.map fun b => V.int (if b = true then 1 else 0))))) := by
  refine ⟨fun pins s σ H Q I h => ?_⟩
  refine wpAny_ListComp_free (fun _ => true) (fun v y => ∀ b, v = Value.bool b → ∃ t, y = Value.int (if b = true then 1 else 0) t) (closure_ok fun y hy e => absurd e (hfree y hy)) hcell hk hn hlx (thn (hi.run pins s σ H _ I h) fun u s1 ⟨v, H1, I1, r1, a, bs, ev, hsq, q⟩ => ?_) hs
  subst ev
  obtain rfl : u = Value.ref a := r1
  obtain ⟨its, rv, hl, hz⟩ := I1.list hsq
  have hl := hl.isList
  obtain ⟨x1, hot⟩ := hc.at I1
  have hlt : a < s1.heap.objs.size := by obtain ⟨_, e, _⟩ := hl; exact Heap.lt_size e
  have hx : x1 < s1.heap.objs.size := by obtain ⟨_, _, _, e, _⟩ := hot; exact Heap.lt_size e
  have hlen : its.length = bs.length := by rw [← rv.length, List.length_map]
  have pushed : ∀ b o, s1.heap.get? b = some o → (s1.heap.push { cls := .type "list_iterator", data := .fields #[.ref a, .int 0 0] }).get? b = some o := fun b o e => Heap.get?_push_of_some _ e
  refine wpAny_pyIter_list hl ⟨_, _, _, _, _, _, rfl, walkH (x1 := x1) (l := a) (Nat.ne_of_lt hlt) (Nat.ne_of_lt hx) its.toArray, ?_, ⟨⟨_, Heap.get?_push_size _ rfl, rfl, rfl⟩, hl.push _, hotAt_keep hot fun o e => pushed _ o e⟩, fun b hb => ?_, ?_, fun D h' tk ys vs hD hlD hpl hlv hP hF k => ?_⟩
  · rw [List.size_toArray, hlen]
    rw [List.length_map] at hz
    exact hz
  · show b < (s1.heap.push _).objs.size
    rw [Heap.size_push]
    simp only [List.mem_cons, List.not_mem_nil, or_false] at hb
    rcases hb with e | e | e
    · rw [e]; exact Nat.lt_succ_self _
    · rw [e]; exact Nat.lt_succ_of_lt hlt
    · rw [e]; exact Nat.lt_succ_of_lt hx
  · refine ⟨fun C i v s3 m3 E' _ _ _ _ _ _ => ?_, fun C i v s3 m3 E' hC hP _ hns hmx k htk => ?_⟩
    · exact wpAny_pure ⟨rfl, s3.heap, s3.toks, rfl, fun _ _ e => e⟩
    · obtain ⟨b, _, rfl⟩ := bl_at rv (i := i) (v := v) (by simpa using hP)
      have k1 : ∀ b o, s1.heap.get? b = some o → s3.heap.get? b = some o := fun b o e => k b o (by simp; exact Nat.ne_of_lt (Heap.lt_size e)) (pushed b o e)
      obtain ⟨mb, h1, h2⟩ := I1.mod.blt
      refine Call_ (Calls.Name_function_global (hkf _ C) (hki _ C) (Calls.loadGlobal_builtin (mb := mb) (v := .type "int") (by show s3.heap.Ns X.env.globals _; rw [I1.ok.glob]; exact (I1.mod.glob.keeps I1.bk).at' fun o e => k1 _ o e) hm
        (by show s3.heap.Ns X.env.builtins _; rw [I1.ok.blt]; exact (h1.keeps I1.bk).at' fun o e => k1 _ o e) ((h2 "int" (by decide)).trans PyProof.Rows.Boot.«int») ?_))
      refine PyProof.Rows.callWith_type1 (Calls.spliced_cons (wpAny_Name (wpAny_loadName_local (hkf _ C) (hkx _ C) hns hmx (Calls.spliced_nil (call_int_bool ⟨fun b' e => ?_, s3.heap, s3.toks + 1, rfl, fun _ _ e => e⟩))) hd)) rfl rfl
      cases e
      exact ⟨_, rfl⟩
  · have evs : vs.filter (fun _ => true) = its := by
      rw [List.filter_eq_self.mpr fun _ _ => rfl]
      refine List.ext_getElem? fun j => ?_
      by_cases hj : j < vs.length
      · have := hP j vs[j] (List.getElem?_eq_getElem hj)
        rw [List.getElem?_eq_getElem hj]
        simpa using this.symm
      · have hj' : vs.length ≤ j := Nat.le_of_not_lt hj
        rw [List.getElem?_eq_none hj', List.getElem?_eq_none (by rw [hlv, List.size_toArray] at hj'; exact hj')]
    rw [evs] at hF
    obtain ⟨n, eD⟩ := hpl
    have k1 : ∀ b o, s1.heap.get? b = some o → h'.get? b = some o := fun b o e => k b o (by simp; exact Nat.ne_of_lt (Heap.lt_size e)) (pushed b o e)
    have nD : s1.heap.get? D = none := by
      cases e : s1.heap.get? D with
      | none => rfl
      | some o => rw [pushed D o e] at hD; cases hD
    obtain ⟨hn, I2⟩ := laid_none (t' := tk) (its := ys.toList) (n := n) (xs := bs.map fun b => V.int (if b = true then 1 else 0)) I1 k1 nD (by rw [List.length_map]; rw [List.length_map] at hz; exact hz) (ints_ofW rv hF) (by rw [eD])
    exact ⟨.ref D, _, I2, rfl, q D hn⟩
end
end JF
set_option maxHeartbeats 2000000
/-! JX: the exceptions' classes: facts of the top; isinstance of the exception that is handled. -/
namespace JF
open PySem PySem.Spec PyProof.Rows L2 HotX
/-- the classes that are raised -/
def exPlain : List Str := ["BadName", "NoHouse", "BadRule", "BadTime", "Nothing"]
def exFld : List Str := ["NoOne", "Taken", "BadJournal"]
def exAll : List Str := ["NoOne", "Taken", "BadJournal", "BadName", "NoHouse", "BadRule", "BadTime", "Nothing"]
/-- what isinstance asks of such a class -/
structure IsC (K : PySem.W.Frag) (D : Addr) : Prop where
  ga : PySem.W.findIn K (.ref D) "__getattribute__" = some (some (.builtin "BaseException.__getattribute__"))
  gg : PySem.W.findIn K (.ref D) "__getattr__" = some none
  be : PySem.W.subIn K (.ref D) (.type "BaseException") = some true
  hd : PySem.W.hasDictIn K D = true
  cl : PySem.W.findIn K (.ref D) "__class__" = some (some (.builtin "object.__class__"))
  ob : PySem.W.mroIn K D (.type "object") = some true
def clsGetB (K : PySem.W.Frag) : Bool := decide (PySem.W.specialIn K (.builtin "object.__class__") "__get__" = some (some (.builtin "getset_descriptor.__get__"))) && decide (PySem.W.takesIn K (.builtin "object.__class__") = some true)
def isCB (K : PySem.W.Frag) (D : Addr) : Bool := decide (PySem.W.findIn K (.ref D) "__getattribute__" = some (some (.builtin "BaseException.__getattribute__"))) && (decide (PySem.W.findIn K (.ref D) "__getattr__" = some none) && (decide (PySem.W.subIn K (.ref D) (.type "BaseException") = some true) &&
  (PySem.W.hasDictIn K D && (decide (PySem.W.findIn K (.ref D) "__class__" = some (some (.builtin "object.__class__"))) && decide (PySem.W.mroIn K D (.type "object") = some true)))))
theorem isCB_ok {K : PySem.W.Frag} {D : Addr} (h : isCB K D = true) : IsC K D := by
  obtain ⟨h1, h⟩ := Bool.and_eq_true_iff.mp h
  obtain ⟨h2, h⟩ := Bool.and_eq_true_iff.mp h
  obtain ⟨h3, h⟩ := Bool.and_eq_true_iff.mp h
  obtain ⟨h4, h⟩ := Bool.and_eq_true_iff.mp h
  obtain ⟨h5, h6⟩ := Bool.and_eq_true_iff.mp h
  exact ⟨of_decide_eq_true h1, of_decide_eq_true h2, of_decide_eq_true h3, h4, of_decide_eq_true h5, of_decide_eq_true h6⟩
/-- all that is asked of the classes -/
def exKB (K : PySem.W.Frag) : Bool := clsGetB K && exAll.all fun x => isCB K (He.ga K x) && (exAll.all (fun y => decide (PySem.W.kitOne K (.ref (He.ga K x)) (.ref (He.ga K y)) = some (decide (x = y)))) && (decide (PySem.W.kitOne K (.ref (He.ga K x)) (.type "ValueError") = some true) &&
  (exFld.all (fun y => decide (PySem.W.exmOne K (.ref (He.ga K x)) (.ref (He.ga K y)) = some (decide (x = y)))) && decide (PySem.W.exmOne K (.ref (He.ga K x)) (.ref (He.ga K "RoofError")) = some true))))
def exFB (K : PySem.W.Frag) : Bool := exFld.all fun x => decide (PySem.W.findIn K (.ref (He.ga K x)) (exField x) = some none)
structure ExK (K : PySem.W.Frag) : Prop where
  g1 : PySem.W.specialIn K (.builtin "object.__class__") "__get__" = some (some (.builtin "getset_descriptor.__get__"))
  g2 : PySem.W.takesIn K (.builtin "object.__class__") = some true
  isc : ∀ x ∈ exAll, IsC K (He.ga K x)
  kit : ∀ x ∈ exAll, ∀ y ∈ exAll, PySem.W.kitOne K (.ref (He.ga K x)) (.ref (He.ga K y)) = some (decide (x = y))
  kve : ∀ x ∈ exAll, PySem.W.kitOne K (.ref (He.ga K x)) (.type "ValueError") = some true
  exm : ∀ x ∈ exAll, ∀ y ∈ exFld, PySem.W.exmOne K (.ref (He.ga K x)) (.ref (He.ga K y)) = some (decide (x = y))
  exr : ∀ x ∈ exAll, PySem.W.exmOne K (.ref (He.ga K x)) (.ref (He.ga K "RoofError")) = some true
  fld : ∀ x ∈ exFld, PySem.W.findIn K (.ref (He.ga K x)) (exField x) = some none
theorem exK_of {K : PySem.W.Frag} (h : exKB K = true) (h2 : exFB K = true) : ExK K := by
  obtain ⟨h1, h⟩ := Bool.and_eq_true_iff.mp h
  obtain ⟨g1, g2⟩ := Bool.and_eq_true_iff.mp h1
  have key := List.all_eq_true.mp h
  have part : ∀ x ∈ exAll, IsC K (He.ga K x) ∧ (∀ y ∈ exAll, PySem.W.kitOne K (.ref (He.ga K x)) (.ref (He.ga K y)) = some (decide (x = y))) ∧ PySem.W.kitOne K (.ref (He.ga K x)) (.type "ValueError") = some true ∧
      (∀ y ∈ exFld, PySem.W.exmOne K (.ref (He.ga K x)) (.ref (He.ga K y)) = some (decide (x = y))) ∧ PySem.W.exmOne K (.ref (He.ga K x)) (.ref (He.ga K "RoofError")) = some true := fun x hx => by
    obtain ⟨a, b⟩ := Bool.and_eq_true_iff.mp (key x hx)
    obtain ⟨b, c⟩ := Bool.and_eq_true_iff.mp b
    obtain ⟨c, d⟩ := Bool.and_eq_true_iff.mp c
    obtain ⟨d, e⟩ := Bool.and_eq_true_iff.mp d
    exact ⟨isCB_ok a, fun y hy => of_decide_eq_true (List.all_eq_true.mp b y hy), of_decide_eq_true c, fun y hy => of_decide_eq_true (List.all_eq_true.mp d y hy), of_decide_eq_true e⟩
  exact ⟨of_decide_eq_true g1, of_decide_eq_true g2, fun x hx => (part x hx).1, fun x hx => (part x hx).2.1, fun x hx => (part x hx).2.2.1, fun x hx => (part x hx).2.2.2.1, fun x hx => (part x hx).2.2.2.2, fun x hx => of_decide_eq_true (List.all_eq_true.mp h2 x hx)⟩
section
variable {K : PySem.W.Frag} {x D : Addr} {ox : Obj} {od : Option Obj}
/-- e.__class__ of such an exception -/
theorem clsGet {prog : Program} {w : World} {A : Around} {E : Value → Shared → Prop} {s : Shared} {Q : Option Value → Shared → Prop} (C : IsC K D) (g1 : PySem.W.specialIn K (.builtin "object.__class__") "__get__" = some (some (.builtin "getset_descriptor.__get__"))) (g2 : PySem.W.takesIn K (.builtin "object.__class__") = some true)
    (X : K.In s.heap) (I : PySem.W.InstAt s.heap x ox D od) (h : Q (some (.ref D)) { s with toks := s.toks + 1 }) : wpAny (model prog w) A (getAttr? (.ref x) "__class__") Q E s := by
  have hf : PySem.W.findObj K D od "__class__" = some (.bind (.builtin "getset_descriptor.__get__") (.builtin "object.__class__")) := by
    obtain ⟨cd, hc, _⟩ := PySem.W.any_some C.hd
    unfold PySem.W.findObj
    rw [hc, Option.bind_some, C.cl, Option.bind_some]
    simp [g1, g2]
  obtain ⟨hp, g, d, t, os⟩ := s
  have Lt := I.type (M := model prog w)
  have Lga := PySem.W.looks_findIn (M := model prog w) X C.ga; have Lgg := PySem.W.looks_findIn (M := model prog w) X C.gg
  have Lf := PySem.W.looks_find (M := model prog w) X I hf
  have sub : PySem.W.Looks (model prog w) hp (isInstance (.ref x) (.type "BaseException")) true := Lt.andThen (PySem.W.looks_subIn X C.be)
  have n0 : (Value.builtin "BaseException.__getattribute__" == Value.builtin "object.__getattribute__") = false := by decide +kernel
  have n1 : (onTheHeap (Value.ref D) && Value.builtin "BaseException.__getattribute__" == Value.builtin "object.__getattribute__") = false := by rw [n0]; rfl
  have n2 : (false && onTheHeap (Value.builtin "BaseException.__getattribute__")) = false := rfl
  unfold getAttr? getAttrBy? getAttrBy; refine wpAny_bind (wpAny_mkText (wpAny_bind (wpAny_attempt (wpAny_holding (wpAny_bind (Lt.at (wpAny_bind (Lga.at ?_))))))))
  show wpAny _ _ (if (onTheHeap (Value.ref D) && Value.builtin "BaseException.__getattribute__" == Value.builtin "object.__getattribute__") = true then _ else _) _ _ _; rw [n1, if_neg Bool.false_ne_true]
  unfold getAttrByItsOwn hookBefore; refine wpAny_bind ?_
  rw [if_pos (show onTheHeap (Value.ref D) = true from rfl)]; refine Lgg.at ?_
  refine wpAny_bind (wpAny_attempt (wpAny_holding ?_)); unfold callGetattribute
  rw [n2, if_neg Bool.false_ne_true]; unfold boundAndCalled
  rw [PySem.F.excAttr_ValueError.ga.bind (.ref x)]; refine wpAny_bind (wpAny_pure ?_)
  show wpAny _ _ (call (.builtin "BaseException.__getattribute__") [.ref x, .str "__class__" t]) _ _ _; refine wpAny_call (codeAny_call_builtin PySem.F.excAttr_ValueError.ga.plain PySem.F.entry_bexc_ga ?_)
  refine @PySem.W.check_slot (model prog w) _ _ ⟨hp, g, d, t + 1, os⟩ "BaseException.__getattribute__" "BaseException" "__getattribute__" (.ref x) [.str "__class__" t] [] _ (by decide +kernel) (by decide +kernel) sub (PySem.F.args_bexc_ga (.ref x) (.str "__class__" t)) ?_
  unfold Builtin.«object.__getattribute__»; refine wpAny_bind (wpAny_of_eq (a := ((Value.ref x : Value), [Value.str "__class__" t])) (by first | rfl | (simp only [slotArgs]; rfl)) ?_)
  refine wpAny_bind (wpAny_pure (wpAny_bind (Lt.at (wpAny_bind (Lf.at ?_)))))
  show wpAny _ _ (holding [Value.builtin "object.__class__"] (call (.builtin "getset_descriptor.__get__") [.builtin "object.__class__", .ref x, .ref D]) >>= ret) _ _ _
  refine wpAny_bind (wpAny_holding (wpAny_call (PySem.W.class_get (s := ⟨hp, g, d, t + 1, os⟩) (ox := ox) (od := od) X I C.ob ?_))); refine wpAny_pure ?_
  show wpAny _ _ (handedOut (.ref D)) _ _ _; rw [PySem.W.handedOut_of (v := .ref D) rfl]
  first
    | exact wpAny_pure (wpAny_pure h)
    | exact wpAny_pure h
    | exact wpAny_pure (wpAny_bind (wpAny_pure (wpAny_pure h)))
theorem kitE (C : IsC K D) (g1 : PySem.W.specialIn K (.builtin "object.__class__") "__get__" = some (some (.builtin "getset_descriptor.__get__"))) (g2 : PySem.W.takesIn K (.builtin "object.__class__") = some true) : PySem.W.KitX K (.ref x) (.ref D) (fun h => ∃ ox od, PySem.W.InstAt h x ox D od) where
  ty := fun _ _ _ ⟨_, _, I⟩ => I.type
  it := fun M h X _ => by
    obtain ⟨cd, hc, _⟩ := PySem.W.any_some C.hd
    unfold PySem.W.clsIn at hc
    split at hc
    · rename_i ho
      intro A Q E s k q
      unfold isType loadHead
      exact wpAny_bind (wpAny_loadPart (k _ _ (X _ _ ho)) (wpAny_pure q))
    · cases hc
  ne := fun h tp dd its n sl X ht => by
    cases q : (Value.ref D == Value.ref tp) with
    | false => rfl
    | true =>
      have e : D = tp := Value.ref.inj (beq_iff_eq.mp q)
      obtain ⟨cd, hc, _⟩ := PySem.W.any_some C.hd
      unfold PySem.W.clsIn at hc
      split at hc
      · rename_i ho
        have z := X _ _ ho
        rw [e, ht] at z
        cases z
      · cases hc
  ca := fun X ⟨_, _, I⟩ k => clsGet C g1 g2 X I k
end
/-- the exception p of the class x is handled in X -/
structure Held (X : Cx) (p : Addr × Obj) (x : Str) (d : Option Addr) : Prop where
  pin : p ∈ X.pn
  z : Zc (.ref (He.ga X.K x)) d p.2
  f : ∃ vs, p.2.data = .fields vs
  d : ∀ dx, d = some dx → dx ∉ X.ex ∧ ∃ o, X.s_0.heap.get? dx = some o
theorem Held.inst {X : Cx} {p : Addr × Obj} {x : Str} {d : Option Addr} {pins : List (Addr × Obj)} {σ : L2.St} {H : Hp} {s : Shared} (h : Held X p x d) (I : Inv X pins σ H s) : ∃ ox od, PySem.W.InstAt s.heap p.1 ox (He.ga X.K x) od := by
  obtain ⟨hget, _⟩ := I.pin p (List.mem_append.mpr (.inl h.pin))
  obtain ⟨vs, hv⟩ := h.f
  obtain ⟨z1, z2⟩ := h.z
  cases d with
  | none => exact ⟨p.2, none, hget, z1, by unfold PySem.W.notCls; rw [hv] <;> rfl, by rw [z2]; exact True.intro⟩
  | some dx =>
    obtain ⟨ne, o, ho⟩ := h.d dx rfl
    obtain ⟨o', ho'⟩ := I.base.there dx o ho ne
    exact ⟨p.2, some o', hget, z1, by unfold PySem.W.notCls; rw [hv] <;> rfl, by rw [z2]; exact ho'⟩
/-- isinstance(e, c) -/
def rIsX (K : PySem.W.Frag) (x : Str) (a : Addr) : List V → Hp → VK → Prop := fun xs H Q => ∃ (c : V) (cv : Value) (b : Bool), xs = [.ref a, c] ∧ (∀ u, RelV c u → u = cv) ∧ PySem.W.kitOne K (.ref (He.ga K x)) cv = some b ∧ Q (.bl b) H
theorem call_isX {X : Cx} {p : Addr × Obj} {x : Str} {d : Option Addr} (k : ExK X.K) (hx : x ∈ exAll) (h : Held X p x d) : CallR X (.builtin "isinstance") (rIsX X.K x p.1) := fun pins s σ H xs us Q I r q => by
  obtain ⟨c, cv, b, rfl, hcv, e, q⟩ := q
  cases r with
  | cons r1 r2 =>
    cases r2 with
    | cons r2 r3 =>
      cases r3
      cases r1
      obtain rfl := hcv _ r2
      exact PySem.W.kia_one (kitE (k.isc x hx) k.g1 k.g2) I.kIn (h.inst I) e (fun z => nomatch z) fun tk => ⟨.bl b, H, I.tok _, rfl, q⟩
/-- e, the handled exception, as the code sees it -/
def isEx (a : Addr) (u : IV) : Bool := match u with
  | .adr b => decide (b = a)
  | _ => false
def dIsX (a : Addr) (b : Bool) (d : Ed) : Ed := fun en τ S => (d en τ S).bind fun u S1 => if isEx a u = true then .ok (.bl b) S1 else .bad
theorem s_isX {X : Cx} {en : En} {W : WX} {p : Addr × Obj} {x y : Str} {dd : Option Addr} {pos q1 q2 : Pos} {e : Expr} {d : Ed} (k : ExK X.K) (hx : x ∈ exAll) (hy : y ∈ exAll) (hp : Held X p x dd) (hg : Gl X "isinstance") (hm : X.mg "isinstance" = none) (hgT : Gl X y) (hmT : X.mg y = some (.ref (He.ga X.K y))) (hdT : (y == ("__debug__" : Str)) = false)
    (hs : notStar e = true) (h : PE X e (tE X.K en W d)) : PE X (.Call (.Name "isinstance" q1) [e, .Name y q2] [] pos) (tE X.K en W (dIsX p.1 (decide (x = y)) d)) := by
  refine (pe_callB (call_isX k hx hp) hg hm (by decide +kernel) (pa_cons h (pa_cons (pe_glob (v := .ref (He.ga X.K y)) hgT hmT rfl hdT) pa_nil) (star_cons hs)) (by decide) (by decide) (star_cons hs) rfl).jimp fun σ H Q ⟨ρ, S, τ, hr, sr, h⟩ => ⟨ρ, S, τ, hr, sr, ?_⟩
  refine Post.seq h fun ρ1 H1 S1 u v hr1 e1 r1 h1 => ?_
  by_cases c : isEx p.1 u = true
  · rw [if_pos c] at h1
    cases u with
    | adr b =>
      have c : b = p.1 := of_decide_eq_true c
      have r1 : v = V.ref b := by simpa only [relV, VR] using r1
      subst r1
      exact ⟨.ref (He.ga X.K y), .ref (He.ga X.K y), _, by rw [c], fun u r => r, k.kit x hx y hy, h1 ρ1 H1 _ hr1 (Ext.refl _ _) vr_bl⟩
    | _ => cases c
  · rw [if_neg c] at h1
    exact h1.elim
theorem s_isV {X : Cx} {en : En} {W : WX} {p : Addr × Obj} {x : Str} {dd : Option Addr} {pos q1 q2 : Pos} {e : Expr} {d : Ed} (k : ExK X.K) (hx : x ∈ exAll) (hp : Held X p x dd) (hg : Gl X "isinstance") (hm : X.mg "isinstance" = none) (hgT : Gl X "ValueError") (hmT : X.mg "ValueError" = none)
    (hs : notStar e = true) (h : PE X e (tE X.K en W d)) : PE X (.Call (.Name "isinstance" q1) [e, .Name "ValueError" q2] [] pos) (tE X.K en W (dIsX p.1 true d)) := by
  refine (pe_callB (call_isX k hx hp) hg hm (by decide +kernel) (pa_cons h (pa_cons (pe_bltn (v := .ty "ValueError") hgT hmT PyProof.Rows.Boot.«ValueError» rfl (by decide) (by decide)) pa_nil) (star_cons hs)) (by decide) (by decide) (star_cons hs) rfl).jimp fun σ H Q ⟨ρ, S, τ, hr, sr, h⟩ => ⟨ρ, S, τ, hr, sr, ?_⟩
  refine Post.seq h fun ρ1 H1 S1 u v hr1 e1 r1 h1 => ?_
  by_cases c : isEx p.1 u = true
  · rw [if_pos c] at h1
    cases u with
    | adr b =>
      have c : b = p.1 := of_decide_eq_true c
      have r1 : v = V.ref b := by simpa only [relV, VR] using r1
      subst r1
      exact ⟨.ty "ValueError", .type "ValueError", _, by rw [c], fun u r => r, k.kve x hx, h1 ρ1 H1 _ hr1 (Ext.refl _ _) vr_bl⟩
    | _ => cases c
  · rw [if_neg c] at h1
    exact h1.elim
end JF
set_option maxHeartbeats 1000000
/-! JY: the def that is called in an except suite with the exception; sum, [int(x) ..] there. -/
namespace JF
open PySem PySem.Spec PyProof.Rows L2 HotX

def bInts (bs : List Bool) : List IV := bs.map fun b => .int (if b = true then 1 else 0)
theorem bInts_rel {K : PySem.W.Frag} {ρ : List Addr} {H : Hp} : ∀ bs : List Bool, VRs K ρ H (bInts bs) (bs.map fun b => V.int (if b = true then 1 else 0))
  | [] => by simp only [bInts, List.map, VRs]
  | b :: bs => by
    have ih := bInts_rel (K := K) (ρ := ρ) (H := H) bs
    simp only [bInts] at ih
    simp only [bInts, List.map, VRs, VR]
    exact ⟨_, _, rfl, rfl, ih⟩
/-- [int(x) for x in d] of truths -/
def dLcI (d : Ed) : Ed := fun en τ S => (d en τ S).bind fun u S1 => match (rdL S1 u).bind blsI with
  | some bs => .ok (.lst (bInts bs)) S1
  | none => .bad
theorem rdL_sql {K : PySem.W.Frag} {ρ : List Addr} {H : Hp} {S : SH} {u : IV} {x : V} {xs : List IV} (hr : HR K ρ H S) (r : VR K ρ H u x) (e : rdL S u = some xs) : ∃ a ys, x = .ref a ∧ SqL K H a ys ∧ VRs K ρ H xs ys := rdL_sq hr r e
theorem s_lcI {X : Cx} {en : En} {W : WX} {x : Str} {px p1 p2 p3 pos : Pos} {iter : Expr} {scope : Scope} {d : Ed} (hc : L2H.HotC X) (hi : PE X iter (tE X.K en W d)) (hk : scope.kind = .function) (hcell : ∀ y ∈ scope.names, y.2 ≠ .cell) (hfree : ∀ y ∈ scope.names, y.2 ≠ .free)
    (hn : ∀ y ∈ scope.names, y.2 = .local → scope.names.lookup y.1 = some .local) (hlx : scope.names.lookup x = some .local) (hkx : ∀ cl C, (compEnvC scope cl C X.env).kindOf x = some .local) (hki : ∀ cl C, (compEnvC scope cl C X.env).kindOf "int" = some .globalImplicit)
    (hkf : ∀ cl C, (compEnvC scope cl C X.env).scope.kind = .function) (hm : X.mg "int" = none) (hd : (x == ("__debug__" : Str)) = false) (hs : ∀ x, foldedSetIterable iter X.env x = pure x) :
    PE X (.ListComp (.Call (.Name "int" p1) [.Name x p2] [] p3) [⟨.Name x px, iter, [], 0⟩] scope pos) (tE X.K en W (dLcI d)) := by
  refine (lcIntH hc hi hk hcell hfree hn hlx hkx hki hkf hm hd hs).fz.jimp fun σ H Q ⟨ρ, S, τ, hr, sr, h⟩ => ⟨ρ, S, τ, hr, sr, ?_⟩
  refine Post.seq h fun ρ1 H1 S1 u v hr1 e1 r1 h1 => ?_
  cases eb : (rdL S1 u).bind blsI with
  | none => rw [eb] at h1; exact h1.elim
  | some bs =>
    rw [eb] at h1
    obtain ⟨zs, e2, e3⟩ := Option.bind_eq_some_iff.mp eb
    obtain ⟨a, ys, rfl, hq, rr⟩ := rdL_sql hr1 r1 e2
    rw [blsI_rel rr e3] at hq
    refine ⟨a, bs, rfl, hq, fun D hD => .inr ⟨D, _, rfl, upd_same, True.intro, fun od => ?_⟩⟩
    obtain ⟨g1, g2, g3⟩ := new_frz (us := bInts bs) hr1 (bInts_rel bs) hD od
    exact h1 _ _ _ g1 g2 g3
theorem c_sumH {X : Cx} (hc : L2H.HotC X) : CallR X (.builtin "sum") (rIc X.K sumF) := (sumH hc).jimp fun xs H Q ⟨ρ, S, us, hr, r, p⟩ => by
  unfold sumF at p
  split at p
  · rename_i u
    obtain ⟨bs, e, p⟩ := PostO.map p
    obtain ⟨zs, e1, e2⟩ := Option.bind_eq_some_iff.mp e
    obtain ⟨x, rfl, ru⟩ := one_vrs rfl r
    obtain ⟨a, ys, rfl, hq, rr⟩ := rdL_sql hr ru e1
    rw [intsI_rel rr e2] at hq
    exact ⟨a, bs, rfl, hq, p.same hr vr_int⟩
  · exact p.none.elim

/-! ### the def that is called with the exception -/
section
variable {P : Program} {w : World} {K : PySem.W.Frag} {mg : Str → Option Value} {base : Heap} {k : Nat} {f : Addr} {fd : FuncData}
/-- what it comes to -/
def wordIV (x : Str) : IV := .tup [.str "refused", .str x]
def wordFlags (x : Str) : List IV := exAll.map fun y => .bl (decide (x = y))
def wordS (x : Str) (S : SH) : SH := S ++ [⟨.lst (wordFlags x), false⟩]
structure FnW (P : Program) (w : World) (K : PySem.W.Frag) (mg : Str → Option Value) (base : Heap) (k : Nat) (f : Addr) (fd : FuncData) : Prop where
  run : ∀ (A : Around) (outer : List Env) (s : Shared) (H : Hp) (p : Addr × Obj) (x : Str) (d : Option Addr) (Q : VK) (E : XK), x ∈ exAll → L2H.RoomH k A → L2H.Hot1 A p → L2H.PinOk outer H s p → Zc (.ref (He.ga K x)) d p.2 → (∀ dx, d = some dx → ∃ o, s.heap.get? dx = some o) → Env0 P w K mg base A outer s H →
    (∃ ρ S, HR K ρ H S ∧ ∀ ρ' H' v, HR K ρ' H' (wordS x S) → Ext K ρ H ρ' H' → VR K ρ' H' (wordIV x) v → Q v H') → codeAny (model P w) A (.call (.ref f) ⟨[.ref p.1], []⟩) (CR (L2N.CX P w) outer P w H s Q E) s
theorem fnW_of {qual name prm : Str} {params : Arguments} {body : List Stmt} {scope : Scope} {N : List Str} (F : FunD K name qual params body scope [] [] f fd) (S : FnScope N [prm] scope) (hb : L2.Binds K fd [prm] [])
    (hbody : ∀ (cdv : Value) (A : Around) (outer : List Env) (s : Shared) (H : Hp) (E : XK) (p : Addr × Obj) (x : Str) (d : Option Addr), x ∈ exAll → L2H.Hot1 A p → L2H.RoomH k (A.deeper (envOfC qual scope s.heap.objs.size f cdv)) → Held (L2H.cxH (L2N.CX P w) P w K mg base N qual scope f cdv A outer s H E p) p x d →
      ∃ c en, PSs (L2H.cxH (L2N.CX P w) P w K mg base N qual scope f cdv A outer s H E p) body (tS K en WF c) ∧ ∀ S, c en (some (.adr p.1) :: List.replicate (N.length - 1) none) S = .ret (wordIV x) (wordS x S)) : FnW P w K mg base (k + 1) f fd := by
  refine ⟨fun A outer s H p x d Q E hx hr hot hpin hz hd e0 ⟨ρ, S0, h0, hq⟩ => ?_⟩
  obtain ⟨oc, od, dV, kV, doc, pm, an, cdv, ct, osl, rfl, lk, hcd, _, _⟩ := F.ex
  have KX : K.In s.heap := e0.mod.kin.keeps fun b o e => (e0.bs b o e).1
  have lim : s.heap.NoLimit := e0.mod.nolimit.keeps fun b o e => (e0.bs b o e).1
  have hkind : ∀ y ∈ [prm].zip [Value.ref p.1], scope.names.lookup y.1 = some .local ∨ (scope.names.lookup y.1 = some .cell ∧ ((cellsFrom (s.heap.objs.size + 1) scope.names []).lookup y.1).isSome = true) := fun ⟨n, v⟩ hy => by
    rcases S.par n (List.of_mem_zip hy).1 with q | q
    · exact .inl q
    · exact .inr ⟨q, PySem.W.cellsFrom_some _ _ _ (.inl q)⟩
  refine codeAny_call_function hr.depth (KX _ _ lk) rfl S.co S.gen rfl (PySem.W.codeRec_of KX hcd) (hb s [.ref p.1] KX rfl _ _ _ _ ?_)
  refine wpAny_newFunctionEnv_cells S.kind hkind fun env he s1 ic => ?_
  subst he
  refine ⟨lim.keeps ic.toInCall.keep, codeAny_func ?_⟩
  obtain ⟨c, en, ht, hc⟩ := hbody cdv A outer s H E p x d hx hot (hr.deeper _) ⟨by show p ∈ [p]; simp, hz, ⟨_, hot.2.choose_spec.1⟩, fun dx e => ⟨fun z => absurd (show dx ∈ ([] : List Addr) from z) (by simp), hd dx e⟩⟩
  have I : Inv (L2H.cxH (L2N.CX P w) P w K mg base N qual scope f cdv A outer s H E p) [] (L2.start N [.ref p.1]) H s1 := L2H.inv_startH S hpin e0 rfl (.cons rfl .nil) ic
  refine wpAny_mono (ht.run [] s1 (L2.start N [.ref p.1]) H { nx := fun _ H' => Q .non H', rt := Q } I ⟨ρ, S0, _, h0, sr_start (us := [.adr p.1]) (by simp only [VRs, VR]; exact ⟨_, _, rfl, rfl, rfl⟩), ?_⟩) (fun fl s' hs => ?_) fun e s' hs => hs
  · show PostS K WF ρ H (c en (some (.adr p.1) :: List.replicate (N.length - 1) none) S0) _
    rw [hc]
    exact fun ρ' H' v a b r => hq ρ' H' v a b r
  · cases fl with
    | ret u =>
      obtain ⟨v, σ', H', J, rv, q⟩ := hs
      exact ⟨v, H', J.os, J.bare, J.base, J.hok, rv, q⟩
    | next =>
      obtain ⟨σ', H', J, q⟩ := hs
      exact ⟨.non, H', J.os, J.bare, J.base, J.hok, rfl, q⟩
    | brk =>
      obtain ⟨_, _, _, q⟩ := hs
      exact False.elim q
    | cont =>
      obtain ⟨_, _, _, q⟩ := hs
      exact False.elim q
end
end JF
set_option maxHeartbeats 1000000
/-! JT: a lambda handed to the def that tells refusals. -/
namespace JF
open PySem PySem.Spec PyProof.Rows L2 HotX

/-! ### try with clauses that bind the exception -/
def unAs (i : Nat) (D : Ends) : Ends := { nx := fun σ H => D.nx (σ.set i none) H, rt := D.rt, bk := fun σ H => D.bk (σ.set i none) H, ct := fun σ H => D.ct (σ.set i none) H }
def wMA (K : PySem.W.Frag) (i : Nat) (Wout : WX) (D : Ends) : List (Value × (Addr → Value → Option Addr → TS)) → WX
  | [] => Wout
  | h :: r => fun cls d σ H => ∃ b, PySem.W.exmOne K cls h.1 = some b ∧ (b = true → ∀ a, H a = none → h.2 a cls d (unAs i D) (σ.set i (some (.ref a))) H) ∧ (b = false → wMA K i Wout D r cls d σ H)
inductive HdsA (X : Cx) (n : Str) : List ExceptHandler → List (Value × (Addr → Value → Option Addr → TS)) → Prop
  | nil : HdsA X n [] []
  | cons {x : Str} {h : Value × (Addr → Value → Option Addr → TS)} {b₀ : Stmt} {suite : List Stmt} {np pos' : Pos} {hds : List ExceptHandler} {l : List (Value × (Addr → Value → Option Addr → TS))} (hc : Names X x h.1)
      (hsu : ∀ (a : Addr) (oe : Obj) (cls : Value) (d : Option Addr) (pn : List (Addr × Obj)), L2N.Zn cls d oe → (∃ vs, oe.data = .fields vs) → PSs (X.suite a ((a, oe) :: pn)) (b₀ :: suite) (h.2 a cls d)) (r : HdsA X n hds l) :
      HdsA X n (.ExceptHandler (some (.Name x np)) (some n) (b₀ :: suite) pos' :: hds) (h :: l)
section
variable {X : Cx} {pins : List (Addr × Obj)} {n : Str} {i : Nat} {D : Ends} {Wout : WX}
/-- the clauses in turn, the exception on the ground -/
theorem hdsA_run (hs : X.stack = X.env :: X.outer) (hf : X.env.frame = some X.env.locals) (ok : X.Ok) (hN : X.N.Nodup) (hi : X.N[i]? = some n) (hln : X.env.kindOf n = some .local) (tk : L2N.Takes X Wout) {a : Addr} {B : Heap} {sI s' : Shared} {σ : L2.St} {H : Hp} {cls : Value} {d : Option Addr} {h3 : Heap}
    (J : Inv X pins σ H sI) (nb : ∀ b o, sI.heap.get? b = some o → b ∉ frs X.stack → B.get? b = some o) (up : sI.heap.UpToSlots h3) (fl : HandSPX.FlyingZ B (X.env :: X.outer) a (L2N.Zn cls d) h3) (na : H a = none) (os : s'.os = sI.os) (ag : AllBare s'.gens) :
    ∀ {hds : List ExceptHandler} {l : List (Value × (Addr → Value → Option Addr → TS))}, HdsA X n hds l → wMA X.K i Wout D l cls d σ H → wpAny (model X.prog X.w) X.A (handleBy (.ref a) X.env hds) (SP X pins D) X.xe { s' with heap := h3 } := by
  have J3 : Inv X pins σ H { s' with heap := h3 } := J.landed nb fl.1 up os ag
  have out : ∀ {h : Heap}, HandSPX.FlyingZ B (X.env :: X.outer) a (L2N.Zn cls d) h → a ≠ X.env.locals ∧ a ∉ X.fs := fun {h} fl => by
    obtain ⟨o, vs, g, _, dd⟩ := fl.there
    have nin : a ∉ frs (X.env :: X.outer) := fun hm => by
      obtain ⟨_, o', g', nf⟩ := fl.2.2.1.mem hm
      rw [g] at g'
      cases g'
      exact nf _ dd
    refine ⟨fun z => nin (List.mem_filterMap.mpr ⟨X.env, List.mem_cons_self, by rw [hf, z]⟩), fun hm => ?_⟩
    obtain ⟨e, he, q⟩ := List.mem_filterMap.mp hm
    exact nin (List.mem_filterMap.mpr ⟨e, List.mem_cons_of_mem _ he, q⟩)
  obtain ⟨oL, oF⟩ := out fl
  obtain ⟨oe, vs, g3, z3, d3⟩ := fl.there
  have S3 := J3.suite g3 d3 na oL oF
  intro hds l hk
  induction hk with
  | nil =>
    intro w
    refine wpAny_handleBy_nil ?_
    obtain ⟨_, _, _, o, us, T, oT, ts, g, _, dd, e1, _⟩ := id fl
    unfold PySem.passOn
    refine wpAny_bind (wpAny_field g dd e1 ?_)
    rw [if_neg (show ¬ ((Value.ref T == Value.none) = true) from by simp)]
    have go : wpAny (model X.prog X.w) X.A (setFlight (.ref a) X.env.frame) (fun _ s4 => wpAny (model X.prog X.w) X.A (throw (.ref a) : Sem Flow) (SP X pins D) X.xe s4) X.xe { s' with heap := h3 } := by
      rw [hf]
      exact HandSPX.setFlight_upZ fl fun h4 hh up4 => wpAny_throw (tk _ _ ⟨a, B, sI, pins, σ, H, cls, d, rfl, J, nb, up.trans up4, .inr (.inr (by rw [hs]; exact hh)), na, os, ag, w⟩)
    first
      | exact wpAny_bind (wpAny_pure (wpAny_bind go))
      | exact wpAny_bind go
  | @cons x h b₀ suite np pos' hds l hc hsu r ih =>
    intro w
    obtain ⟨b, eb, yes, no⟩ := w
    refine wpAny_handleBy_cons (codeAny_handlers_test ?_) (by intro q; cases q)
    have Lt : PySem.W.Looks (model X.prog X.w) h3 (typeOf (.ref a)) cls := fun A Q E s k q => wpAny_typeOf_ref (k _ _ g3) (by rw [z3.1]; exact q)
    have Lm := PySem.W.exm_one (M := model X.prog X.w) J3.kIn Lt eb
    have nm : ∀ {Q E : Value → Shared → Prop}, Q h.1 { s' with heap := h3 } → wpAny (model X.prog X.w) (X.A.mark (some (.ref a))) (eval (.Name x np) X.env) Q E { s' with heap := h3 } := fun {Q E} q => by
      obtain ⟨hg, hd, hm | ⟨hm, hv, hn⟩⟩ := hc
      · exact ld_glob (X := X.suite a ((a, oe) :: (X.pn ++ pins))) S3 hg hm q hd
      · exact ld_blt (X := X.suite a ((a, oe) :: (X.pn ++ pins))) S3 hg hm hv q hn hd
    refine nm (Lm.here ?_)
    cases b with
    | false => exact ih (no rfl)
    | true =>
      refine codeAny_handlers_suite_as (HandSPX.lands_againZ fl fun h4 fl4 up4 => ?_)
      have J4 : Inv X pins σ H { s' with heap := h4 } := J.landed nb fl4.1 (up.trans up4) os ag
      obtain ⟨o4, vs4, g4, z4, d4⟩ := fl4.there
      have S4 := J4.suite g4 d4 na oL oF
      refine store_ok (X := X.suite a ((a, o4) :: (X.pn ++ pins))) (v := .ref a) S4 hN hi (.inl hln) rfl (fun s5 S5 => ?_) (.inr hln)
      have fin : ∀ {σ6 : L2.St} {H6 : Hp} {s6 : Shared} {Q : Shared → Prop}, Inv (X.suite a ((a, o4) :: (X.pn ++ pins))) [] σ6 H6 s6 → (∀ s7, Inv X pins (σ6.set i none) H6 s7 → Q s7) → wpAny (model X.prog X.w) X.A (do bindName X.env n .none; unbindBehindTheSuite X.env n pos') (fun _ s7 => Q s7) X.xe s6 :=
        fun S6 hq => gone_ok (S6.unsuite ok) hN hi hln hq
      refine wpAny_mono ((hsu a o4 cls d (X.pn ++ pins) z4 ⟨_, d4⟩).run [] s5 _ H _ S5 (yes rfl a na)) (fun f s6 hsp => ?_) fun _ _ z => False.elim z
      cases f with
      | next => obtain ⟨σ6, H6, S6, q6⟩ := hsp; exact fin S6 fun s7 J7 => ⟨_, _, J7, q6⟩
      | brk => obtain ⟨σ6, H6, S6, q6⟩ := hsp; exact fin S6 fun s7 J7 => ⟨_, _, J7, q6⟩
      | cont => obtain ⟨σ6, H6, S6, q6⟩ := hsp; exact fin S6 fun s7 J7 => ⟨_, _, J7, q6⟩
      | ret u => obtain ⟨v6, σ6, H6, S6, r6, q6⟩ := hsp; exact fin S6 fun s7 J7 => ⟨_, _, _, J7, r6, q6⟩
theorem j_tryA {body : List Stmt} {h₀ : ExceptHandler} {hds : List ExceptHandler} {l : List (Value × (Addr → Value → Option Addr → TS))} {pos : Pos} {tb : WX → TS} (hs : X.stack = X.env :: X.outer) (hf : X.env.frame = some X.env.locals) (hN : X.N.Nodup) (hi : X.N[i]? = some n) (hln : X.env.kindOf n = some .local) (tk : L2N.Takes X Wout)
    (hb : ∀ (W : WX) (pn : List (Addr × Obj)) (xe : Value → Shared → Prop), L2N.Takes (X.tr pn xe) W → PSs (X.tr pn xe) body (tb W)) (hh : HdsA X n (h₀ :: hds) l) : PS X (.Try body (h₀ :: hds) [] [] pos) (fun D σ H => tb (wMA X.K i Wout D l) D σ H) := by
  refine ⟨fun pins s σ H D I h => wpAny_Try_except ?_⟩
  have ok := I.ok
  have fr : X.A.frames = some (X.env :: X.outer) := by rw [ok.frames, hs]
  refine wpAny_mono ((hb (wMA X.K i Wout D l) (X.pn ++ pins) (fun e s₁ => wpAny (model X.prog X.w) X.A (noteFrame e X.env) (fun _ s₂ => wpAny (model X.prog X.w) X.A (setFlight e none) (fun _ s₃ =>
    wpAny (model X.prog X.w) X.A (handleBy e X.env (h₀ :: hds)) (SP X pins D) X.xe s₃) X.xe s₂) X.xe s₁) fun u s' xx => ?_).run [] s σ H D (I.toTry _) h) (fun f s1 hsp => ?_) fun e s1 he => he
  · obtain ⟨a, B, sI, pins', σ', H', cls, d, rfl, J', nb, up, sky, na, os, ag, w⟩ := xx
    have sky' : Sky B (X.env :: X.outer) a (L2N.Zn cls d) X.env.locals s'.heap := by rw [← hs]; exact sky
    exact L2N.Sky.land L2N.Zn.steady fr hf sky' fun h3 fl up3 => hdsA_run hs hf ok hN hi hln tk (J'.ofTry ok) nb (up.trans up3) fl na os ag hh w
  · cases f with
    | next => obtain ⟨σ', H', J', q⟩ := hsp; exact wpAny_execs_nil ⟨σ', H', J'.ofTry ok, q⟩
    | brk => obtain ⟨σ', H', J', q⟩ := hsp; exact ⟨σ', H', J'.ofTry ok, q⟩
    | cont => obtain ⟨σ', H', J', q⟩ := hsp; exact ⟨σ', H', J'.ofTry ok, q⟩
    | ret u => obtain ⟨v, σ', H', J', r, q⟩ := hsp; exact ⟨v, σ', H', J'.ofTry ok, r, q⟩
end
end JF
set_option maxHeartbeats 1000000
/-! JU: the call of the telling def: the lambda's body, what a refusal comes to. -/
namespace JF
open PySem PySem.Spec PyProof.Rows L2 HotX

/-! ### the lambda's body -/
/-- the context of the lambda's body -/
def lamN (X : Cx) (A : Around) (outer : List Env) (s : Shared) (H : Hp) (E : XK) (scope : Scope) (f c' : Addr) : Cx :=
  (LamX.lamCx X A outer s H E scope f c').wish fun e s' => wpAny (model X.prog X.w) (A.deeper (LamX.lamEnv X scope s.heap.objs.size f c')) (leaving (LamX.lamEnv X scope s.heap.objs.size f c') e) (fun _ s'' => L2N.CX X.prog X.w outer H s E e s'') (fun e' s'' => L2N.CX X.prog X.w outer H s E e' s'') s'
theorem lamN_takes (X : Cx) (A : Around) (outer : List Env) (s : Shared) (H : Hp) (E : XK) (scope : Scope) (f c' : Addr) : L2N.Takes (lamN X A outer s H E scope f c') (fun c d _ H => E c d H) :=
  L2N.takes_of (X := lamN X A outer s H E scope f c') (E := E) (E₁ := fun e' s'' => L2N.CX X.prog X.w outer H s E e' s'') rfl rfl rfl rfl
section
variable {X : Cx} {pins : List (Addr × Obj)} {σ : L2.St} {H : Hp} {s : Shared}
theorem actN {Eg E : XK} {Ng : List Str} {qg : Str} {sg scope : Scope} {g f c' : Addr} {cdg pm ctv : Value} {params : Arguments} {body : Expr} {k i : Nat} {a : Str} {pn : List (Addr × Obj)} {xe : Value → Shared → Prop} {W : WX} {tb : TE} {p1 p2 : Pos}
    (I : Inv X pins σ H s) (L : LamX.LamS X.env.scope scope) (hf : s.heap.get? f = some (PySem.W.kla_obj "<lambda>" (X.env.qual ++ "<lambda>") params body scope (cloFrom X.env.cells scope.names []) pm c' ctv)) (hfn : H f = none) (hfr : f ∉ frs X.stack)
    (hbind : bindArgs (PySem.W.kla_fn "<lambda>" (X.env.qual ++ "<lambda>") params body scope (cloFrom X.env.cells scope.names []) pm (.ref c') ctv) ⟨[], []⟩ = pure []) (tk : L2N.Takes ((cxOf (L2N.CX X.prog X.w) X.prog X.w X.K X.mg X.base Ng qg sg g cdg X.A X.stack s H Eg).tr pn xe) W)
    (hW : ∀ cls d (σ' : L2.St) H', σ'.length = Ng.length → E cls d H' → W cls d σ' H') (hr : Room (k + 1) (X.A.deeper (envOfC qg sg s.heap.objs.size g cdg)))
    (hbody : ∀ (A : Around) (outer : List Env) (s : Shared) (H : Hp), Room k (A.deeper (LamX.lamEnv X scope s.heap.objs.size f c')) → PE (lamN X A outer s H E scope f c') body tb) (hN : Ng[i]? = some a) (hv : Vis sg a) (hd : (a == ("__debug__" : Str)) = false) (hcd : (a == ("__classdict__" : Str)) = false) :
    PE ((cxOf (L2N.CX X.prog X.w) X.prog X.w X.K X.mg X.base Ng qg sg g cdg X.A X.stack s H Eg).tr pn xe) (.Call (.Name a p1) [] [] p2) (fun σZ HZ Q => σZ[i]? = some (some (.ref f)) ∧ HZ c' = some (LamX.CodeO c' (X.env.qual ++ "<lambda>")) ∧ tb σ HZ Q) := by
  refine ⟨fun pinsZ sZ σZ HZ Q IZ ⟨es, hc, ht⟩ => wpAny_Call_Name_kw (thn ((pe_var (pos := p1) (i := i) hN hv hd hcd).run pinsZ sZ σZ HZ (fun v H1 => v = .ref f ∧ H1 = HZ) IZ ⟨.ref f, es, rfl, rfl⟩) fun u s1 ⟨v, H1, I1, r1, q1⟩ => ?_)⟩
  obtain ⟨rfl, eH⟩ := q1
  rw [eH] at I1
  obtain rfl : u = Value.ref f := r1
  have fAt : s1.heap.get? f = some (PySem.W.kla_obj "<lambda>" (X.env.qual ++ "<lambda>") params body scope (cloFrom X.env.cells scope.names []) pm c' ctv) := I1.base.keep f _ hf hfn hfr fun z => nomatch (show f ∈ ([] : List Addr) from z)
  have run : codeAny (model X.prog X.w) (X.A.deeper (envOfC qg sg s.heap.objs.size g cdg)) (.call (.ref f) ⟨[], []⟩) (CR (L2N.CX X.prog X.w) (envOfC qg sg s.heap.objs.size g cdg :: X.stack) X.prog X.w HZ s1 Q E) s1 := by
    obtain ⟨⟨oc, vs, t, g1, g2, g3⟩, _, _⟩ := I1.hok c' _ hc
    refine PySem.W.kla_callFunE hr.depth fAt rfl L.co L.gen rfl ⟨c', oc, vs, t, rfl, g1, g2, g3⟩ ?_
    rw [hbind]
    refine wpAny_pure (wpAny_newFunctionEnv (fun y hy => (L.own y hy).2) (fun y hy => absurd hy (by simp)) (fun h₁ hns hsb => ⟨I1.nolimit.fresh _ hsb, ?_⟩) L.kind)
    show codeAny _ _ (.expr body (LamX.lamEnv X scope s1.heap.objs.size f c')) _ _
    have kp : ∀ b o, s1.heap.get? b = some o → h₁.get? b = some o := fun b o e => hsb.extBut b o (Nat.ne_of_lt (Heap.lt_size e)) (Heap.get?_push_of_some _ e)
    have J : Inv (LamX.lamCx X (X.A.deeper (envOfC qg sg s.heap.objs.size g cdg)) (envOfC qg sg s.heap.objs.size g cdg :: X.stack) s1 HZ E scope f c') [] σ HZ { s1 with heap := h₁, toks := s1.toks + ([] : List (Str × Value)).length } := LamX.lam_start2 I L I1.env0 hr.hd I1.base hns kp
    refine PySem.W.kla_codeExpr (wpAny_mono ((hbody _ _ s1 HZ (hr.deeper _)).run [] _ _ HZ Q (J.wish _) ht) (fun v s' hq => ?_) fun e s' hq => hq)
    obtain ⟨w', H', J', rv, q⟩ := hq
    exact ⟨w', H', J'.os, J'.bare, J'.base, J'.hok, rv, q⟩
  refine PySem.W.callWith_F0 ⟨_, _, _, _, fAt⟩ (wpAny_call (codeAny_mono run fun r s' hq => ?_))
  cases r with
  | error e => exact tk e s' (L2N.XE.of_call I1 (fun cls d H' h => hW cls d σZ H' I1.len h) hq)
  | ok fl =>
    cases fl with
    | ret u => exact I1.after hq
    | next => exact False.elim hq
    | brk => exact False.elim hq
    | cont => exact False.elim hq
end
/-! ### the suites -/
structure CalleeWK (P : Program) (w : World) (K : PySem.W.Frag) (mg : Str → Option Value) (base : Heap) (k : Nat) (x : Str) : Prop where
  ex : ∃ f fd, FnW P w K mg base k f fd ∧ mg x = some (.ref f) ∧ PySem.W.keepIn K (.ref f) = true
abbrev CalleeW (X : Cx) (k : Nat) (x : Str) : Prop := CalleeWK X.prog X.w X.K X.mg X.base k x
/-- what a word is told of -/
def rdW (K : PySem.W.Frag) (i : Nat) (a : Addr) (d : Option Addr) (x : Str) : TE := fun σ H Q => σ[i]? = some (some (.ref a)) ∧ (∀ dx, d = some dx → ∃ fs, H dx = some (.xd fs)) ∧ ∃ ρ S, HR K ρ H S ∧ ∀ ρ' H' v, HR K ρ' H' (wordS x S) → Ext K ρ H ρ' H' → VR K ρ' H' (wordIV x) v → Q v H'
section
variable {Y : Cx} {p : Addr × Obj} {x e nm : Str} {d : Option Addr} {k i : Nat} {q q1 q2 pos : Pos}
theorem pe_word (hp : p ∈ Y.pn) (hh : L2H.Hot1 Y.A p) (hx : x ∈ exAll) (hz : Zc (.ref (He.ga Y.K x)) d p.2) (cw : CalleeW Y k nm) (hr : L2H.RoomH k Y.A) (hg : Gl Y nm) (hdb : (nm == ("__debug__" : Str)) = false) (he : PE Y (.Name e q) (tVar i)) : PE Y (.Call (.Name nm q1) [.Name e q] [] pos) (rdW Y.K i p.1 d x) := by
  obtain ⟨f, fd, F, hm, hk⟩ := cw.ex
  refine ⟨fun pins s σ H Q I ⟨es, hd, ρ, S, h0, hq⟩ => wpAny_Call_Name_kw (ld_glob I hg hm ?_ hdb)⟩
  refine PySem.W.callWith_K (h₀ := Y.base) I.ok.mod.kin hk (thn ((pa_cons he pa_nil).run pos pins s σ H (fun vs H1 => vs = [.ref p.1] ∧ H1 = H) I ⟨.ref p.1, es, rfl, rfl⟩) fun us s1 ⟨vs, H1, I1, r, e1, e2⟩ => ⟨I1.kIn, ?_⟩) rfl rfl
  subst e1
  rw [e2] at I1
  obtain rfl : us = [Value.ref p.1] := by
    cases r with
    | cons r1 r2 =>
      cases r2
      rw [show _ = Value.ref p.1 from r1]
  have P1 := I1.pin p (List.mem_append_left _ hp)
  have hpin : L2H.PinOk Y.stack H s1 p := ⟨P1.1, P1.2.1, fun hm => (List.mem_cons.mp (I1.stkSub p.1 hm)).elim P1.2.2.1 P1.2.2.2.1, P1.2.2.2.2⟩
  refine wpAny_call (codeAny_mono (F.run Y.A Y.stack s1 H p x d Q (fun _ _ _ => False) hx hr hh hpin hz (fun dx ed => ?_) I1.env0 ⟨ρ, S, h0, hq⟩) fun r s' hq => ?_)
  · obtain ⟨fs, g⟩ := hd dx ed
    obtain ⟨mA, ⟨o, es, ep, g2, _⟩, _⟩ : ObjOk Y.prog Y.w H s1.heap dx (.xd fs) := I1.hok dx _ g
    exact ⟨o, g2⟩
  · cases r with
    | error e =>
      obtain ⟨_, _, _, _, _, _, _, _, _, _, _, _, z⟩ := (show L2N.CX Y.prog Y.w Y.stack H s1 (fun _ _ _ => False) e s' from hq)
      exact z.elim
    | ok fl =>
      cases fl with
      | ret u => exact I1.after hq
      | next => exact False.elim hq
      | brk => exact False.elim hq
      | cont => exact False.elim hq
end
end JF
set_option maxHeartbeats 1000000
/-! JV: told(lambda: e). -/
namespace JF
open PySem PySem.Spec PyProof.Rows L2 HotX

/-! ### the suites of the telling def -/
section
variable (K : PySem.W.Frag) (i : Nat)
def tsF (y : Str) : Addr → Value → Option Addr → TS := fun a cls d D σ H => ∃ (ρ : List Addr) (S : SH) (v : IV) (xv : V) (dx : Addr), cls = .ref (He.ga K y) ∧ d = some dx ∧ dx ∉ ρ ∧ H dx = some (.xd [(exField y, xv)]) ∧ σ[i]? = some (some (.ref a)) ∧ HR K ρ H S ∧ VR K ρ H v xv ∧
  ∀ ρ' H' z, HR K ρ' H' (wordS y S) → Ext K ρ H ρ' H' → VR K ρ' H' (.tup [.str "refused", .str y, v]) z → D.rt z H'
def tsP : Addr → Value → Option Addr → TS := fun a cls d D σ H => ∃ (ρ : List Addr) (S : SH) (x : Str), x ∈ exAll ∧ cls = .ref (He.ga K x) ∧ d = none ∧ σ[i]? = some (some (.ref a)) ∧ HR K ρ H S ∧ ∀ ρ' H' z, HR K ρ' H' (wordS x S) → Ext K ρ H ρ' H' → VR K ρ' H' (wordIV x) z → D.rt z H'
end
theorem fld_mem {y : Str} (h : y ∈ exFld) : y ∈ exAll := by
  simp only [exFld, exAll, List.mem_cons, List.not_mem_nil, or_false] at h ⊢
  rcases h with h | h | h
  · exact .inl h
  · exact .inr (.inl h)
  · exact .inr (.inr (.inl h))
section
variable {X : Cx} {a : Addr} {oe : Obj} {cls : Value} {d : Option Addr} {pn : List (Addr × Obj)} {e nm y : Str} {k i kk : Nat} {q1 q2 q3 q4 q5 q6 q7 q8 : Pos}
theorem hot_suite (hz : L2N.Zn cls d oe) (hf : ∃ vs, oe.data = .fields vs) : L2H.Hot1 (X.suite a ((a, oe) :: pn)).A (a, oe) := by
  obtain ⟨vs, hv⟩ := hf
  exact ⟨rfl, vs, hv, hz.2.2 vs hv⟩
theorem suiteF (ek : ExK X.K) (hy : y ∈ exFld) (hz : L2N.Zn cls d oe) (hf : ∃ vs, oe.data = .fields vs) (cw : CalleeW X k nm) (hr : L2H.RoomH k X.A) (hg : Gl X nm) (hdb : (nm == ("__debug__" : Str)) = false) (hN : X.N[i]? = some e) (hv : Vis X.env.scope e) (hd : (e == ("__debug__" : Str)) = false) (hcd : (e == ("__classdict__" : Str)) = false) :
    PSs (X.suite a ((a, oe) :: pn)) [.Return (some (.BinOp (.Call (.Name nm q1) [.Name e q2] [] q3) .Add (.Tuple [.Attribute (.Name e q4) (exField y) q5] kk q6) q7)) q8] (tsF X.K i y a cls d) := by
  refine ⟨fun pins s σ H D I ⟨ρ, S, v, xv, dx, ec, ed, nd, hx, es, hr0, rv, hq⟩ => ?_⟩
  subst ec
  have fk := fld_mem hy
  have C := ek.isc y fk
  have pv : ∀ q, PE (X.suite a ((a, oe) :: pn)) (.Name e q) (tVar i) := fun q => pe_var hN hv hd hcd
  have pw : PE (X.suite a ((a, oe) :: pn)) (.Call (.Name nm q1) [.Name e q2] [] q3) (rdW X.K i a d y) := pe_word (Y := X.suite a ((a, oe) :: pn)) (p := (a, oe)) List.mem_cons_self (hot_suite hz hf) fk hz.zc ⟨cw.ex⟩ ⟨hr.dp, hr.un⟩ hg hdb (pv q2)
  have pf := pe_xf (X := X) (pn := pn) (cls := .ref (He.ga X.K y)) (C := He.ga X.K y) (pos := q5) ⟨C.ga, C.gg, C.be, C.hd⟩ (ek.fld y hy) hz.zc hf (pv q4) rfl
  refine (pss_one (ps_ret (pos := q8) (pe_op (pos := q7) (op := .Add) (r := rI2 X.K (addF false)) (o_add (X := X.suite a ((a, oe) :: pn)) false) pw (pe_tup (pos := q6) (x1 := kk) (pa_cons pf pa_nil (by rfl)))))).run pins s σ H D I ?_
  refine ⟨es, fun dx' e' => ⟨_, by rw [ed] at e'; cases e'; exact hx⟩, ρ, S, hr0, fun ρ1 H1 w h1 e1 r1 => ?_⟩
  refine ⟨.ref a, es, rfl, rfl, dx, _, xv, ed, e1.keep _ _ hx nd (fun _ z => nomatch z), by simp [List.lookup], by show 1 ≤ sizeLine; rw [sizeLine_eq]; omega, fun p hp => ?_⟩
  obtain ⟨g1, g2, g3⟩ := new_tup (us := [v]) h1 (xs := [xv]) (by simp only [VRs]; exact ⟨xv, [], rfl, rv.ext e1, rfl⟩) hp
  refine ⟨ρ1, _, wordIV y, .tup [v], g1, r1.ext g2, g3, .tup [.str "refused", .str y, v], _, ?_, fun ρ' H' z a b c => hq ρ' H' z a ((e1.trans g2).trans b) c⟩
  simp only [wordIV, addF]
  rw [if_pos ⟨by simp, by simp; rw [sizeLine_eq]; omega⟩]
  rfl
theorem suiteP (ek : ExK X.K) (hz : L2N.Zn cls d oe) (hf : ∃ vs, oe.data = .fields vs) (cw : CalleeW X k nm) (hr : L2H.RoomH k X.A) (hg : Gl X nm) (hdb : (nm == ("__debug__" : Str)) = false) (hN : X.N[i]? = some e) (hv : Vis X.env.scope e) (hd : (e == ("__debug__" : Str)) = false) (hcd : (e == ("__classdict__" : Str)) = false) :
    PSs (X.suite a ((a, oe) :: pn)) [.Return (some (.Call (.Name nm q1) [.Name e q2] [] q3)) q8] (tsP X.K i a cls d) := by
  refine ⟨fun pins s σ H D I ⟨ρ, S, x, hx, ec, ed, es, hr0, hq⟩ => ?_⟩
  subst ec
  have pv : PE (X.suite a ((a, oe) :: pn)) (.Name e q2) (tVar i) := pe_var hN hv hd hcd
  have pw : PE (X.suite a ((a, oe) :: pn)) (.Call (.Name nm q1) [.Name e q2] [] q3) (rdW X.K i a d x) := pe_word (Y := X.suite a ((a, oe) :: pn)) (p := (a, oe)) List.mem_cons_self (hot_suite hz hf) hx hz.zc ⟨cw.ex⟩ ⟨hr.dp, hr.un⟩ hg hdb pv
  exact (pss_one (ps_ret (pos := q8) pw)).run pins s σ H D I ⟨es, fun dx' e' => (by rw [ed] at e'; cases e'), ρ, S, hr0, hq⟩
end
/-! ### told -/
def toldX (e : Ex) (S : SH) : R IV := match e.arg with
  | none => if e.cls ∈ exPlain then .ok (wordIV e.cls) (wordS e.cls S) else .bad
  | some v => if e.cls ∈ exFld then .ok (.tup [.str "refused", .str e.cls, v]) (wordS e.cls S) else .bad
def dTold (d : Ed) : Ed := fun en τ S => match d en τ S with
  | .ok v S => .ok v S
  | .exc e S => toldX e S
  | .bad => .bad
theorem plain_mem : ∀ {y : Str}, y ∈ exPlain → y ∈ exAll ∧ ∀ z ∈ exFld, y ≠ z := by
  have h : ∀ y ∈ exPlain, y ∈ exAll ∧ ∀ z ∈ exFld, y ≠ z := by decide +kernel
  exact fun {y} hy => h y hy
def toldL (K : PySem.W.Frag) : List (Value × (Addr → Value → Option Addr → TS)) := [(.ref (He.ga K "NoOne"), tsF K 1 "NoOne"), (.ref (He.ga K "Taken"), tsF K 1 "Taken"), (.ref (He.ga K "BadJournal"), tsF K 1 "BadJournal"), (.ref (He.ga K "RoofError"), tsP K 1)]
theorem wMA_told {K : PySem.W.Frag} (ek : ExK K) {W : WX} {D : Ends} {ρ : List Addr} {H : Hp} {S : SH} {e : Ex} {cls : Value} {d : Option Addr} {σ : L2.St} (hl : σ.length = 2) (hr : HR K ρ H S) (re : ExR K ρ H e cls d)
    (hq : Post K (fun _ _ _ _ => False) [] ρ H (relV K) (toldX e S) D.rt) : wMA K 1 W D (toldL K) cls d σ H := by
  obtain ⟨rfl, ra⟩ := re
  have set1 : ∀ a : Addr, (σ.set 1 (some (V.ref a)))[1]? = some (some (V.ref a)) := fun a => List.getElem?_set_self (by omega)
  unfold toldX at hq
  cases ea : e.arg with
  | none =>
    rw [ea] at ra hq
    have ra : d = none := ra
    by_cases hp : e.cls ∈ exPlain
    · obtain ⟨hm, hne⟩ := plain_mem hp
      have hq : Post K (fun _ _ _ _ => False) [] ρ H (relV K) (.ok (wordIV e.cls) (wordS e.cls S)) D.rt := by simpa only [if_pos hp] using hq
      have no : ∀ y ∈ exFld, PySem.W.exmOne K (.ref (He.ga K e.cls)) (.ref (He.ga K y)) = some false := fun y hy => by rw [ek.exm _ hm y hy, decide_eq_false (hne y hy)]
      refine ⟨false, no "NoOne" (by decide), (fun z => nomatch z), fun _ => ⟨false, no "Taken" (by decide), (fun z => nomatch z), fun _ => ⟨false, no "BadJournal" (by decide), (fun z => nomatch z), fun _ => ⟨true, ek.exr _ hm, fun _ a na => ?_, (fun z => nomatch z)⟩⟩⟩⟩
      exact ⟨ρ, S, e.cls, hm, rfl, ra, set1 a, hr, fun ρ' H' z a b c => hq ρ' H' z a b c⟩
    · have hq : Post K (fun _ _ _ _ => False) [] ρ H (relV K) (if e.cls ∈ exPlain then R.ok (wordIV e.cls) (wordS e.cls S) else .bad) D.rt := hq
      rw [if_neg hp] at hq
      exact hq.elim
  | some v =>
    rw [ea] at ra hq
    by_cases hp : e.cls ∈ exFld
    · have hm := fld_mem hp
      have hq : Post K (fun _ _ _ _ => False) [] ρ H (relV K) (.ok (.tup [.str "refused", .str e.cls, v]) (wordS e.cls S)) D.rt := by simpa only [if_pos hp] using hq
      obtain ⟨dx, x, ed, nd, hx, rv⟩ := ra
      have yes : ∀ (W : WX) (y : Str), e.cls = y → ∀ a, H a = none → tsF K 1 y a (.ref (He.ga K e.cls)) d (unAs 1 D) (σ.set 1 (some (.ref a))) H := fun W y ey a na => by
        subst ey
        exact ⟨ρ, S, v, x, dx, rfl, ed, nd, hx, set1 a, hr, rv, fun ρ' H' z a b c => hq ρ' H' z a b c⟩
      have ex := ek.exm e.cls hm
      refine ⟨_, ex "NoOne" (by decide), fun z => yes W _ (of_decide_eq_true z), fun z1 => ⟨_, ex "Taken" (by decide), fun z => yes W _ (of_decide_eq_true z), fun z2 => ⟨_, ex "BadJournal" (by decide), fun z => yes W _ (of_decide_eq_true z), fun z3 => ?_⟩⟩⟩
      exfalso
      have n1 := of_decide_eq_false z1
      have n2 := of_decide_eq_false z2
      have n3 := of_decide_eq_false z3
      simp only [exFld, List.mem_cons, List.not_mem_nil, or_false] at hp
      rcases hp with h | h | h
      · exact n1 h
      · exact n2 h
      · exact n3 h
    · have hq : Post K (fun _ _ _ _ => False) [] ρ H (relV K) (if e.cls ∈ exFld then R.ok (.tup [.str "refused", .str e.cls, v]) (wordS e.cls S) else .bad) D.rt := hq
      rw [if_neg hp] at hq
      exact hq.elim
end JF
set_option maxHeartbeats 1000000
/-! JZ: told(lambda: e), as an expression; defs that make lambdas. -/
namespace JF
open PySem PySem.Spec PyProof.Rows L2 HotX

theorem tkEq {K : PySem.W.Frag} {p : He.Defn × Str} (h : p ∈ lamDefs) : ((He.cT K p.1).2, p.2) ∈ Tk K := List.mem_map.mpr ⟨p, h, rfl⟩
/-- the tables stand apart -/
def tabsApart (K : PySem.W.Frag) : Bool := lamDefs.all fun p => lamDefs.all fun q => !decide ((He.cT K p.1).2 = (He.cT K q.1).2) || decide (p.2 = q.2)
theorem tabsApart_ok {K : PySem.W.Frag} (h : tabsApart K = true) {p : He.Defn × Str} (hp : p ∈ lamDefs) : ∀ q ∈ Tk K, q.1 = (He.cT K p.1).2 → q.2 = p.2 := fun q hq e => by
  obtain ⟨r, hr, rfl⟩ := List.mem_map.mp hq
  have h1 := List.all_eq_true.mp (List.all_eq_true.mp h r hr) p hp
  rcases Bool.or_eq_true_iff.mp h1 with h2 | h2
  · have e : (He.cT K r.1).2 = (He.cT K p.1).2 := e
    rw [decide_eq_true e] at h2
    cases h2
  · exact of_decide_eq_true h2
/-- the telling def, its clauses' classes, the def that it calls -/
structure CalleeTK (P : Program) (w : World) (K : PySem.W.Frag) (mg : Str → Option Value) (base : Heap) (kw : Nat) (nm : Str) : Prop where
  ek : ExK K
  cls : ∀ x ∈ (["NoOne", "Taken", "BadJournal", "RoofError"] : List Str), mg x = some (.ref (He.ga K x))
  word : CalleeWK P w K mg base kw "_law_word"
  mg : mg nm = some (.ref (He.fAd K (nm, none)))
  tel : ∃ (fd : FuncData) (params : Arguments) (body : List Stmt) (sg : Scope) (pr pe : Str), FunD K nm nm params body sg [] [] (He.fAd K (nm, none)) fd ∧ L2.Binds K fd [pr] [] ∧ FnScope [pr, pe] [pr] sg ∧ Vis sg pr ∧ sg.names.lookup pe = some .local ∧ (pr == ("__debug__" : Str)) = false ∧ (pr == ("__classdict__" : Str)) = false ∧ (pe == ("__debug__" : Str)) = false ∧ (pe == ("__classdict__" : Str)) = false ∧
    sg.names.lookup ("NoOne" : Str) = some .globalImplicit ∧ sg.names.lookup ("Taken" : Str) = some .globalImplicit ∧ sg.names.lookup ("BadJournal" : Str) = some .globalImplicit ∧ sg.names.lookup ("RoofError" : Str) = some .globalImplicit ∧ sg.names.lookup ("_law_word" : Str) = some .globalImplicit ∧
    ∃ (p1 p2 p3 p8 a1 a2 a3 a4 a5 a6 a7 a8 a9 a10 b1 b2 b3 b4 b5 b6 b7 b8 b9 b10 c1 c2 c3 c4 c5 c6 c7 c8 c9 c10 d1 d2 d3 d4 d5 d6 : Pos) (k1 k2 k3 : Nat), body = [.Try [.Return (some (.Call (.Name pr p1) [] [] p2)) p3] [
      .ExceptHandler (some (.Name "NoOne" a1)) (some pe) [.Return (some (.BinOp (.Call (.Name "_law_word" a2) [.Name pe a3] [] a4) .Add (.Tuple [.Attribute (.Name pe a5) "who" a6] k1 a7) a8)) a9] a10,
      .ExceptHandler (some (.Name "Taken" b1)) (some pe) [.Return (some (.BinOp (.Call (.Name "_law_word" b2) [.Name pe b3] [] b4) .Add (.Tuple [.Attribute (.Name pe b5) "taken" b6] k2 b7) b8)) b9] b10,
      .ExceptHandler (some (.Name "BadJournal" c1)) (some pe) [.Return (some (.BinOp (.Call (.Name "_law_word" c2) [.Name pe c3] [] c4) .Add (.Tuple [.Attribute (.Name pe c5) "row" c6] k3 c7) c8)) c9] c10,
      .ExceptHandler (some (.Name "RoofError" d1)) (some pe) [.Return (some (.Call (.Name "_law_word" d2) [.Name pe d3] [] d4)) d5] d6] [] [] p8]
abbrev CalleeT (X : Cx) (kw : Nat) (nm : Str) : Prop := CalleeTK X.prog X.w X.K X.mg X.base kw nm
theorem ext_lam {K : PySem.W.Frag} {ρ : List Addr} {H H1 : Hp} {S : SH} (hr : HR K ρ H S) (e : LamX.ExtN H H1) (t : LamX.Tabs (Tk K) H1) : HR K ρ H1 S ∧ Ext K ρ H ρ H1 := by
  have ex : Ext K ρ H ρ H1 := ⟨⟨[], by simp, by simp⟩, fun b o h _ nt => e b o h nt, fun b o u h => e b _ h (fun _ z => nomatch z), fun _ => t⟩
  refine ⟨hr.off ex.tr fun a ha => ?_, ex⟩
  obtain ⟨n, l, en⟩ := List.getElem_of_mem ha
  have q : ρ[n]? = some a := by rw [List.getElem?_eq_getElem l, en]
  obtain ⟨c, hc⟩ := hr.there q
  obtain ⟨o, ho⟩ := (hr.cell n c a hc q).some
  rw [ho]
  exact e a o ho fun ps z => (hr.nt q).1 ps (by rw [ho, z])
theorem s_told {X : Cx} {en : En} {W : WX} {k kw : Nat} {nm : Str} {params : Arguments} {body : Expr} {scope : Scope} {p lpos pos : Pos} {d : Ed} {df : He.Defn × Str} (T : CalleeT X kw nm) (hg : Gl X nm) (hdb : (nm == ("__debug__" : Str)) = false) (hk : PySem.W.keepIn X.K (.ref (He.fAd X.K (nm, none))) = true)
    (hlam : df ∈ lamDefs) (hq : X.env.qual ++ "<lambda>" = df.2) (ap : tabsApart X.K = true) (hcode : X.env.code = .ref (He.cT X.K df.1).1) (TB : LamX.TabB X.base X.mg (He.cT X.K df.1).1 (He.cT X.K df.1).2) (hr : Room (k + 2) X.A) (hkw : Room (kw + 1) X.A) (L : LamX.LamS X.env.scope scope) (hdef : defaultsOf params X.env = ([], []))
    (hbind : ∀ (q : Str) (cl : List (Str × Addr)) (pm cv ctv : Value), bindArgs (PySem.W.kla_fn "<lambda>" q params body scope cl pm cv ctv) ⟨[], []⟩ = pure [])
    (hbody : ∀ (A : Around) (outer : List Env) (s : Shared) (H : Hp) (E : XK) (f c' : Addr), Room k (A.deeper (LamX.lamEnv X scope s.heap.objs.size f c')) → PE (lamN X A outer s H E scope f c') body (tE X.K en (fun c d _ H => E c d H) d)) :
    PE X (.Call (.Name nm p) [.Lambda params body scope lpos] [] pos) (tE X.K en W (dTold d)) := by
  refine ⟨fun pins s σ H Q I ⟨ρ, S, τ, hr0, sr, h⟩ => wpAny_Call_Name_kw (ld_glob I hg T.mg ?_ hdb)⟩
  refine PySem.W.callWith_K (h₀ := X.base) I.ok.mod.kin hk ?_ (by rfl) (by rfl)
  show wpAny _ _ (spliced ((false, eval (.Lambda params body scope lpos) X.env) :: backTo pos (starEach [] X.env))) _ _ s
  refine Calls.spliced_cons (LamX.lam_make2 (T := Tk X.K) I TB hcode (by rw [hq]; exact tkEq hlam) (by rw [hq]; exact tabsApart_ok ap hlam) hr0.tab hdef (L.has I.ok) fun f c' pm' ctv H1 s' I1 eN T1 hf hfn hfr hco => ?_)
  refine Calls.spliced_nil ⟨I1.kIn, ?_⟩
  obtain ⟨hr1, ex1⟩ := ext_lam hr0 eN T1
  obtain ⟨fd, pg, bg, sg, pr, pe, F, hb, Sg, hva, hle, n1, n2, n3, n4, g1, g2, g3, g4, g5, p1, p2, p3, p8, a1, a2, a3, a4, a5, a6, a7, a8, a9, a10, b1, b2, b3, b4, b5, b6, b7, b8, b9, b10, c1, c2, c3, c4, c5, c6, c7, c8, c9, c10, d1, d2, d3, d4, d5, d6, k1, k2, k3, rfl⟩ := T.tel
  obtain ⟨oc, od, dV, kV, doc, pm, an, cdv, ct, osl, rfl, lk, hcd, _, _⟩ := F.ex
  have nd : pr ≠ pe := fun z => by
    have := Sg.nd
    rw [z] at this
    simp at this
  refine wpAny_call (codeAny_mono (LamX.run_ofS (CX := L2N.CX X.prog X.w) (E := fun _ _ _ => False) (Q := Q) (k := k + 1) (N := [pr, pe]) (ps := [pr]) (us := [.ref f]) (vs := [.ref f]) lk hcd Sg hr I1.env0 (hb s' [.ref f] I1.kIn rfl) (.cons rfl .nil) rfl fun hr' => ?_) fun r s2 hq => ?_)
  · have zr : L2H.RoomH kw (X.A.deeper (envOfC nm sg s'.heap.objs.size (He.fAd X.K (nm, none)) cdv)) := L2H.roomH_of (hkw.deeper _)
    refine ⟨_, pss_one (j_tryA (X := cxOf (L2N.CX X.prog X.w) X.prog X.w X.K X.mg X.base [pr, pe] nm sg (He.fAd X.K (nm, none)) cdv X.A X.stack s' H1 (fun _ _ _ => False)) (n := pe) (i := 1) (l := toldL X.K) (Wout := fun _ _ _ _ => False)
      (tb := fun W D σZ HZ => ∃ Ech : XK, (∀ cls d (σ' : L2.St) H', σ'.length = 2 → Ech cls d H' → W cls d σ' H') ∧ σZ[0]? = some (some (.ref f)) ∧ HZ c' = some (LamX.CodeO c' (X.env.qual ++ "<lambda>")) ∧ tE X.K en (fun c d _ H => Ech c d H) d σ HZ D.rt)
      rfl rfl Sg.nd rfl hle (fun u s' x => by obtain ⟨_, _, _, _, _, _, _, _, _, _, _, _, _, _, _, _, z⟩ := x; exact z.elim) (fun W pn xe tk => ?_) ?_), ?_⟩
    · refine ⟨fun pinsZ sZ σZ HZ D IZ ⟨Ech, hW, e0, ec, ht⟩ => ?_⟩
      exact (pss_one (ps_ret (pos := p3) (actN (p1 := p1) (p2 := p2) (i := 0) I1 L hf hfn hfr (hbind _ _ _ _ _) tk hW hr' (fun A outer s H hr2 => hbody A outer s H Ech f c' hr2) rfl hva n1 n2))).run pinsZ sZ σZ HZ D IZ ⟨e0, ec, ht⟩
    · have vis : Vis sg pe := .inl hle
      have nm' : ∀ {x : Str}, x ∈ (["NoOne", "Taken", "BadJournal", "RoofError"] : List Str) → sg.names.lookup x = some .globalImplicit → (x == ("__debug__" : Str)) = false → Names (cxOf (L2N.CX X.prog X.w) X.prog X.w X.K X.mg X.base [pr, pe] nm sg (He.fAd X.K (nm, none)) cdv X.A X.stack s' H1 (fun _ _ _ => False)) x (.ref (He.ga X.K x)) := fun hx hl hd => ⟨hl, hd, .inl (T.cls _ hx)⟩
      refine .cons (nm' (by decide) g1 (by decide)) (fun a oe cls d pn hz hv => ?_) (.cons (nm' (by decide) g2 (by decide)) (fun a oe cls d pn hz hv => ?_) (.cons (nm' (by decide) g3 (by decide)) (fun a oe cls d pn hz hv => ?_) (.cons (nm' (by decide) g4 (by decide)) (fun a oe cls d pn hz hv => ?_) .nil)))
      · exact suiteF (y := "NoOne") T.ek (by decide) hz hv ⟨T.word.ex⟩ zr g5 (by decide) rfl vis n3 n4
      · exact suiteF (y := "Taken") T.ek (by decide) hz hv ⟨T.word.ex⟩ zr g5 (by decide) rfl vis n3 n4
      · exact suiteF (y := "BadJournal") T.ek (by decide) hz hv ⟨T.word.ex⟩ zr g5 (by decide) rfl vis n3 n4
      · exact suiteP T.ek hz hv ⟨T.word.ex⟩ zr g5 (by decide) rfl vis n3 n4
    · refine ⟨fun cls d H' => ∀ σ' : L2.St, σ'.length = 2 → wMA X.K 1 (fun _ _ _ _ => False) { nx := fun _ H' => Q .non H', rt := Q } (toldL X.K) cls d σ' H', fun cls d σ' H' hl q => q σ' hl, rfl, hco, ρ, S, τ, hr1, sr.ext ex1, ?_⟩
      have h := Post.at ex1 h
      revert h
      unfold dTold
      cases d en τ S with
      | ok v S1 => exact id
      | bad => exact id
      | exc e S1 =>
        intro h ρ' H' cls dd a b c σ' hl
        refine wMA_told T.ek hl a c ?_
        have h := Post.at b h
        revert h
        show Post _ _ _ _ _ _ (toldX e S1) _ → _
        generalize hz : toldX e S1 = z
        cases z with
        | ok v S2 => exact id
        | bad => exact id
        | exc e2 S2 =>
          exfalso
          unfold toldX at hz
          split at hz <;> split at hz <;> cases hz
  · cases r with
    | error e =>
      obtain ⟨_, _, _, _, _, _, _, _, _, _, _, _, z⟩ := (show L2N.CX X.prog X.w X.stack H1 s' (fun _ _ _ => False) e s2 from hq)
      exact z.elim
    | ok fl =>
      cases fl with
      | ret u => exact I1.after hq
      | next => exact False.elim hq
      | brk => exact False.elim hq
      | cont => exact False.elim hq
end JF
set_option maxHeartbeats 1000000
/-! JS: short forms for the walks. -/
namespace JF
open PySem PySem.Spec PyProof.Rows L2 HotX
def visB (sc : Scope) (x : Str) : Bool := match sc.names.lookup x with
  | some .local => true
  | some .cell => true
  | some .free => true
  | _ => false
theorem vis_of {sc : Scope} {x : Str} (h : visB sc x = true) : Vis sc x := by
  unfold visB at h
  split at h
  · rename_i e; exact .inl e
  · rename_i e; exact .inr (.inl e)
  · rename_i e; exact .inr (.inr e)
  · cases h
def locB (sc : Scope) (x : Str) : Bool := match sc.names.lookup x with
  | some .local => true
  | some .cell => true
  | _ => false
theorem loc_of {sc : Scope} {x : Str} (h : locB sc x = true) : Loc sc x := by
  unfold locB at h
  split at h
  · rename_i e; exact .inl e
  · rename_i e; exact .inr e
  · cases h
theorem takesF {X : Cx} : L2N.Takes X WF := fun u s' x => by
  obtain ⟨_, _, _, _, _, _, _, _, _, _, _, _, _, _, _, _, z⟩ := x
  exact z.elim
theorem flatF : Flat WF := fun _ _ _ _ _ h => h
theorem flatE {E : XK} : Flat (fun c d _ H => E c d H) := fun _ _ _ _ _ h => h
theorem room_hu {k : Nat} {A : Around} (r : Room k A) : A.units + 65 < cLine := by have := r.un; omega
theorem hu1 {A : Around} (r : A.units + 65 < cLine) : A.units + 1 < cLine := by omega
theorem hu64 {A : Around} (r : A.units + 65 < cLine) : A.units + 64 < cLine := by omega
section
variable {X : Cx} {en : En} {W : WX} {pos p p2 apos cpos : Pos} {o e e2 : Expr} {es : List Expr} {d d2 : Ed} {ds : Ad}
theorem s_gint {x : Str} {i : Int} (hm : ∃ t, X.mg x = some (.int i t)) (hg : Gl X x) (hd : (x == ("__debug__" : Str)) = false) : PE X (.Name x pos) (tE X.K en W (dCst (.int i))) := by
  obtain ⟨t, h⟩ := hm
  exact s_cst (v := .int i) (pe_glob hg h ⟨t, rfl⟩ hd) fun _ _ => vr_int
theorem s_gstr {x z : Str} (hm : ∃ t, X.mg x = some (.str z t)) (hg : Gl X x) (hd : (x == ("__debug__" : Str)) = false) : PE X (.Name x pos) (tE X.K en W (dCst (.str z))) := by
  obtain ⟨t, h⟩ := hm
  exact s_cst (v := .str z) (pe_glob hg h ⟨t, rfl⟩ hd) fun _ _ => vr_str
theorem s_int {i : Int} {j : Nat} : PE X (.Constant (.int i) j pos) (tE X.K en W (dCst (.int i))) := s_cst (v := .int i) pe_int fun _ _ => vr_int
theorem s_str {z : Str} {j : Nat} : PE X (.Constant (.str z) j pos) (tE X.K en W (dCst (.str z))) := s_cst (v := .str z) pe_str fun _ _ => vr_str
theorem s_bl {b : Bool} {j : Nat} : PE X (.Constant (.bool b) j pos) (tE X.K en W (dCst (.bl b))) := s_cst (v := .bl b) pe_bl fun _ _ => vr_bl
theorem s_non {j : Nat} : PE X (.Constant .none j pos) (tE X.K en W (dCst .non)) := s_cst (v := .non) pe_non fun _ _ => vr_non
/-- a method's call on one line with written arguments -/
theorem k_append (ho : PE X o (tE X.K en W d)) (ha : PA X (e :: es) (tA X.K en W ds)) (hns : (e :: es).all notStar = true) (hbase : attributeBase o "append" X.env (eval o X.env) = eval o X.env)
    (hfew : ((backTo cpos (starEach (e :: es) X.env)).all (fun x => !x.1) && (backToKw cpos (keywordEach [] X.env)).all (fun x => x.1.isSome) && decide ((e :: es).length + ([] : List Keyword).length + (if ([] : List Keyword).isEmpty then 0 else 1) < 30)) = true) (hline : (apos.endLine == cpos.line) = true) :
    PE X (.Call (.Attribute o "append" apos) (e :: es) [] cpos) (tE X.K en W (dMt tyL appendF d ds)) := s_mt F.plainAttrs_list slot_list_append (by show builtinType _ = _; rw [builtinType_eq_fast]; kernel_rfl) m_append tyL_ok ho ha hns hbase hfew hline
theorem k_index (ho : PE X o (tE X.K en W d)) (ha : PA X (e :: es) (tA X.K en W ds)) (hns : (e :: es).all notStar = true) (hbase : attributeBase o "index" X.env (eval o X.env) = eval o X.env)
    (hfew : ((backTo cpos (starEach (e :: es) X.env)).all (fun x => !x.1) && (backToKw cpos (keywordEach [] X.env)).all (fun x => x.1.isSome) && decide ((e :: es).length + ([] : List Keyword).length + (if ([] : List Keyword).isEmpty then 0 else 1) < 30)) = true) (hline : (apos.endLine == cpos.line) = true) :
    PE X (.Call (.Attribute o "index" apos) (e :: es) [] cpos) (tE X.K en W (dMt tyL indexF d ds)) := s_mt F.plainAttrs_list F.slot_list_index (by show builtinType _ = _; rw [builtinType_eq_fast]; kernel_rfl) m_index tyL_ok ho ha hns hbase hfew hline
theorem k_pop (ho : PE X o (tE X.K en W d)) (ha : PA X (e :: es) (tA X.K en W ds)) (hns : (e :: es).all notStar = true) (hbase : attributeBase o "pop" X.env (eval o X.env) = eval o X.env)
    (hfew : ((backTo cpos (starEach (e :: es) X.env)).all (fun x => !x.1) && (backToKw cpos (keywordEach [] X.env)).all (fun x => x.1.isSome) && decide ((e :: es).length + ([] : List Keyword).length + (if ([] : List Keyword).isEmpty then 0 else 1) < 30)) = true) (hline : (apos.endLine == cpos.line) = true) :
    PE X (.Call (.Attribute o "pop" apos) (e :: es) [] cpos) (tE X.K en W (dMt tyL popF d ds)) := s_mt F.plainAttrs_list F.slot_list_pop (by show builtinType _ = _; rw [builtinType_eq_fast]; kernel_rfl) m_pop tyL_ok ho ha hns hbase hfew hline
theorem k_count (ho : PE X o (tE X.K en W d)) (ha : PA X (e :: es) (tA X.K en W ds)) (hns : (e :: es).all notStar = true) (hbase : attributeBase o "count" X.env (eval o X.env) = eval o X.env)
    (hfew : ((backTo cpos (starEach (e :: es) X.env)).all (fun x => !x.1) && (backToKw cpos (keywordEach [] X.env)).all (fun x => x.1.isSome) && decide ((e :: es).length + ([] : List Keyword).length + (if ([] : List Keyword).isEmpty then 0 else 1) < 30)) = true) (hline : (apos.endLine == cpos.line) = true) :
    PE X (.Call (.Attribute o "count" apos) (e :: es) [] cpos) (tE X.K en W (dMt tyStr countF d ds)) := s_mt F.plainAttrs_str F.slot_str_count (by show builtinType _ = _; rw [builtinType_eq_fast]; kernel_rfl) m_count tyStr_ok ho ha hns hbase hfew hline
theorem k_split (ho : PE X o (tE X.K en W d)) (ha : PA X (e :: es) (tA X.K en W ds)) (hns : (e :: es).all notStar = true) (hbase : attributeBase o "split" X.env (eval o X.env) = eval o X.env)
    (hfew : ((backTo cpos (starEach (e :: es) X.env)).all (fun x => !x.1) && (backToKw cpos (keywordEach [] X.env)).all (fun x => x.1.isSome) && decide ((e :: es).length + ([] : List Keyword).length + (if ([] : List Keyword).isEmpty then 0 else 1) < 30)) = true) (hline : (apos.endLine == cpos.line) = true) :
    PE X (.Call (.Attribute o "split" apos) (e :: es) [] cpos) (tE X.K en W (dMt tyStr splitF d ds)) := s_mt F.plainAttrs_str F.slot_str_split (by show builtinType _ = _; rw [builtinType_eq_fast]; kernel_rfl) m_split tyStr_ok ho ha hns hbase hfew hline
theorem k_join (ho : PE X o (tE X.K en W d)) (ha : PA X (e :: es) (tA X.K en W ds)) (hns : (e :: es).all notStar = true) (hbase : attributeBase o "join" X.env (eval o X.env) = eval o X.env)
    (hfew : ((backTo cpos (starEach (e :: es) X.env)).all (fun x => !x.1) && (backToKw cpos (keywordEach [] X.env)).all (fun x => x.1.isSome) && decide ((e :: es).length + ([] : List Keyword).length + (if ([] : List Keyword).isEmpty then 0 else 1) < 30)) = true) (hline : (apos.endLine == cpos.line) = true) :
    PE X (.Call (.Attribute o "join" apos) (e :: es) [] cpos) (tE X.K en W (dMt tyStr joinF d ds)) := s_mt F.plainAttrs_str F.slot_str_join (by show builtinType _ = _; rw [builtinType_eq_fast]; kernel_rfl) m_join tyStr_ok ho ha hns hbase hfew hline
/-- xs.pop() -/
theorem k_pop0 (ho : PE X o (tE X.K en W d)) (hbase : attributeBase o "pop" X.env (eval o X.env) = eval o X.env) (hline : (apos.endLine == cpos.line) = true) :
    PE X (.Call (.Attribute o "pop" apos) [] [] cpos) (tE X.K en W (dMt tyL popF d dNil)) := s_mt0 F.plainAttrs_list F.slot_list_pop (by show builtinType _ = _; rw [builtinType_eq_fast]; kernel_rfl) m_pop tyL_ok ho hbase hline
end
/-- a def's promise from its body; the code object is told -/
theorem fn_bodyC {P : Program} {w : World} {K : PySem.W.Frag} {mg : Str → Option Value} {base : Heap} {en : En} {x qual : Str} {params : Arguments} {body : List Stmt} {scope : Scope} {fd : FuncData} {N ps : List Str} {k j n : Nat} {b : Sd} {en1 : En} {df : He.Defn} (F : FunD K x qual params body scope [] [] (He.fAd K df) fd) (S : FnScope N ps scope) (hn : ps.length = n)
    (he : ∀ us S, en1.fn j us S = if us.length = n then runF b N.length en us S else .bad)
    (hb : ∀ (cdv : Value) (A : Around) (outer : List Env) (s : Shared) (H : Hp) (E : XK), cdv = .ref (He.cT K df).1 → Room k (A.deeper (envOfC qual scope s.heap.objs.size (He.fAd K df) cdv)) → PSs (cxOf (L2N.CX P w) P w K mg base N qual scope (He.fAd K df) cdv A outer s H E) body (tS K en (fun c d _ H => E c d H) b)) :
    FnOk P w K mg base (L2N.CX P w) (k + 1) (He.fAd K df) fd ps (spF K en1 j n) := by
  obtain ⟨oc, od, dV, kV, doc, pm, an, cdv, ct, osl, efd, lk, hcd, h1, h2⟩ := F.ex
  have hc : cdv = .ref (He.cT K df).1 := by
    obtain ⟨c, rfl⟩ : ∃ c, cdv = .ref c := by
      unfold PySem.W.codeIn at hcd
      split at hcd
      · exact ⟨_, rfl⟩
      · cases hcd
    exact congrArg Value.ref (He.codeOf_eq lk (by rw [efd] <;> rfl)).symm
  subst efd
  refine fn_of lk hcd S (fun vs H Q E ⟨ρ, S, us, hl, _, r, _⟩ => by rw [← r.length, hl, hn]) fun A outer s H vs Q E hr ⟨ρ, S, us, hl, h1, r, h⟩ => ⟨_, hb cdv A outer s H E hc hr, ρ, S, _, h1, sr_start r, ?_⟩
  rw [he us S, if_pos hl] at h
  unfold runF at h
  revert h
  generalize b en (us.map some ++ List.replicate (N.length - us.length) none) S = z
  cases z with
  | nx τ S1 => exact fun h ρ' H' σ' a b c => h ρ' H' .non a b vr_non
  | ret v S1 => exact fun h ρ' H' x a b c => h ρ' H' x a b c
  | exc e τ S1 => exact fun h ρ' H' σ' cls d a b c dd => h ρ' H' cls d a b dd
  | brk _ _ => exact False.elim
  | cnt _ _ => exact False.elim
  | bad => exact False.elim
end JF
set_option maxHeartbeats 1000000
/-! JR: the table's bottom; the law's def. -/
namespace JF
open PySem PySem.Spec PyProof.Rows L2 HotX
section
variable {P : Program} {w : World} {K : PySem.W.Frag} {mg : Str → Option Value} {base : Heap} {en : En}
theorem fn_bad {f : Addr} {fd : FuncData} {ps : List Str} {k j n : Nat} {CX : CXT} (hn : ps.length = n) (hb : ∀ us S, en.fn j us S = .bad) : FnOk P w K mg base CX k f fd ps (spF K en j n) :=
  ⟨fun vs H Q E ⟨ρ, S, us, hl, _, r, _⟩ => by rw [← r.length, hl, hn], fun A outer s H args us vs Q E _ _ _ _ ⟨ρ, S, us', hl, h1, r, h⟩ => by rw [hb] at h; exact h.elim⟩
/-- a list that is tracked may be locked before a body runs -/
theorem lock0 {X : Cx} {body : List Stmt} {t : TS} (h : PSs X body t) : PSs X body (fun D σ H => t D σ H ∨ ∃ a u, H a = some u ∧ Mut (some u) ∧ ∀ od, t D σ (upd H a (.frz od u))) := ⟨fun pins s σ H D I w => by
  rcases w with w | ⟨a, u, ha, mu, w⟩
  · exact h.run pins s σ H D I w
  · obtain ⟨od, I2⟩ := I.lock ha mu
    exact h.run pins s σ _ D I2 (w od)⟩
/-- the law's promise: true -/
def spLaw (K : PySem.W.Frag) (b : Sd) (l : Nat) (en : En) : Sp := fun vs H Q _ => ∃ (a : Addr) (ns : List Int) (S' : SH), vs = [.ref a] ∧ SqL K H a (ns.map V.int) ∧ LamX.Tabs (Tk K) H ∧ runF b l en [.scr ns] [] = .ok (.bl true) S' ∧ ∀ H', Q (.bl true) H'
theorem hr_nil {H : Hp} (t : LamX.Tabs (Tk K) H) : HR K [] H [] := ⟨rfl, List.nodup_nil, t, fun n c a h _ => by simp at h⟩
theorem law_run {H : Hp} {a : Addr} {ns : List Int} {S' : SH} {b : Sd} {N : List Str} {Q : VK} {E : XK} (ht : LamX.Tabs (Tk K) H) (hs : SqL K H a (ns.map V.int)) (e : runF b N.length en [.scr ns] [] = .ok (.bl true) S') (q : ∀ H', Q (.bl true) H') :
    tS K en (fun c d _ H => E c d H) b { nx := fun _ H' => Q .non H', rt := Q } (L2.start N [.ref a]) H ∨ ∃ a' u, H a' = some u ∧ Mut (some u) ∧ ∀ od, tS K en (fun c d _ H => E c d H) b { nx := fun _ H' => Q .non H', rt := Q } (L2.start N [.ref a]) (upd H a' (.frz od u)) := by
  have key : ∀ H2, LamX.Tabs (Tk K) H2 → (LstAt H2 a (ns.map V.int) ∨ SqK K a (ns.map V.int)) → tS K en (fun c d _ H => E c d H) b { nx := fun _ H' => Q .non H', rt := Q } (L2.start N [.ref a]) H2 := fun H2 t2 s2 => by
    refine ⟨[], [], _, hr_nil t2, sr_start (us := [.scr ns]) (by simp only [VRs, VR]; exact ⟨_, _, rfl, ⟨a, rfl, s2⟩, rfl⟩), ?_⟩
    unfold runF at e
    revert e
    generalize b en (([IV.scr ns] : List IV).map some ++ List.replicate (N.length - ([IV.scr ns] : List IV).length) none) [] = z
    intro e
    cases z with
    | nx τ S1 => cases e
    | ret v S1 =>
      cases e
      intro ρ' H' x a b c
      have c : x = V.bl true := by simpa only [VR] using c
      rw [c]
      exact q H'
    | exc e τ S1 => cases e
    | brk _ _ => cases e
    | cnt _ _ => cases e
    | bad => cases e
  rcases hs with (hs | hs) | hs
  · exact .inr ⟨a, _, hs, True.intro, fun od => key _ (tabs_upd (nt_lst hs) ht) (.inl ⟨od, upd_same⟩)⟩
  · exact .inl (key H ht (.inl hs))
  · obtain ⟨o, its, n, q1, q2, q3, q4, q5, q6⟩ := hs
    exact .inl (key H ht (.inr ⟨o, its, n, q1, q2, q3, q4, q5, q6⟩))
theorem fn_law {x qual : Str} {params : Arguments} {body : List Stmt} {scope : Scope} {fd : FuncData} {N : List Str} {k : Nat} {b : Sd} {df : He.Defn} {pr : Str} (F : FunD K x qual params body scope [] [] (He.fAd K df) fd) (S : FnScope N [pr] scope)
    (hb : ∀ (cdv : Value) (A : Around) (outer : List Env) (s : Shared) (H : Hp) (E : XK), cdv = .ref (He.cT K df).1 → Room k (A.deeper (envOfC qual scope s.heap.objs.size (He.fAd K df) cdv)) → PSs (cxOf (L2N.CX P w) P w K mg base N qual scope (He.fAd K df) cdv A outer s H E) body (tS K en (fun c d _ H => E c d H) b)) :
    FnOk P w K mg base (L2N.CX P w) (k + 1) (He.fAd K df) fd [pr] (spLaw K b N.length en) := by
  obtain ⟨oc, od, dV, kV, doc, pm, an, cdv, ct, osl, efd, lk, hcd, h1, h2⟩ := F.ex
  have hc : cdv = .ref (He.cT K df).1 := by
    obtain ⟨c, rfl⟩ : ∃ c, cdv = .ref c := by
      unfold PySem.W.codeIn at hcd
      split at hcd
      · exact ⟨_, rfl⟩
      · cases hcd
    exact congrArg Value.ref (He.codeOf_eq lk (by rw [efd] <;> rfl)).symm
  subst efd
  refine fn_of lk hcd S (fun vs H Q E ⟨a, ns, S', e, _⟩ => by rw [e]; rfl) fun A outer s H vs Q E hr ⟨a, ns, S', ev, hs, ht, e, q⟩ => ⟨_, lock0 (hb cdv A outer s H E hc hr), ?_⟩
  subst ev
  exact law_run ht hs e q
end
/-! ### a, b = x, y -/
def dPar2 (i j : Nat) (as : Ad) : Sd := fun en τ S => liftS (as en τ S) τ fun us S => match us with
  | [u, v] => .nx ((τ.set i (some u)).set j (some v)) S
  | _ => .bad
def dPar3 (i j l : Nat) (as : Ad) : Sd := fun en τ S => liftS (as en τ S) τ fun us S => match us with
  | [u, v, w] => .nx (((τ.set i (some u)).set j (some v)).set l (some w)) S
  | _ => .bad
section
variable {X : Cx} {en : En} {W : WX}
theorem j_par2 {i j : Nat} {x y : Str} {a b : Expr} {ds : Ad} {px py pt pos : Pos} {kt k2 pt2} (hc : X.calm = true) (hN : X.N.Nodup) (hi : X.N[i]? = some x) (hj : X.N[j]? = some y) (hij : i ≠ j) (hx : X.env.scope.names.lookup x = some .local) (hy : X.env.scope.names.lookup y = some .local) (ha : PA X [a, b] (tA X.K en W ds))
    (hw : swappedStores [.Tuple [.Name x px, .Name y py] kt pt] (.Tuple [a, b] k2 pt2) X.env = pure (some [x, y])) (hs : swapsWithSole [.Tuple [.Name x px, .Name y py] kt pt] (.Tuple [a, b] k2 pt2) pos.line X.env = pure false) :
    PS X (.Assign [.Tuple [.Name x px, .Name y py] kt pt] (.Tuple [a, b] k2 pt2) pos) (tS X.K en W (dPar2 i j ds)) := (ps_par hc hN hi hj hij hx hy ha hw hs).jimp fun D σ H ⟨ρ, S, τ, hr, sr, h⟩ => ⟨ρ, S, τ, hr, sr,
  PostS.lift h sr fun ρ1 H1 S1 us xs hr1 e1 r1 h1 => by
    match us, h1 with
    | [u, v], h1 =>
      simp only [relL, VRs] at r1
      obtain ⟨x, _, rfl, r2, y, _, rfl, r3, rfl⟩ := r1
      exact ⟨x, y, rfl, h1 ρ1 H1 _ hr1 (Ext.refl _ _) (((sr.ext e1).set r2 i).set r3 j)⟩
    | [], h1 => exact h1.elim
    | [_], h1 => exact h1.elim
    | _ :: _ :: _ :: _, h1 => exact h1.elim⟩
theorem j_par3 {i j l : Nat} {x y z : Str} {a b c : Expr} {ds : Ad} {px py pz pt pos : Pos} {kt k2 pt2} (hc : X.calm = true) (hN : X.N.Nodup) (hi : X.N[i]? = some x) (hj : X.N[j]? = some y) (hl : X.N[l]? = some z) (hij : i ≠ j) (hil : i ≠ l) (hjl : j ≠ l)
    (hx : X.env.scope.names.lookup x = some .local) (hy : X.env.scope.names.lookup y = some .local) (hz : X.env.scope.names.lookup z = some .local) (ha : PA X [a, b, c] (tA X.K en W ds))
    (hw : swappedStores [.Tuple [.Name x px, .Name y py, .Name z pz] kt pt] (.Tuple [a, b, c] k2 pt2) X.env = pure (some [x, y, z])) (hs : swapsWithSole [.Tuple [.Name x px, .Name y py, .Name z pz] kt pt] (.Tuple [a, b, c] k2 pt2) pos.line X.env = pure false) :
    PS X (.Assign [.Tuple [.Name x px, .Name y py, .Name z pz] kt pt] (.Tuple [a, b, c] k2 pt2) pos) (tS X.K en W (dPar3 i j l ds)) := (ps_par3 hc hN hi hj hl hij hil hjl hx hy hz ha hw hs).jimp fun D σ H ⟨ρ, S, τ, hr, sr, h⟩ => ⟨ρ, S, τ, hr, sr,
  PostS.lift h sr fun ρ1 H1 S1 us xs hr1 e1 r1 h1 => by
    match us, h1 with
    | [u, v, w], h1 =>
      simp only [relL, VRs] at r1
      obtain ⟨x, _, rfl, r2, y, _, rfl, r3, z, _, rfl, r4, rfl⟩ := r1
      exact ⟨x, y, z, rfl, h1 ρ1 H1 _ hr1 (Ext.refl _ _) ((((sr.ext e1).set r2 i).set r3 j).set r4 l)⟩
    | [], h1 => exact h1.elim
    | [_], h1 => exact h1.elim
    | [_, _], h1 => exact h1.elim
    | _ :: _ :: _ :: _ :: _, h1 => exact h1.elim⟩
end
end JF
set_option maxHeartbeats 1000000
/-! JP: the dice: what the laws' defs of cells, draws, rolls and rounds come to. -/
namespace JF
open PySem PySem.Spec PyProof.Rows L2
def cellC : Sd := dSeq (dIfS (dTst (dBin eqF (dVar 0) (dLst false (dNil)))) (dRet (dBin mulF (dVar 1) (dCst (.int 7919)))) (dNx)) (dRet (dBin (addF false) (dBin idxF (dVar 0) (dBin modF (dVar 1) (dCall lenF (dCons (dVar 0) (dNil))))) (dBin mulF (dBin fdivF (dVar 1) (dCall lenF (dCons (dVar 0) (dNil)))) (dCst (.int 104729)))))
def drawnC : Sd := dSeq (dSet 2 (dBin modF (dBin (addF false) (dBin mulF (dVar 0) (dCst (.int 6364136223846793005))) (dBin mulF (dBin (addF false) (dVar 1) (dCst (.int 1))) (dCst (.int 1442695040888963407)))) (dCst (.int 340282366920938463463374607431768211507)))) (dSeq (dSet 2 (dBin modF (dBin mulF (dVar 2) (dVar 2)) (dCst (.int 340282366920938463463374607431768211297)))) (dSeq (dSet 2 (dBin mulF (dBin mulF (dBin (addF false) (dBin modF (dVar 2) (dCst (.int 18446744073709551557))) (dCst (.int 1))) (dBin (addF false) (dBin fdivF (dVar 2) (dCst (.int 18446744073709551557))) (dCst (.int 1)))) (dVar 2))) (dRet (dBin modF (dVar 2) (dCst (.int 340282366920938463463374607431768211507))))))
def rollC (jd : Nat) : Sd := dSeq (dIfS (dTst (dBin geF (dBin idxF (dVar 0) (dCst (.int 0))) (dBin powF (dCst (.int 10)) (dCst (.int 18))))) (dSeq (dSet 2 (dBin modF (dBin idxF (dVar 0) (dCst (.int 0))) (dVar 1))) (dSeq (dSetI (dVar 0) (dCst (.int 0)) (dBin fdivF (dBin idxF (dVar 0) (dCst (.int 0))) (dVar 1))) (dRet (dVar 2)))) (dNx)) (dSeq (dSetI (dVar 0) (dCst (.int 1)) (dBin (addF false) (dBin idxF (dVar 0) (dCst (.int 1))) (dCst (.int 1)))) (dRet (dBin modF (dBin fdivF (dFn jd 2 (dCons (dBin idxF (dVar 0) (dCst (.int 0))) (dCons (dBin idxF (dVar 0) (dCst (.int 1))) (dNil)))) (dCst (.int 8))) (dVar 1))))
def roundsC (jc : Nat) : Sd := dRet (dLc false (zRng1 (dCall maxF (dCons (dCst (.int 1)) (dCons (dCall minF (dCons (dVar 1) (dCons (dCall lenF (dCons (dVar 0) (dNil))) (dNil)))) (dNil))))) (.nm 2) (dYes) (dLst true (dCons (dFn jc 2 (dCons (dVar 0) (dCons (dVar 2) (dNil)))) (dCons (dCst (.int 0)) (dNil)))) [2])
theorem mulOk_r (i : Int) {j : Int} (h : Builtin.Int.intBits j ≤ 64) : mulOk i j = true := by
  unfold mulOk
  rw [decide_eq_true h, Bool.true_or, Bool.or_true]
theorem mulOk_l {i : Int} (j : Int) (h : Builtin.Int.intBits i ≤ 64) : mulOk i j = true := by
  unfold mulOk
  rw [decide_eq_true h, Bool.true_or]
theorem mulOk_b {i j : Int} {m n : Nat} (h1 : i.natAbs < 2 ^ m) (h2 : j.natAbs < 2 ^ n) (h : m + n ≤ 1000000) : mulOk i j = true := by
  have a := intBits_le h1
  have b := intBits_le h2
  unfold mulOk
  rw [decide_eq_true (show Builtin.Int.intBits i + Builtin.Int.intBits j ≤ 1000000 by omega), Bool.or_true, Bool.or_true]
theorem mulF_ok {i j : Int} {S : SH} (h : mulOk i j = true) : mulF (.int i) (.int j) S = some (.int (i * j), S) := by
  show (if mulOk i j = true then _ else _) = _
  rw [if_pos h]
theorem modF_ok {i j : Int} {S : SH} (h : divOk j = true) : modF (.int i) (.int j) S = some (.int (i.fmod j), S) := by
  show (if divOk j = true then _ else _) = _
  rw [if_pos h]
theorem fdivF_ok {i j : Int} {S : SH} (h : divOk j = true) : fdivF (.int i) (.int j) S = some (.int (i.fdiv j), S) := by
  show (if divOk j = true then _ else _) = _
  rw [if_pos h]
def draw1 (a k : Int) : Int := (a * 6364136223846793005 + (k + 1) * 1442695040888963407).fmod 340282366920938463463374607431768211507
def draw2 (a k : Int) : Int := (draw1 a k * draw1 a k).fmod 340282366920938463463374607431768211297
def draw3 (a k : Int) : Int := ((draw2 a k).fmod 18446744073709551557 + 1) * ((draw2 a k).fdiv 18446744073709551557 + 1) * draw2 a k
def drawV (a k : Int) : Int := (draw3 a k).fmod 340282366920938463463374607431768211507
theorem fmod_in (a : Int) {b : Int} (h : 0 < b) : 0 ≤ a.fmod b ∧ a.fmod b < b := ⟨Int.fmod_nonneg_of_pos a h, Int.fmod_lt_of_pos a h⟩
theorem drawn_run (en : En) (S : SH) (a k : Int) : runF drawnC 3 en [.int a, .int k] S = .ok (.int (drawV a k)) S := by
  obtain ⟨h1, h2⟩ := fmod_in (a * 6364136223846793005 + (k + 1) * 1442695040888963407) (b := 340282366920938463463374607431768211507) (by decide)
  obtain ⟨h3, h4⟩ := fmod_in (draw1 a k * draw1 a k) (b := 340282366920938463463374607431768211297) (by decide)
  obtain ⟨h5, h6⟩ := fmod_in (draw2 a k) (b := 18446744073709551557) (by decide)
  have q1 : (draw2 a k).fdiv 18446744073709551557 = draw2 a k / 18446744073709551557 := Int.fdiv_eq_ediv_of_nonneg _ (by decide)
  have m1 : mulOk a 6364136223846793005 = true := mulOk_r a (by decide)
  have m2 : mulOk (k + 1) 1442695040888963407 = true := mulOk_r _ (by decide)
  have m3 : mulOk (draw1 a k) (draw1 a k) = true := mulOk_b (m := 129) (n := 129) (by unfold draw1; omega) (by unfold draw1; omega) (by decide)
  have m4 : mulOk ((draw2 a k).fmod 18446744073709551557 + 1) ((draw2 a k).fdiv 18446744073709551557 + 1) = true := mulOk_l _ (intBits_le (k := 64) (by omega))
  have n4 : (((draw2 a k).fmod 18446744073709551557 + 1) * ((draw2 a k).fdiv 18446744073709551557 + 1)).natAbs < 2 ^ 200 := by
    rw [Int.natAbs_mul]
    have u1 : ((draw2 a k).fmod 18446744073709551557 + 1).natAbs < 2 ^ 65 := by omega
    have u2 : ((draw2 a k).fdiv 18446744073709551557 + 1).natAbs < 2 ^ 129 := by
      rw [q1]
      have : 0 ≤ draw2 a k := h3
      have : draw2 a k < 340282366920938463463374607431768211297 := h4
      omega
    exact Nat.lt_of_lt_of_le (Nat.mul_lt_mul'' u1 u2) (by decide)
  have m5 : mulOk (((draw2 a k).fmod 18446744073709551557 + 1) * ((draw2 a k).fdiv 18446744073709551557 + 1)) (draw2 a k) = true := mulOk_b (m := 200) (n := 129) n4 (by have : 0 ≤ draw2 a k := h3; have : draw2 a k < 340282366920938463463374607431768211297 := h4; omega) (by decide)
  have d1 : divOk 340282366920938463463374607431768211507 = true := by decide +kernel
  have d2 : divOk 340282366920938463463374607431768211297 = true := by decide +kernel
  have d3 : divOk 18446744073709551557 = true := by decide +kernel
  have e1 : (a * 6364136223846793005 + (k + 1) * 1442695040888963407).fmod 340282366920938463463374607431768211507 = draw1 a k := rfl
  have e2 : (draw1 a k * draw1 a k).fmod 340282366920938463463374607431768211297 = draw2 a k := rfl
  have e3 : ((draw2 a k).fmod 18446744073709551557 + 1) * ((draw2 a k).fdiv 18446744073709551557 + 1) * draw2 a k = draw3 a k := rfl
  have e4 : (draw3 a k).fmod 340282366920938463463374607431768211507 = drawV a k := rfl
  have ad : ∀ i j : Int, addF false (.int i) (.int j) S = some (.int (i + j), S) := fun _ _ => rfl
  simp only [runF, drawnC, dSeq, dSet, dBin, dVar, dCst, dRet, liftS, R.bind, List.map, List.replicate, List.length, List.cons_append, List.nil_append, List.getElem?_cons_zero, List.getElem?_cons_succ, List.set_cons_zero, List.set_cons_succ, mulF_ok m1, mulF_ok m2, ad, modF_ok d1, e1, ofO, mulF_ok m3, modF_ok d2, e2, modF_ok d3, fdivF_ok d3, mulF_ok m4, mulF_ok m5, e3, e4]
/-! ### a roll -/
def diceC (a b : Int) : Cell := ⟨.lst [.int a, .int b], false⟩
theorem atI0 {α : Type} (x y : α) : L2.atI [x, y] 0 = some x := by simp [L2.atI, L2.ixN]
theorem atI1 {α : Type} (x y : α) : L2.atI [x, y] 1 = some y := by simp [L2.atI, L2.ixN]
theorem ix0 {S : SH} {n : Nat} {a b : Int} (h : S[n]? = some (diceC a b)) : idxF (.ref n) (.int 0) S = some (.int a, S) := by
  simp only [idxF, idxS, h, diceC, atI0, Option.map]
theorem ix1 {S : SH} {n : Nat} {a b : Int} (h : S[n]? = some (diceC a b)) : idxF (.ref n) (.int 1) S = some (.int b, S) := by
  simp only [idxF, idxS, h, diceC, atI1, Option.map]
theorem pt0 {S : SH} {n : Nat} {a b c : Int} (h : S[n]? = some (diceC a b)) : idxPut S (.ref n) (.int 0) (.int c) = some (S.set n (diceC c b)) := by
  simp [idxPut, h, diceC, L2.ixN]
theorem pt1 {S : SH} {n : Nat} {a b c : Int} (h : S[n]? = some (diceC a b)) : idxPut S (.ref n) (.int 1) (.int c) = some (S.set n (diceC a c)) := by
  simp [idxPut, h, diceC, L2.ixN]
theorem set_at {S : SH} {n : Nat} {c d : Cell} (h : S[n]? = some c) : (S.set n d)[n]? = some d := List.getElem?_set_self (List.getElem?_eq_some_iff.mp h).1
theorem roll_run {en : En} {jd : Nat} (hd : ∀ S a k, en.fn jd [.int a, .int k] S = .ok (.int (drawV a k)) S) {many : Int} (h0 : 0 < many) (h1 : many < 2 ^ 64) {S : SH} {n : Nat} {a b : Int} (h : S[n]? = some (diceC a b)) :
    ∃ r a' b', 0 ≤ r ∧ r < many ∧ runF (rollC jd) 3 en [.ref n, .int many] S = .ok (.int r) (S.set n (diceC a' b')) := by
  have dm : divOk many = true := by
    have h2 : many.natAbs.log2 < 9000 := by
      have h3 : many.natAbs ≠ 0 := by omega
      have h4 := (Nat.log2_lt h3 (k := 64)).mpr (by omega)
      omega
    unfold divOk
    rw [decide_eq_false (by omega : ¬ many = 0), decide_eq_true h2]
    rfl
  have d8 : divOk 8 = true := by decide +kernel
  have pw : powF (.int 10) (.int 18) S = some (.int 1000000000000000000, S) := by kernel_rfl
  by_cases ha : 1000000000000000000 ≤ a
  · obtain ⟨r0, r1⟩ := fmod_in a h0
    refine ⟨a.fmod many, a.fdiv many, b, r0, r1, ?_⟩
    simp only [runF, rollC, dSeq, dSet, dSetI, dIfS, dTst, dBin, dVar, dCst, dRet, liftS, R.bind, List.map, List.replicate, List.length, List.cons_append, List.nil_append, List.getElem?_cons_zero, List.getElem?_cons_succ, List.set_cons_zero, List.set_cons_succ, ix0 h, pt0 h, pw, ofO, bOf, geF, decide_eq_true ha, modF_ok dm, fdivF_ok dm, if_true]
  · obtain ⟨r0, r1⟩ := fmod_in ((drawV a (b + 1)).fdiv 8) h0
    refine ⟨_, a, b + 1, r0, r1, ?_⟩
    have h' := set_at (d := diceC a (b + 1)) h
    have ad : ∀ S, addF false (.int b) (.int 1) S = some (.int (b + 1), S) := fun _ => rfl
    simp only [runF, rollC, dSeq, dSet, dSetI, dIfS, dTst, dBin, dVar, dCst, dRet, dNx, dFn, dCons, dNil, liftS, R.bind, List.map, List.replicate, List.length, List.cons_append, List.nil_append, List.getElem?_cons_zero, List.getElem?_cons_succ, List.set_cons_zero, List.set_cons_succ, ix0 h, ix1 h, pt1 h, pw, ofO, bOf, geF, decide_eq_false ha, modF_ok dm, fdivF_ok d8, ad, ix0 h', ix1 h', hd, if_true, Bool.false_eq_true, if_false]
/-! ### the rounds -/
/-- the dice of m rounds -/
def diceOf (c : Nat → Int) (m : Nat) : SH := (List.range m).map fun i => diceC (c i) 0
def refsOf (m : Nat) : List IV := (List.range m).map IV.ref
theorem diceOf_succ (c : Nat → Int) (m : Nat) : diceOf c (m + 1) = diceOf c m ++ [diceC (c m) 0] := by simp [diceOf, List.range_succ]
theorem refsOf_succ (m : Nat) : refsOf (m + 1) = refsOf m ++ [.ref m] := by simp [refsOf, List.range_succ]
theorem diceOf_len (c : Nat → Int) (m : Nat) : (diceOf c m).length = m := by simp [diceOf]
theorem diceOf_at (c : Nat → Int) {m i : Nat} (h : i < m) : (diceOf c m)[i]? = some (diceC (c i) 0) := by simp [diceOf, h]
theorem rngI_at {m i : Nat} (h : i < m) : (rngI 0 1 m)[i]? = some (.int i) := by
  unfold rngI
  rw [List.getElem?_map, List.getElem?_range h]
  simp
theorem rngI_len {m : Nat} : (rngI 0 1 m).length = m := by unfold rngI; simp
theorem rounds_go {en : En} {jc m : Nat} {ns : List Int} {most : Int} {c : Nat → Int} (hm : m ≤ 1000) (hc : ∀ (i : Nat) (S : SH), i < m → en.fn jc [.scr ns, .int i] S = .ok (.int (c i)) S) : ∀ (f i : Nat), i + f = m →
    lcGo (Src.vs (rngI 0 1 m)).get (fun S v => bindT S (.nm 2) v (wipeT [some (.scr ns), some (.int most), none] [2])) (dYes en) (dLst true (dCons (dFn jc 2 (dCons (dVar 0) (dCons (dVar 2) dNil))) (dCons (dCst (.int 0)) dNil)) en) (f + 1) i (refsOf i) (diceOf c i) = some (refsOf m, diceOf c m)
  | 0, i, e => by
    have e : i = m := by omega
    subst e
    unfold lcGo
    simp only [Src.get, List.getElem?_eq_none (Nat.le_of_eq rngI_len)]
  | f + 1, i, e => by
    have hi : i < m := by omega
    have ih := rounds_go (most := most) hm hc f (i + 1) (by omega)
    unfold lcGo
    have z2 : (2 : Nat) ≤ sizeLine := by rw [sizeLine_eq]; omega
    have z3 : (refsOf i).length < sizeLine := by rw [sizeLine_eq]; simp [refsOf]; omega
    simp only [Src.get, rngI_at hi, bindT, wipeT, List.set_cons_succ, List.set_cons_zero, dYes, dLst, dCons, dFn, dVar, dNil, dCst, R.bind, List.getElem?_cons_zero, List.getElem?_cons_succ, List.length, hc i _ hi, if_true, if_pos z2, mkL, if_pos z3, diceOf_len]
    rw [← refsOf_succ, show diceOf c i ++ [⟨.lst [.int (c i), .int 0], false⟩] = diceOf c (i + 1) from (diceOf_succ c i).symm]
    exact ih
theorem rounds_run {en : En} {jc : Nat} {ns : List Int} {most : Nat} (hz : ns.length ≤ 1000) (hm : most ≤ 1000) {c : Nat → Int} (hc : ∀ (i : Nat) (S : SH), i < max 1 (min most ns.length) → en.fn jc [.scr ns, .int i] S = .ok (.int (c i)) S) :
    runF (roundsC jc) 3 en [.scr ns, .int most] [] = .ok (.lst (refsOf (max 1 (min most ns.length)))) (diceOf c (max 1 (min most ns.length))) := by
  have hl : (max 1 (min most ns.length)) ≤ 1000 := by omega
  have go := rounds_go (most := most) hl hc (max 1 (min most ns.length)) 0 (by omega)
  have e1 : minF [.int (most : Nat), .int ((ns.length : Nat) : Int)] [] = some (.int ((min most ns.length : Nat) : Int), []) := by
    show some (IV.int (if ((ns.length : Nat) : Int) < (most : Nat) then ((ns.length : Nat) : Int) else (most : Nat)), ([] : SH)) = _
    congr 2
    congr 1
    split <;> omega
  have e2 : maxF [.int 1, .int ((min most ns.length : Nat) : Int)] [] = some (.int ((max 1 (min most ns.length) : Nat) : Int), []) := by
    show some (IV.int (if ((min most ns.length : Nat) : Int) > 1 then ((min most ns.length : Nat) : Int) else 1), ([] : SH)) = _
    congr 2
    congr 1
    split <;> omega
  have e3 : lenF [.scr ns] [] = some (.int ((ns.length : Nat) : Int), []) := by
    rfl
  have rg : (-(2 ^ 62) ≤ ((max 1 (min most ns.length) : Nat) : Int) ∧ ((max 1 (min most ns.length) : Nat) : Int) < 2 ^ 62) := by omega
  have go2 : lcGo (Src.vs (rngI 0 1 (max 1 (min most ns.length)))).get (fun S v => bindT S (.nm 2) v (wipeT [some (.scr ns), some (.int most), none] [2])) (dYes en) (dLst true (dCons (dFn jc 2 (dCons (dVar 0) (dCons (dVar 2) dNil))) (dCons (dCst (.int 0)) dNil)) en) ((Src.vs (rngI 0 1 (max 1 (min most ns.length)))).fuel en) 0 [] [] = some (refsOf (max 1 (min most ns.length)), diceOf c (max 1 (min most ns.length))) := by
    simp only [Src.fuel, rngI_len]
    exact go
  simp only [runF, roundsC, dRet, dLc, zRng1, dCall, dCons, dNil, dVar, dCst, R.bind, liftS, List.map, List.replicate, List.length, List.cons_append, List.nil_append, List.getElem?_cons_zero, List.getElem?_cons_succ, e3, ofO, e1, e2, if_pos rg, Int.toNat_natCast, go2, mkL, Bool.false_eq_true, if_false]
/-! ### a cell -/
theorem divOk_small {n : Int} (h0 : 0 < n) (h1 : n < 2 ^ 64) : divOk n = true := by
  have h2 : n.natAbs.log2 < 9000 := by
    have h3 : n.natAbs ≠ 0 := by omega
    have h4 := (Nat.log2_lt h3 (k := 64)).mpr (by omega)
    omega
  unfold divOk
  rw [decide_eq_false (by omega : ¬ n = 0), decide_eq_true h2]
  rfl
def cellV (ns : List Int) (i : Nat) : Int := if ns = [] then (i : Int) * 7919 else ns.getD i 0 + ((i : Int).fdiv (ns.length : Nat)) * 104729
theorem eq_nil {S : SH} : eqF (.scr []) (.lst []) S = some (.bl true, S) := by kernel_rfl
theorem can_ints : ∀ ns : List Int, PyData.canLayAll0 (ns.map .int) = true
  | [] => by simp only [List.map, PyData.canLayAll0]
  | n :: ns => by simp only [List.map, PyData.canLayAll0, PyData.canLay0, can_ints ns, Bool.and_true]
theorem eq_cons {S : SH} {n : Int} {ns : List Int} : eqF (.scr (n :: ns)) (.lst []) S = some (.bl false, S) := by
  have h1 : SeqAt.shaped (.list ((n :: ns).map PyData.int)) = true := by
    unfold SeqAt.shaped
    rw [show PyData.canLay0 (.list ((n :: ns).map PyData.int)) = true from by simp only [PyData.canLay0]; exact can_ints (n :: ns), Bool.true_and]
    refine decide_eq_true ?_
    rw [show PyData.depth (.list ((n :: ns).map PyData.int)) = PyData.depthAll ((n :: ns).map PyData.int) + 1 from by simp only [PyData.depth], PySem.W.depth_ints]
    omega
  have h2 : SeqAt.shaped (.list []) = true := by kernel_rfl
  show (deepEq S (.scr (n :: ns)) (.lst [])).map _ = _
  unfold deepEq
  show (match some (PyData.list ((n :: ns).map PyData.int)), some (PyData.list []) with
    | some d, some e => if (SeqAt.shaped d && SeqAt.shaped e) = true then some (PyData.eqv d e) else none
    | _, _ => none).map _ = _
  show (if (SeqAt.shaped (.list ((n :: ns).map PyData.int)) && SeqAt.shaped (.list [])) = true then some (PyData.eqv (.list ((n :: ns).map PyData.int)) (.list [])) else none).map _ = _
  rw [h1, h2]
  rfl
theorem cell_run (en : En) {S : SH} {ns : List Int} {i : Nat} (hz : ns.length ≤ 1000) (hi : i < max 1 ns.length) : runF cellC 2 en [.scr ns, .int i] S = .ok (.int (cellV ns i)) S := by
  have z0 : (0 : Nat) ≤ sizeLine := Nat.zero_le _
  cases ns with
  | nil =>
    have m1 : mulOk (i : Int) 7919 = true := mulOk_r _ (by decide)
    simp only [runF, cellC, dSeq, dIfS, dTst, dBin, dVar, dCst, dRet, dNx, dLst, dNil, mkL, Bool.false_eq_true, if_false, liftS, R.bind, List.map, List.replicate, List.length, List.cons_append, List.nil_append, List.getElem?_cons_zero, List.getElem?_cons_succ, if_pos z0, eq_nil, ofO, bOf, if_true, mulF_ok m1, cellV]
  | cons n ns =>
    have hi' : i < (n :: ns).length := by
      have : 1 ≤ (n :: ns).length := by rw [List.length_cons]; omega
      omega
    have dz : divOk ((((n :: ns).length : Nat)) : Int) = true := divOk_small (by rw [List.length_cons]; omega) (by omega)
    have ln : lenF [.scr (n :: ns)] S = some (.int (((n :: ns).length : Nat) : Int), S) := rfl
    have e1 : (i : Int).fmod (((n :: ns).length : Nat) : Int) = (i : Int) := Int.fmod_eq_of_lt (by omega) (by omega)
    have e2 : idxF (.scr (n :: ns)) (.int (i : Int)) S = some (.int ((n :: ns).getD i 0), S) := by
      show (L2.atI ((n :: ns).map IV.int) (i : Int)).map _ = _
      unfold L2.atI L2.ixN
      rw [List.length_map, if_pos (by omega), if_pos (by omega)]
      have g : ((n :: ns).map IV.int)[i]? = some (.int ((n :: ns)[i])) := by rw [List.getElem?_map, List.getElem?_eq_getElem hi']; rfl
      simp only [Int.toNat_natCast, Option.bind, g, Option.map, List.getD, List.getElem?_eq_getElem hi', Option.getD]
    have m1 : mulOk ((i : Int).fdiv (((n :: ns).length : Nat) : Int)) 104729 = true := mulOk_r _ (by decide)
    have ad : ∀ i j : Int, addF false (.int i) (.int j) S = some (.int (i + j), S) := fun _ _ => rfl
    have z : cellV (n :: ns) i = (n :: ns).getD i 0 + ((i : Int).fdiv ((n :: ns).length : Nat)) * 104729 := by unfold cellV; rw [if_neg (by simp)]
    rw [z]
    have go : ∀ (s : IV), eqF s (.lst []) S = some (.bl false, S) → ∀ L : Nat, divOk (L : Int) = true → lenF [s] S = some (.int (L : Int), S) → (i : Int).fmod (L : Int) = (i : Int) → idxF s (.int (i : Int)) S = some (.int ((n :: ns).getD i 0), S) → mulOk ((i : Int).fdiv (L : Int)) 104729 = true → runF cellC 2 en [s, .int i] S = .ok (.int ((n :: ns).getD i 0 + ((i : Int).fdiv (L : Nat)) * 104729)) S := fun s q L dz ln e1 e2 m1 => by
      simp only [runF, cellC, dSeq, dIfS, dTst, dBin, dVar, dCst, dRet, dNx, dLst, dNil, dCons, dCall, mkL, Bool.false_eq_true, if_false, liftS, R.bind, List.map, List.replicate, List.length_cons, List.length_nil, Nat.sub_self, List.cons_append, List.nil_append, List.append_nil, List.getElem?_cons_zero, List.getElem?_cons_succ, if_pos z0, q, ofO, bOf, ln, modF_ok dz, fdivF_ok dz, e1, e2, mulF_ok m1, ad]
    exact go _ eq_cons _ dz ln e1 e2 m1
/-! ### what a loop, a choice comes to -/
theorem pickL {S : SH} {xs : List IV} {r : Int} (h0 : 0 ≤ r) (h1 : r < xs.length) : ∃ x ∈ xs, idxF (.lst xs) (.int r) S = some (x, S) := by
  have hn : r.toNat < xs.length := by omega
  refine ⟨xs[r.toNat], List.getElem_mem hn, ?_⟩
  show (L2.atI xs r).map _ = _
  unfold L2.atI L2.ixN
  rw [if_pos h0, if_pos h1]
  simp only [Option.bind, List.getElem?_eq_getElem hn, Option.map]
def endS : RS → Option SH
  | .nx _ S => some S
  | _ => none
def endT : RS → Ta
  | .nx τ _ => τ
  | _ => []
theorem rs_nx {r : RS} {S : SH} (h : endS r = some S) : r = .nx (endT r) S := by
  cases r <;> simp only [endS] at h <;> cases h
  rfl
def wordsS (xs : List Str) (S : SH) : SH := xs.foldl (fun S x => wordS x S) S
theorem wordsS_at {i : Nat} {c : Cell} : ∀ {xs : List Str} {S : SH}, S[i]? = some c → (wordsS xs S)[i]? = some c
  | [], _, h => h
  | x :: xs, S, h => wordsS_at (xs := xs) (S := wordS x S) (by
    unfold wordS
    rw [List.getElem?_append_left (List.getElem?_eq_some_iff.mp h).1]
    exact h)
/-- a loop over the dice of the rounds: each turn keeps that there are dice -/
def Dice (m : Nat) (S : SH) : Prop := ∀ i, i < m → ∃ a b, S[i]? = some (diceC a b)
theorem dice_of {c : Nat → Int} {m : Nat} : Dice m (diceOf c m) := fun i h => ⟨_, _, diceOf_at c h⟩
theorem Dice.set {m : Nat} {S : SH} {n : Nat} {a b : Int} (h : Dice m S) : Dice m (S.set n (diceC a b)) := fun i hi => by
  obtain ⟨x, y, e⟩ := h i hi
  by_cases z : n = i
  · subst z
    exact ⟨a, b, set_at e⟩
  · exact ⟨x, y, by rw [List.getElem?_set_ne z]; exact e⟩
theorem Dice.words {m : Nat} {S : SH} {xs : List Str} (h : Dice m S) : Dice m (wordsS xs S) := fun i hi => by
  obtain ⟨x, y, e⟩ := h i hi
  exact ⟨x, y, wordsS_at e⟩
/-- the turns: P what stays true of the names and the cells -/
theorem loop_go {b : SH → IV → Ta → RS} {m : Nat} {P : Ta → SH → Prop} (hb : ∀ i, i < m → ∀ τ S, P τ S → ∃ τ' S', b S (.ref i) τ = .nx τ' S' ∧ P τ' S') : ∀ (f i : Nat), i + f = m → ∀ τ S, P τ S → ∃ τ' S', forGo (Src.vs (refsOf m)).get b (f + 1) i τ S = .nx τ' S' ∧ P τ' S'
  | 0, i, e, τ, S, h => by
    have e : i = m := by omega
    subst e
    refine ⟨τ, S, ?_, h⟩
    unfold forGo
    have : (refsOf i)[i]? = none := List.getElem?_eq_none (by simp [refsOf])
    simp only [Src.get, this]
  | f + 1, i, e, τ, S, h => by
    have hi : i < m := by omega
    obtain ⟨τ1, S1, e1, h1⟩ := hb i hi τ S h
    obtain ⟨τ2, S2, e2, h2⟩ := loop_go hb f (i + 1) (by omega) τ1 S1 h1
    refine ⟨τ2, S2, ?_, h2⟩
    unfold forGo
    have : (refsOf m)[i]? = some (.ref i) := by simp [refsOf, hi]
    simp only [Src.get, this, e1]
    exact e2
end JF
set_option maxHeartbeats 1000000
/-! JN: raising the classes whose __init__ keeps a field. -/
namespace JF
open PySem PySem.Spec PyProof.Rows L2

/-! ### C.m of an own class -/
theorem methodRef {prog : Program} {w : World} {A : Around} {E : Value → Shared → Prop} {s : Shared} {K : PySem.W.Frag} {C : Addr} {name : Str} {v : Value} {pl : Sem Bool} {Q : Value × List Value → Shared → Prop} (X : K.In s.heap) (hr : PySem.W.readsIn K C (.type "type") = true)
    (e : PySem.W.findCls K (.ref C) (.type "type") name = some (.val v)) (hh : PySem.W.handedIn v = true) (h : Q (v, []) { s with toks := s.toks + 1 }) : wpAny (model prog w) A (getMethod (.ref C) name pl) Q E s := by
  have ty : PySem.W.Looks (model prog w) s.heap (typeOf (.ref C)) (.type "type") := PySem.W.looks_typeIn X (by
    unfold PySem.W.readsIn at hr
    simp only [Bool.and_eq_true, beq_iff_eq] at hr
    exact hr.1.1.1.2)
  have ga : PySem.W.findIn K (.type "type") "__getattribute__" = some (some (.builtin "type.__getattribute__")) := PySem.W.type_tga
  unfold getMethod specialOf
  refine wpAny_bind (wpAny_bind (ty.here ((PySem.W.looks_findIn X ga).here ?_)))
  dsimp only
  rw [if_pos PySem.W.canon_tga]
  refine wpAny_bind (wpAny_mono (Q := fun v => Q (v, [])) (E := E) ?_ (fun _ _ z => wpAny_pure z) fun _ _ z => z)
  exact PySem.W.cls_read X hr e (wpAny_pure (by show wpAny _ _ (handedOut v) _ _ _; rw [PySem.W.handedOut_of hh]; exact wpAny_pure h))
/-- such a class -/
structure FldC (K : PySem.W.Frag) (x : Str) : Prop where
  oex : OexC K (He.ga K x)
  ini : PySem.W.findIn K (.ref (He.ga K x)) "__init__" = some (some (.ref (He.fAd K (x, some "__init__"))))
  tyf : PySem.W.typeIn K (.ref (He.fAd K (x, some "__init__"))) = some (.type "function")
  fld : PySem.W.findIn K (.ref (He.ga K x)) (exField x) = some none
structure RoofErr (K : PySem.W.Frag) : Prop where
  rd : PySem.W.readsIn K (He.ga K "RoofError") (.type "type") = true
  at_ : PySem.W.findCls K (.ref (He.ga K "RoofError")) (.type "type") "__init__" = some (.val (.builtin "ValueError.__init__"))
def oexB (K : PySem.W.Frag) (C : Addr) : Bool := match K.lookup C with
  | some ⟨.type t, _, .cls cd, sl⟩ => decide (t = "type") && (match cd.mro, sl.toList with
    | .ref C' :: bm, [_, _, _, _, some (.builtin n), _] => decide (C' = C) && (decide (n = "ValueError.__new__") && (!cd.hasDel && (cd.hasDict && PySem.HandSPX.refsVE bm)))
    | _, _ => false)
  | _ => false
theorem oexB_ok {K : PySem.W.Frag} {C : Addr} (h : oexB K C = true) : ∃ nm q N bs bm sn sub ab col dd k0 k1 k2 k3 k5, K.lookup C = some (excClassObj nm q C N bs bm true sn sub ab col dd k0 k1 k2 k3 k5 "ValueError.__new__") ∧ PySem.HandSPX.refsVE bm = true := by
  unfold oexB at h
  split at h
  · rename_i t dd cd sl ho
    obtain ⟨h0, h⟩ := Bool.and_eq_true_iff.mp h
    split at h
    · rename_i C' bm k0 k1 k2 k3 n k5 hm hs
      obtain ⟨h1, h⟩ := Bool.and_eq_true_iff.mp h
      obtain ⟨h2, h⟩ := Bool.and_eq_true_iff.mp h
      obtain ⟨h3, h⟩ := Bool.and_eq_true_iff.mp h
      obtain ⟨h4, h5⟩ := Bool.and_eq_true_iff.mp h
      have h0 := of_decide_eq_true h0
      have h1 := of_decide_eq_true h1
      have h2 := of_decide_eq_true h2
      obtain ⟨nm, bs, mro, ns, qn, hd, sn, sub, ab, col, del⟩ := cd
      dsimp only at hm h3 h4
      have h3 : del = false := by simpa using h3
      subst h0 h1 h2 h3 h4 hm
      have hsl : sl = #[k0, k1, k2, k3, some (.builtin "ValueError.__new__"), k5] := by
        obtain ⟨l⟩ := sl
        simp only at hs
        rw [hs]
      subst hsl
      exact ⟨_, _, _, _, _, _, _, _, _, _, _, _, _, _, _, ho, h5⟩
    · cases h
  · cases h
def fldB (K : PySem.W.Frag) (x : Str) : Bool := oexB K (He.ga K x) && (decide (PySem.W.findIn K (.ref (He.ga K x)) "__setattr__" = some (some (.builtin "object.__setattr__"))) && (decide (PySem.W.subIn K (.ref (He.ga K x)) (.type "BaseException") = some true) && (decide (PySem.W.typeIn K (.ref (He.ga K x)) = some (.type "type")) &&
  (PySem.W.keepIn K (.ref (He.ga K x)) && (decide (PySem.W.findIn K (.ref (He.ga K x)) "__init__" = some (some (.ref (He.fAd K (x, some "__init__"))))) && (decide (PySem.W.typeIn K (.ref (He.fAd K (x, some "__init__"))) = some (.type "function")) && decide (PySem.W.findIn K (.ref (He.ga K x)) (exField x) = some none)))))))
theorem fldB_ok {K : PySem.W.Frag} {x : Str} (h : fldB K x = true) : FldC K x := by
  obtain ⟨h1, h⟩ := Bool.and_eq_true_iff.mp h
  obtain ⟨h2, h⟩ := Bool.and_eq_true_iff.mp h
  obtain ⟨h3, h⟩ := Bool.and_eq_true_iff.mp h
  obtain ⟨h4, h⟩ := Bool.and_eq_true_iff.mp h
  obtain ⟨h5, h⟩ := Bool.and_eq_true_iff.mp h
  obtain ⟨h6, h⟩ := Bool.and_eq_true_iff.mp h
  obtain ⟨h7, h8⟩ := Bool.and_eq_true_iff.mp h
  exact ⟨⟨oexB_ok h1, of_decide_eq_true h2, of_decide_eq_true h3, of_decide_eq_true h4, h5⟩, of_decide_eq_true h6, of_decide_eq_true h7, of_decide_eq_true h8⟩
def roofErrB (K : PySem.W.Frag) : Bool := PySem.W.readsIn K (He.ga K "RoofError") (.type "type") && (match PySem.W.findCls K (.ref (He.ga K "RoofError")) (.type "type") "__init__" with
  | some (.val v) => decide (v = .builtin "ValueError.__init__")
  | _ => false)
theorem roofErrB_ok {K : PySem.W.Frag} (h : roofErrB K = true) : RoofErr K := by
  obtain ⟨h1, h2⟩ := Bool.and_eq_true_iff.mp h
  refine ⟨h1, ?_⟩
  split at h2
  · rename_i v e
    rw [e, of_decide_eq_true h2]
  · cases h2
/-- what such an __init__ does -/
def spI (C : Addr) (f : Str) : Sp := fun vs H Q _ => ∃ a y, vs = [.ref a, y] ∧ H a = some (exo a C none) ∧ ∀ dx, H dx = none → dx ≠ a → Q .non (upd (upd H dx (exd dx [(f, y)])) a (exo a C (some dx)))
section
variable {X : Cx} {W : WX} {en : En}
/-- RoofError.__init__(self, ..) -/
theorem pe_rinit {e : Expr} {es : List Expr} {ta : TA} {p1 p2 pos : Pos} (R : RoofErr X.K) (hg : Gl X "RoofError") (hm : X.mg "RoofError" = some (.ref (He.ga X.K "RoofError"))) (ha : PA X (e :: es) ta)
    (hc : ∃ pl : Sem Bool, eval (.Call (.Attribute (.Name "RoofError" p1) "__init__" p2) (e :: es) [] pos) X.env = (do
      let ov ← eval (.Name "RoofError" p1) X.env
      standAt p2.atName
      let (f, first) ← holding [ov] (getMethod ov "__init__" pl)
      callWith pos f first (backTo pos (starEach (e :: es) X.env)) (backToKw pos (keywordEach [] X.env)))) (he : starEach (e :: es) X.env = (false, eval e X.env) :: starEach es X.env) (hpl : (backTo pos (starEach es X.env)).any (·.1) = false) :
    PE X (.Call (.Attribute (.Name "RoofError" p1) "__init__" p2) (e :: es) [] pos) (tVeI X.K ta) := by
  obtain ⟨pl, hc⟩ := hc
  refine ⟨fun pins s σ H Q I h => PySem.W.methodCall_KW (ld_glob I hg hm ?_ (by decide)) hc⟩
  refine methodRef I.kIn R.rd R.at_ (by decide +kernel) ?_
  show wpAny _ _ (callWith pos (Value.builtin "ValueError.__init__") [] (backTo pos (starEach (e :: es) X.env)) []) _ _ _
  refine PyProof.Rows.callWith_method1 (thn (ha.run pos pins _ σ H _ (I.tok _) h) fun us s1 ⟨vs, H1, I1, r1, a, C, ws, ev, hl, T, ea, q⟩ => ?_) he hpl
  subst ev
  cases r1 with
  | @cons _ u _ us ru rr =>
    obtain rfl : u = Value.ref a := ru
    exact oinit_ok T I1 ea (by rw [← Paired.length rr, sizeLine_eq]; omega) fun s' J => ⟨.non, H1, J, rfl, q⟩
/-- C(e), as an exception -/
theorem pmkF {x : Str} {e : Expr} {ta : TA} {p pos : Pos} {k : Nat} {fd : FuncData} {n1 n2 : Str} (T : FldC X.K x) (F1 : FnOk X.prog X.w X.K X.mg X.base (L2N.CX X.prog X.w) k (He.fAd X.K (x, some "__init__")) fd [n1, n2] (spI (He.ga X.K x) (exField x))) (hr : Room (k + 1) X.A) (hb : L2.Binds X.K fd [n1, n2] []) (hg : Gl X x) (hm : X.mg x = some (.ref (He.ga X.K x)))
    (ha : PA X [e] ta) (hdb : (x == ("__debug__" : Str)) = false) (hs : notStar e = true) : L2N.PMk X (.Call (.Name x p) [e] [] pos) (fun σ H Q => ta σ H fun vs H1 => ∃ y, vs = [y] ∧ ∀ dx, H1 dx = none → Q (.ref (He.ga X.K x)) (some dx) (upd H1 dx (.xd [(exField x, y)]))) := by
  intro pins s σ H Q I h
  obtain ⟨nm, q, N, bs, bm, sn, sub, ab, col, dd, k0, k1, k2, k3, k5, hC, hbm⟩ := T.oex.cls
  refine wpAny_Call_Name_kw (ld_glob I hg hm ?_ hdb)
  refine PySem.W.callWith_K (h₀ := X.base) I.ok.mod.kin T.oex.kC (thn (ha.run pos pins s σ H _ I h) fun us s1 ⟨vs, H1, I1, r1, y, ev, q1⟩ => ⟨I1.kIn, ?_⟩) (star_cons hs) (by rfl)
  subst ev
  obtain ⟨u, rfl, ry⟩ : ∃ u, us = [u] ∧ RelV y u := by
    cases r1 with
    | cons a b => cases b; exact ⟨_, rfl, a⟩
  show wpAny _ _ (call (.ref (He.ga X.K x)) [u]) _ _ _
  obtain ⟨hp, g, dr, tk, os⟩ := s1
  have big : hp.objs.size ≤ hp.objs.size + 1 := Nat.le_succ _
  have na : H1 (hp.objs.size + 1) = none := I1.hok.fresh big
  have keep : ∀ b o, hp.get? b = some o → ((hp.push (PySem.W.kdv_tup [u])).push (PySem.HandSPX.excO (He.ga X.K x) hp.objs.size)).get? b = some o := fun b o e => Heap.get?_push_of_some _ (Heap.get?_push_of_some _ e)
  have at_ : ((hp.push (PySem.W.kdv_tup [u])).push (PySem.HandSPX.excO (He.ga X.K x) hp.objs.size)).get? (hp.objs.size + 1) = some (PySem.HandSPX.excO (He.ga X.K x) hp.objs.size) := by heap_get
  have I2 : Inv X pins σ (upd H1 (hp.objs.size + 1) (exo (hp.objs.size + 1) (He.ga X.K x) none)) ⟨(hp.push (PySem.W.kdv_tup [u])).push (PySem.HandSPX.excO (He.ga X.K x) hp.objs.size), g, dr, tk, os⟩ := I1.laid (t' := tk) keep big (exo_ok at_)
  have bd := hb _ [Value.ref (hp.objs.size + 1), u] I2.kIn rfl
  rw [List.append_nil] at bd
  refine wpAny_call (PySem.HandSPX.call_own F.excBase_ValueError (fun Y => PySem.HandSPX.refsVE_contains Y bm hbm) (I1.kIn _ _ hC) (PySem.W.looks_findIn I1.kIn T.ini) (fun self => PySem.W.bind_fn I1.kIn self T.tyf) (by show 1 ≤ sizeLine; rw [sizeLine_eq]; omega)
    (codeAny_mono (F1.run _ X.stack _ (upd H1 (hp.objs.size + 1) (exo (hp.objs.size + 1) (He.ga X.K x) none)) ⟨[Value.ref (hp.objs.size + 1), u], []⟩ [Value.ref (hp.objs.size + 1), u] [.ref (hp.objs.size + 1), y]
      (fun v H2 => v = .non ∧ ∃ d, d ≠ hp.objs.size + 1 ∧ H1 d = none ∧ H2 = upd (upd (upd H1 (hp.objs.size + 1) (exo (hp.objs.size + 1) (He.ga X.K x) none)) d (exd d [(exField x, y)])) (hp.objs.size + 1) (exo (hp.objs.size + 1) (He.ga X.K x) (some d))) (fun _ _ _ => False)
      (hr.make (He.ga X.K x) [u] []) (I2.env0.make (He.ga X.K x) [u] []) bd (.cons rfl (.cons ry .nil)) ⟨_, y, rfl, upd_same, fun dx n ne => ⟨rfl, dx, ne, by rw [upd_ne ne] at n; exact n, rfl⟩⟩) fun r s' hq' => ?_))
  cases r with
  | error er =>
    obtain ⟨_, _, _, _, _, _, _, _, _, _, _, _, z⟩ := (show L2N.CX X.prog X.w X.stack _ _ (fun _ _ _ => False) er s' from hq')
    exact z.elim
  | ok fl =>
    cases fl with
    | ret u =>
      obtain ⟨v, H2, os2, bare2, un2, hok2, rv, ev, d, nd, hd1, e2⟩ := hq'
      subst ev
      obtain ⟨h2, g2, d2, t2, os'⟩ := s'
      have ea : H2 (hp.objs.size + 1) = some (exo (hp.objs.size + 1) (He.ga X.K x) (some d)) := by rw [e2, upd_same]
      have ed : H2 d = some (exd d [(exField x, y)]) := by rw [e2, upd_ne nd, upd_same]
      obtain ⟨t0, G, J, kG, ge, hoe, nn⟩ := mk_end0 (d2 := d2) (t2 := t2) I1 big keep un2 hok2 os2 bare2 ea ed hd1
      have eH : upd (del H2 (hp.objs.size + 1)) d (.xd [(exField x, y)]) = upd H1 d (.xd [(exField x, y)]) := by
        funext b
        by_cases hb : b = d
        · rw [hb, upd_same, upd_same]
        · rw [upd_ne hb, upd_ne hb]
          by_cases hb2 : b = hp.objs.size + 1
          · rw [hb2, del_same, na]
          · rw [del_ne hb2, e2, upd_ne hb2, upd_ne hb, upd_ne hb2]
      rw [eH] at J nn
      refine ⟨rv, hp.objs.size + 1, _, _, ⟨G, g2, d2, t2, os'⟩, _, .ref (He.ga X.K x), some d, rfl, J, kG, ge, hoe, ⟨rfl, rfl, fun vs hv => ?_⟩, rfl, rfl, nn, rfl, bare2, raises_own T.oex.exC T.oex.tyC, q1 d hd1⟩
      cases hv
      rfl
    | next => exact False.elim hq'
    | brk => exact False.elim hq'
    | cont => exact False.elim hq'
end
/-- the def of such an __init__ -/
structure CalleeXK (P : Program) (w : World) (K : PySem.W.Frag) (mg : Str → Option Value) (base : Heap) (k : Nat) (x : Str) : Prop where
  c : FldC K x
  gl : mg x = some (.ref (He.ga K x))
  ex : ∃ fd n1 n2, FnOk P w K mg base (L2N.CX P w) k (He.fAd K (x, some "__init__")) fd [n1, n2] (spI (He.ga K x) (exField x)) ∧ L2.Binds K fd [n1, n2] []
abbrev CalleeX (X : Cx) (k : Nat) (x : Str) : Prop := CalleeXK X.prog X.w X.K X.mg X.base k x
def dRaiseF (c : Str) (d : Ed) : Sd := fun en τ S => liftS (d en τ S) τ fun v S => .exc ⟨c, some v⟩ τ S
theorem j_raiseF {X : Cx} {W : WX} {en : En} {k : Nat} {x : Str} {e : Expr} {d : Ed} {p p3 pos : Pos} (hc : X.calm = true) (tk : L2N.Takes X W) (c : CalleeX X k x) (hr : Room (k + 1) X.A) (hg : Gl X x) (hdb : (x == ("__debug__" : Str)) = false) (hs : notStar e = true) (h : PE X e (tE X.K en W d)) :
    PS X (.Raise (some (.Call (.Name x p) [e] [] p3)) none pos) (tS X.K en W (dRaiseF x d)) := by
  obtain ⟨fd, n1, n2, F, hb⟩ := c.ex
  refine (L2N.ps_raise hc tk (pmkF c.c F hr hb hg c.gl (a_cons hs h a_nil) hdb hs)).jimp fun D σ H ⟨ρ, S, τ, hr0, sr, h⟩ => ⟨ρ, S, τ, hr0, sr, ?_⟩
  unfold dCons dNil
  unfold dRaiseF at h
  have h0 : Post X.K W σ ρ H (relV X.K) (d en τ S) (fun y H1 => ∀ dx, H1 dx = none → W (.ref (He.ga X.K x)) (some dx) σ (upd H1 dx (.xd [(exField x, y)]))) := PostS.lift h sr fun ρ1 H1 S1 v y hr1 e1 r1 h1 dx hdx => by
    obtain ⟨h2, e2⟩ := hr1.inl hdx (.xd [(exField x, y)])
    exact h1 ρ1 _ σ _ (some dx) h2 e2 ((sr.ext e1).ext e2) ⟨rfl, dx, y, rfl, hr1.ne hdx, upd_same, VR.ext e2 r1⟩
  revert h0
  cases d en τ S with
  | ok v S1 =>
    intro h0 ρ' H' xs a b r
    simp only [relL, VRs] at r
    obtain ⟨y, ys, rfl, ry, rfl⟩ := r
    exact ⟨y, rfl, h0 ρ' H' y a b ry⟩
  | exc e S1 => exact id
  | bad => exact id
end JF
set_option maxHeartbeats 1000000
/-! JM: a method with one keyword-only parameter, its default None. -/
namespace JF
open PySem PySem.Spec PyProof.Rows L2
structure CalleeKK (P : Program) (w : World) (K : PySem.W.Frag) (mg : Str → Option Value) (base : Heap) (k : Nat) (en : En) (j n : Nat) (m kw : Str) : Prop where
  ex : ∃ f fd ps, FnOk P w K mg base (L2N.CX P w) k f fd ps (spF K en j (n + 1)) ∧ Meth K (He.ga K "Roof") m f ∧ (∃ g gV, (∀ vs z, gV vs [z] = vs ++ [z]) ∧ KBn K fd ps n [kw] g gV) ∧ ∃ ds, Vals [V.non] ds ∧ L2.Binds K fd ps ds
  cl : Cls K (He.ga K "Roof")
def dMeK (j n : Nat) (m : Str) (o : Ed) (ds : Ad) (dw : Ed) : Ed := fun en τ S => (o en τ S).bind fun u S1 => match rcv m S1 u with
  | some r => (ds en τ S1).bind fun us S2 => if us.length + 1 = n then (dw en τ S2).bind fun v S3 => en.fn j (.ref r :: us ++ [v]) S3 else .bad
  | none => .bad
def dMeD (j n : Nat) (m : Str) (o : Ed) (ds : Ad) : Ed := fun en τ S => (o en τ S).bind fun u S1 => match rcv m S1 u with
  | some r => (ds en τ S1).bind fun us S2 => if us.length + 1 = n then en.fn j (.ref r :: us ++ [.non]) S2 else .bad
  | none => .bad
section
variable {X : Cx} {en : En} {W : WX} {pos apos kpos : Pos} {k j n : Nat} {m kw : Str} {e o ew : Expr} {es : List Expr} {ds : Ad} {dob dw : Ed}
theorem s_meD {pl : Sem Bool} (c : CalleeKK X.prog X.w X.K X.mg X.base k en j n m kw) (hr : Room k X.A) (tk : L2N.Takes X W) (fl : Flat W) (ho : PE X o (tE X.K en W dob)) (ha : PA X (e :: es) (tA X.K en W ds)) (hs : (e :: es).all notStar = true)
    (ht : eval (.Call (.Attribute o m apos) (e :: es) [] pos) X.env = (do
      let ov ← eval o X.env
      standAt apos.atName
      let (f, first) ← holding [ov] (getMethod ov m pl)
      callWith pos f first (backTo pos (starEach (e :: es) X.env)) (backToKw pos (keywordEach [] X.env)))) :
    PE X (.Call (.Attribute o m apos) (e :: es) [] pos) (tE X.K en W (dMeD j n m dob ds)) := by
  obtain ⟨f, fd, ps, F, hm, _, dv, hd, hb⟩ := c.ex
  have h2 := Bool.and_eq_true_iff.mp (show (notStar e && es.all notStar) = true from hs)
  refine (pe_meth ho c.cl hm F hr hb hd (L2N.passes_call (E := fun c d H => W c d [] H) tk fun c d σ H h => fl c d _ _ H h) ha (star_cons h2.1) (star_any h2.2) ht).jimp fun σ H Q ⟨ρ, S, τ, hr, sr, h⟩ => ⟨ρ, S, τ, hr, sr, ?_⟩
  refine Post.seq h fun ρ1 H1 S1 u y hr1 e1 r1 h1 => ?_
  cases er : rcv m S1 u with
  | none => rw [er] at h1; exact h1.elim
  | some r =>
    rw [er] at h1
    obtain ⟨rfl, a, dx, ys, rfl, ea, l⟩ := rcv_at hr1 r1 er
    refine ⟨a, dx, ys, rfl, ea, l, ρ1, S1, τ, hr1, sr.ext e1, ?_⟩
    refine Post.seq h1 fun ρ2 H2 S2 us xs hr2 e2 r2 h2 => ?_
    by_cases hl : us.length + 1 = n
    · rw [if_pos hl] at h2
      refine ⟨ρ2, S2, .ref r :: us ++ [.non], by simp [hl], hr2, ?_, flat_post fl h2⟩
      show VRs X.K ρ2 H2 (.ref r :: (us ++ [.non])) (.ref a :: (xs ++ [.non]))
      simp only [VRs]
      exact ⟨_, _, rfl, VR.ext e2 r1, VRs.append r2 (by simp only [VRs, VR]; exact ⟨_, _, rfl, rfl, rfl⟩)⟩
    · rw [if_neg hl] at h2
      exact h2.elim
theorem s_meK {pl : Sem Bool} (c : CalleeKK X.prog X.w X.K X.mg X.base k en j n m kw) (hr : Room k X.A) (tk : L2N.Takes X W) (fl : Flat W) (ho : PE X o (tE X.K en W dob)) (ha : PA X (e :: es) (tA X.K en W ds)) (hw : PE X ew (tE X.K en W dw)) (hs : (e :: es).all notStar = true)
    (ht : eval (.Call (.Attribute o m apos) (e :: es) [⟨some kw, ew, kpos⟩] pos) X.env = (do
      let ov ← eval o X.env
      standAt apos.atName
      let (f, first) ← holding [ov] (getMethod ov m pl)
      callWith pos f first (backTo pos (starEach (e :: es) X.env)) (backToKw pos (keywordEach [⟨some kw, ew, kpos⟩] X.env))))
    (hall : (backToKw pos (keywordEach [⟨some kw, ew, kpos⟩] X.env)).all (·.1.isSome) = true) (hks : (backToKw pos (keywordEach [⟨some kw, ew, kpos⟩] X.env)).filterMap (·.1) = [kw])
    (hpl : ((backTo pos (starEach (e :: es) X.env)).any (·.1) || (backToKw pos (keywordEach [⟨some kw, ew, kpos⟩] X.env)).any (·.1.isNone)) = false) :
    PE X (.Call (.Attribute o m apos) (e :: es) [⟨some kw, ew, kpos⟩] pos) (tE X.K en W (dMeK j n m dob ds dw)) := by
  obtain ⟨f, fd, ps, F, hm, ⟨g, gV, eg, hb⟩, _⟩ := c.ex
  have h2 := Bool.and_eq_true_iff.mp (show (notStar e && es.all notStar) = true from hs)
  refine ⟨fun pins s σ H Q I ⟨ρ, S, τ, hr0, sr, h⟩ => ?_⟩
  have h0 : tE X.K en W dob σ H (fun y H1 => ∃ a dx ys, y = .ref a ∧ H1 a = some (.ins (He.ga X.K "Roof") dx ys) ∧ ys.lookup m = none ∧ tA X.K en W ds σ H1 (fun xs H2 => xs.length + 1 = n ∧ tE X.K en W dw σ H2 (fun z H3 => spF X.K en j (n + 1) (.ref a :: xs ++ [z]) H3 Q (fun c d H => W c d [] H)))) := by
    refine ⟨ρ, S, τ, hr0, sr, Post.seq h fun ρ1 H1 S1 u y hr1 e1 r1 h1 => ?_⟩
    cases er : rcv m S1 u with
    | none => rw [er] at h1; exact h1.elim
    | some r =>
      rw [er] at h1
      obtain ⟨rfl, a, dx, ys, rfl, ea, l⟩ := rcv_at hr1 r1 er
      refine ⟨a, dx, ys, rfl, ea, l, ρ1, S1, τ, hr1, sr.ext e1, Post.seq h1 fun ρ2 H2 S2 us xs hr2 e2 r2 h2 => ?_⟩
      by_cases hl : us.length + 1 = n
      · rw [if_pos hl] at h2
        refine ⟨by rw [← VRs.length r2]; exact hl, ρ2, S2, τ, hr2, (sr.ext e1).ext e2, ?_⟩
        refine Post.seq h2 fun ρ3 H3 S3 v z hr3 e3 r3 h3 => ?_
        refine ⟨ρ3, S3, .ref r :: us ++ [v], by simp [hl], hr3, ?_, flat_post fl h3⟩
        show VRs X.K ρ3 H3 (.ref r :: (us ++ [v])) (.ref a :: (xs ++ [z]))
        simp only [VRs]
        exact ⟨_, _, rfl, VR.ext e3 (VR.ext e2 r1), VRs.append (VRs.ext e3 r2) (by simp only [VRs]; exact ⟨_, _, rfl, r3, rfl⟩)⟩
      · rw [if_neg hl] at h2
        exact h2.elim
  have hx : Passes (L2N.CX X.prog X.w) X (fun c d H => W c d [] H) := L2N.passes_call tk fun c d σ H h => fl c d _ _ H h
  refine PySem.W.methodCall_KW (pl := pl) (thn (ho.run pins s σ H _ I h0) fun u s1 ⟨y, H1, I1, ry, a, dx, fs, ey, ea, l, q⟩ => ?_) ht
  subst ey
  obtain rfl : u = Value.ref a := ry
  refine getmeth_ok I1 ea c.cl hm l ?_
  refine PySem.W.callWith_KW (first := [.ref a]) (h₀ := X.base) I.ok.mod.kin hm.kp hall (thn (ha.run pos pins s1 σ H1 _ I1 q) fun us s2 ⟨xs, H2, I2, rx, hl, q2⟩ => ?_) hpl (star_cons h2.1)
  refine thn ((pk_cons (nm := some kw) hw pk_nil).run pos pins s2 σ H2 (fun zs H3 => ∃ z, zs = [z] ∧ spF X.K en j (n + 1) (.ref a :: xs ++ [z]) H3 Q (fun c d H => W c d [] H)) I2 ?_) fun ws s3 ⟨zs, H3, I3, rz, z, ez, q3⟩ => ⟨I3.kIn, ?_⟩
  · obtain ⟨ρ, S, τ, x1, x2, x3⟩ := q2
    exact ⟨ρ, S, τ, x1, x2, x3.mono fun z H3 x => ⟨z, rfl, x⟩⟩
  · subst ez
    rw [hks]
    have lw : ws.length = 1 := by rw [← rz.length]; rfl
    have lu : (Value.ref a :: us).length = n := by
      show us.length + 1 = n
      rw [← rx.length]
      exact hl
    have r2 := hb.rel (vs := .ref a :: xs) (us := .ref a :: us) (.cons rfl rx) rz
    rw [eg] at r2
    refine wpAny_call (codeAny_mono (F.run X.A X.stack s3 H3 ⟨.ref a :: us, [kw].zip ws⟩ (g (.ref a :: us) ws) (.ref a :: xs ++ [z]) Q (fun c d H => W c d [] H) hr I3.env0 (hb.to s3 (.ref a :: us) ws I3.kIn lu lw) r2 q3) fun r s' hq => ?_)
    cases r with
    | error e => exact hx pins σ H3 s3 e s' I3 hq
    | ok fl =>
      cases fl with
      | ret u => exact I3.after hq
      | next => exact False.elim hq
      | brk => exact False.elim hq
      | cont => exact False.elim hq
end
end JF
namespace JF
open PySem PySem.Spec PyProof.Rows L2
theorem kk_of {K : PySem.W.Frag} {x qual kw : Str} {params : Arguments} {body : List Stmt} {scope : Scope} {f : Addr} {fd : FuncData} {ps : List Str} {n : Nat} (F : FunD K x qual params body scope [] [(kw, V.non)] f fd) (hn : ps.length = n + 1)
    (h1 : ∀ (D : Addr) (doc pm : Value) (an : Option Addr) (cdv ct : Value) (us ws : List Value), us.length = n → ws.length = 1 → bindArgs (PySem.W.fnOf x qual params body scope .none (.ref D) doc pm an cdv ct) ⟨us, [kw].zip ws⟩ = pure (ps.zip (us ++ ws)))
    (h2 : ∀ (D : Addr) (doc pm : Value) (an : Option Addr) (cdv ct : Value) (us ks : List Value), us.length = n → ks.length = 1 → KwChain D ([kw].zip ks) (bindArgs (PySem.W.fnOf x qual params body scope .none (.ref D) doc pm an cdv ct) ⟨us, []⟩) (ps.zip (us ++ ks))) :
    (∃ g gV, (∀ vs z, gV vs [z] = vs ++ [z]) ∧ KBn K fd ps n [kw] g gV) ∧ ∃ ds, Vals [V.non] ds ∧ L2.Binds K fd ps ds := by
  obtain ⟨mv, k⟩ := FunD.kbinds0 (ps := ps) F n [kw] [] (fun us _ ws => us ++ ws) (by simp) (by simp) (fun a _ c => a.append c) (fun D doc pm an cdv ct us mv ws l1 l2 l3 => h1 D doc pm an cdv ct us ws l1 l3)
  obtain ⟨ds, hd, hb⟩ := FunD.binds0 (ps := ps) F n (by simp) (by simp [hn]) (fun D doc pm an cdv ct us ks l1 l2 => h2 D doc pm an cdv ct us ks l1 l2)
  exact ⟨⟨_, _, fun vs z => rfl, k⟩, ds, hd, hb⟩
/-! ### what is never run -/
def dBadE : Ed := fun _ _ _ => .bad
def dBadS : Sd := fun _ _ _ => .bad
theorem s_badE {X : Cx} {en : En} {W : WX} {e : Expr} : PE X e (tE X.K en W dBadE) := ⟨fun pins s σ H Q I ⟨_, _, _, _, _, h⟩ => h.elim⟩
theorem j_badS {X : Cx} {en : En} {W : WX} {st : Stmt} : PS X st (tS X.K en W dBadS) := ⟨fun pins s σ H D I ⟨_, _, _, _, _, h⟩ => h.elim⟩
end JF
set_option maxHeartbeats 1000000
/-! JO: the hook, with one more object known. -/
namespace JF
open PySem PySem.Spec PyProof.Rows L2
/-- what is known of the heap: reached from the globals, and the statics -/
def rootsY (g : Addr → Option Obj) (n : Nat) : List Addr := cStatics :: He.asD g n
def obsY (n : Nat) (fa : List He.Fa) (fn : List He.DefD) (ts : List He.Tab) (tf : List He.Defn) (ex : PySem.W.Frag → Bool) (g : Addr → Option Obj) : He.AlX := (He.obsT fa fn ts (He.frT g (rootsY g n)), ex (He.frT g (rootsY g n)) && He.tabsB g tf (He.frT g (rootsY g n)))
theorem saysY {n : Nat} {fa : List He.Fa} {fn : List He.DefD} {ts : List He.Tab} {tf : List He.Defn} {ex : PySem.W.Frag → Bool} {w : World} {h : Heap} (e : obsY n fa fn ts tf ex h.get? = He.valX fn ts w) : He.SaysX fa fn ts tf ex w h (He.frT h.get? (rootsY h.get? n)) := by
  have e1 := congrArg Prod.fst e
  have e2 : (ex (He.frT h.get? (rootsY h.get? n)) && He.tabsB h.get? tf (He.frT h.get? (rootsY h.get? n))) = true := congrArg Prod.snd e
  obtain ⟨b1, b2⟩ := Bool.and_eq_true_iff.mp e2
  have each : ∀ p ∈ tf, PySem.W.codeHdIn (He.frT h.get? (rootsY h.get? n)) (He.cT (He.frT h.get? (rootsY h.get? n)) p).1 (He.cT (He.frT h.get? (rootsY h.get? n)) p).2 = true ∧ ∃ o, h.get? (He.cT (He.frT h.get? (rootsY h.get? n)) p).2 = some o ∧ He.emptyTab o = true := by
    intro p hp
    obtain ⟨c1, c2⟩ := Bool.and_eq_true_iff.mp (List.all_eq_true.mp b2 p hp)
    refine ⟨c1, ?_⟩
    revert c2
    cases h.get? (He.cT (He.frT h.get? (rootsY h.get? n)) p).2 with
    | none => exact fun z => nomatch z
    | some o => exact fun z => ⟨o, rfl, z⟩
  refine { t := e1, more := b1, hd := fun p hp => (each p hp).1, out := fun p hp => ?_, empty := fun p hp => ?_ }
  · obtain ⟨_, o, q, z⟩ := each p hp
    exact He.frT_none q z
  · obtain ⟨_, o, q, z⟩ := each p hp
    rw [q, He.emptyTab_eq z]
def hookY (n : Nat) (fa : List He.Fa) (fn : List He.DefD) (ts : List He.Tab) (tf : List He.Defn) (ex : PySem.W.Frag → Bool) : PySem.W.Hook :=
  { α := He.AlX, obs := fun s => obsY n fa fn ts tf ex s.heap.get?, val := fun w => He.valX fn ts w, says := fun w h => ∃ K : PySem.W.Frag, K.In h ∧ He.SaysX fa fn ts tf ex w h K
    of := fun _ _ e => ⟨_, He.frT_in, saysY e⟩
    keeps := fun _ _ _ ⟨K, hK, c⟩ k => ⟨K, hK.keeps k, { t := c.t, more := c.more, hd := c.hd, out := c.out, empty := fun p hp => k _ _ (c.empty p hp) }⟩ }
theorem obsY_eq {n : Nat} {fa : List He.Fa} {fn : List He.DefD} {ts : List He.Tab} {tf : List He.Defn} {ex : PySem.W.Frag → Bool} {g : Addr → Option Obj} {s : Shared} (h : ∀ a, g a = s.heap.get? a) : obsY n fa fn ts tf ex g = (hookY n fa fn ts tf ex).obs s := by
  rw [funext h] <;> rfl
end JF
set_option maxHeartbeats 1000000
/-! JQ: a dict comprehension stored in a plain name; negation. -/
namespace JF
open PySem PySem.Spec PyProof.Rows L2
def negF : IV → SH → Option (IV × SH)
  | .int i, S => some (.int (-i), S)
  | _, _ => none
theorem o_neg {X : Cx} : UnR X (unaryOp .USub) (rI1 X.K negF) := fun pins s σ H x v Q I r ⟨ρ, S, u, hr, ru, p⟩ => by
  refine un_neg pins s σ H x v Q I r ?_
  cases u with
  | int i =>
    simp only [VR] at ru
    subst ru
    exact ⟨i, rfl, p.same hr vr_int⟩
  | _ => exact p.none.elim
section
variable {X : Cx} {en : En} {W : WX} {i : Nat} {y : Str} {py pos spos : Pos} {kx vx iter tg : Expr} {ifs : List Expr} {scope : Scope} {own : List (Str × Nat)} {z : Zd} {t : Tg} {tt : Td} {tk te : Ed}
theorem j_setDc (hc : X.calm = true) (hN : X.N.Nodup) (hy : X.N[i]? = some y) (hyl : X.env.scope.names.lookup y = some .local) (hsw : swapsWith (.DictComp kx vx [⟨tg, iter, ifs, 0⟩] scope pos) (some (.Name y py)) spos.line X.env = pure true) (hi : PI X tg iter (tZ X.K en W z)) (ok : BlkOk X.N X.env.scope scope own) (sub : ∀ j ∈ t.ix, j ∈ own.map (·.2))
    (hg : ∀ (s : Shared) (H : Hp) (C : Addr) (cl : List (Str × Addr)) (fp : List Addr), PG (X.blk s H scope (compEnvC scope cl C X.env) fp) tg (tG X.K t)) (ht : ∀ (s : Shared) (H : Hp) (C : Addr) (cl : List (Str × Addr)) (fp : List Addr), PTs (X.blk s H scope (compEnvC scope cl C X.env) fp) ifs (tT X.K en WF tt))
    (hk : ∀ (s : Shared) (H : Hp) (C : Addr) (cl : List (Str × Addr)) (fp : List Addr), PE (X.blk s H scope (compEnvC scope cl C X.env) fp) kx (tE X.K en WF tk)) (he : ∀ (s : Shared) (H : Hp) (C : Addr) (cl : List (Str × Addr)) (fp : List Addr), PE (X.blk s H scope (compEnvC scope cl C X.env) fp) vx (tE X.K en WF te))
    (hs : ∀ x, foldedSetIterable iter X.env x = pure x) : PS X (.Assign [.Name y py] (.DictComp kx vx [⟨tg, iter, ifs, 0⟩] scope pos) spos) (tS X.K en W (dSet i (dDc z t tt tk te (own.map (·.2))))) := by
  refine ⟨fun pins s σ H D I ⟨ρ, S, τ, hr, sr, h⟩ => ?_⟩
  have h2 : tE X.K en W (dDc z t tt tk te (own.map (·.2))) σ H (fun x H1 => D.nx (σ.set i (some x)) H1) := ⟨ρ, S, τ, hr, sr, PostS.lift h sr fun ρ1 H1 S1 v x hr1 e1 r1 h1 => h1 ρ1 H1 _ hr1 (Ext.refl _ _) ((sr.ext e1).set r1 i)⟩
  rw [exec_Assign_Name_used _ _ _ _ hsw, arm_evalThenUse_DictComp]
  refine wpAny_bind (wpAny_standAt (wpAny_bind (wpAny_bind (wpAny_mono (dc_core (use := some (assign (.Name y py) X.env)) (Qf := fun _ s' => SP X pins D .next s') hc hN I hi ok hg ht hk he hs (dc_post sub h2) fun L C s' m H' I' q hn f => ?_) (fun _ s' hq => wpAny_pure (wpAny_pure hq)) fun _ _ e => e))))
  show wpAny _ _ (assign (.Name y py) X.env (.ref L)) _ _ _
  refine wpAny_assign_Name (store_ok2 (v := V.ref L) I' hN hy (.inl hyl) rfl (fun s2 I2 ⟨a, sb, ha⟩ => ?_) (.inr hyl))
  obtain ⟨f0, f1, f2, f3, f4, f5⟩ := f
  have ne : C ≠ a := by
    rcases ha with z | z
    · rw [z]; exact f1
    · exact fun e => f4 y a z e.symm
  exact ⟨m, hn.sameBut sb ne, fun h3 sb3 => ⟨_, H', I2.turned (t' := s2.toks) (fun b o hb e => (sb3.2 b hb).trans e) f0 f1 f3 f4 f5, q⟩⟩
end
end JF
set_option maxHeartbeats 1000000
/-! JK: the law's def where no text of a container is being made: the end. -/
namespace JF
open PySem PySem.Spec PyProof.Rows L2
/-- the law's def from a state in which no container's text is being made -/
structure LawG (P : Program) (w : World) (K : PySem.W.Frag) (mg : Str → Option Value) (base : Heap) (k : Nat) (f : Addr) (fd : FuncData) (x : Str) (sp : Sp) : Prop where
  run : ∀ (A : Around) (s : Shared) (H : Hp) (a : Addr) (Q : VK), A.guards = some [] → Room k A → Env0 P w K mg base A [] s H → BindsTo s fd ⟨[.ref a], []⟩ [(x, .ref a)] → sp [.ref a] H Q (fun _ _ _ => False) →
    codeAny (model P w) A (.call (.ref f) ⟨[.ref a], []⟩) (CR (L2N.CX P w) [] P w H s Q (fun _ _ _ => False)) s
/-- what the script and the tables are in the abstract heap -/
def scrH (K : PySem.W.Frag) (T : List Addr) (a : Addr) (vs : List Value) (ns : List Int) : Hp := fun b => if b ∈ T then some (.tbl #[]) else if b = a ∧ K.lookup a = none then some (.frz { cls := .type "list", data := .seq vs.toArray } (.lst (ns.map V.int))) else none
section
variable {P : Program} {w : World} {K : PySem.W.Frag} {T : List Addr} {a : Addr} {vs : List Value} {ns : List Int} {h : Heap}
theorem scrH_t {b : Addr} (hb : b ∈ T) : scrH K T a vs ns b = some (.tbl #[]) := if_pos hb
theorem scrH_cases (b : Addr) : (b ∈ T ∧ scrH K T a vs ns b = some (.tbl #[])) ∨ (b ∉ T ∧ b = a ∧ K.lookup a = none ∧ scrH K T a vs ns b = some (.frz { cls := .type "list", data := .seq vs.toArray } (.lst (ns.map V.int)))) ∨ scrH K T a vs ns b = none := by
  unfold scrH
  by_cases h1 : b ∈ T
  · exact .inl ⟨h1, if_pos h1⟩
  · by_cases h2 : b = a ∧ K.lookup a = none
    · exact .inr (.inl ⟨h1, h2.1, h2.2, by rw [if_neg h1, if_pos h2]⟩)
    · exact .inr (.inr (by rw [if_neg h1, if_neg h2]))
variable (hT : ∀ b ∈ T, h.get? b = some { cls := .none, data := .fields #[] }) (ha : h.get? a = some { cls := .type "list", data := .seq vs.toArray }) (hl : ns.length ≤ sizeLine) (rv : Vals (ns.map V.int) vs)
include hT ha hl rv
theorem scrH_ok : HOk P w (scrH K T a vs ns) h := fun b u e => by
  rcases scrH_cases (K := K) (T := T) (a := a) (vs := vs) (ns := ns) b with ⟨m, q⟩ | ⟨_, eb, _, q⟩ | q
  · rw [q] at e
    cases e
    exact hT b m
  · rw [q] at e
    cases e
    rw [eb]
    exact ⟨ha, by rw [List.length_map]; exact hl, vs, _, rv, ha⟩
  · rw [q] at e
    cases e
theorem scrH_sq (KX : K.In h) (at_ : a ∉ T) : SqL K (scrH K T a vs ns) a (ns.map V.int) := by
  cases hk : K.lookup a with
  | none => exact .inl (.inr ⟨_, by unfold scrH; rw [if_neg at_, if_pos ⟨rfl, hk⟩]⟩)
  | some o =>
    have e := KX a o hk
    rw [ha] at e
    cases e
    refine .inr ⟨_, vs.toArray, _, hk, rfl, rfl, rfl, ?_, by simpa using rv⟩
    have := rv.length
    rw [List.length_map] at this
    rw [List.size_toArray, ← this]
    exact hl
/-- objects of other kinds are not tracked -/
theorem scrH_other {b : Addr} {o : Obj} (e : h.get? b = some o) (n1 : ∀ xs n, o.data ≠ .seq xs n) (n2 : o.data ≠ .fields #[]) : scrH K T a vs ns b = none := by
  rcases scrH_cases (K := K) (T := T) (a := a) (vs := vs) (ns := ns) b with ⟨m, _⟩ | ⟨_, eb, _, _⟩ | q
  · rw [hT b m] at e
    cases e
    exact absurd rfl n2
  · rw [eb, ha] at e
    cases e
    exact absurd rfl (n1 _ _)
  · exact q
end
/-- the law's call: true, all else kept -/
theorem lawG_call {P : Program} {w : World} {K : PySem.W.Frag} {mg mb : Str → Option Value} {k : Nat} {f a : Addr} {cs : List (Addr × Addr)} {fd : FuncData} {x : Str} {sp : Sp} {s : Shared} {vs : List Value} {ns : List Int} (KX : K.In s.heap) (hns : s.heap.Ns mainGlobals mg) (hb : s.heap.Ns builtinsNs mb) (hbb : ∀ x : Str, x ≠ "__name__" → mb x = bootBuiltins x)
    (hlim : s.heap.NoLimit) (hg : s.gens = #[]) (hT : ∀ p ∈ cs, s.heap.get? p.2 = some { cls := .none, data := .fields #[] }) (nT : ∀ p ∈ cs, K.lookup p.2 = none) (C : ∀ p ∈ cs, PySem.W.CodeHd s.heap p.1 p.2)
    (hbm : ∃ (bm : Addr) (ob : Obj), mg "__builtins__" = some (.ref bm) ∧ bm ≠ builtinsNs ∧ s.heap.get? bm = some ob ∧ ob.cls = .type "module" ∧ ob.dict = some builtinsNs ∧ ob.data = .plain) (ha : s.heap.get? a = some { cls := .type "list", data := .seq vs.toArray }) (hi : IntsAre vs ns) (hl : ns.length ≤ sizeLine) (hr : Room k callerA)
    (F : ∀ base : Heap, K.In base → base.Ns mainGlobals mg → (∀ p ∈ cs, LamX.TabB base mg p.1 p.2) → LawG P w K mg base k f fd x sp) (hbind : ∀ (s : Shared) (u : Value), BindsTo s fd ⟨[u], []⟩ [(x, u)])
    (hsp : ∀ H : Hp, (∀ p ∈ cs, H p.2 = some (.tbl #[])) → SqL K H a (ns.map V.int) → sp [.ref a] H (fun v _ => v = .bl true) fun _ _ _ => False) :
    codeAny (model P w) callerA (.call (.ref f) ⟨[.ref a], []⟩) (fun r s' => r = .ok (.ret (.bool true)) ∧ OldK s.heap s'.heap ∧ s'.os = s.os ∧ AllBare s'.gens) s := by
  have rv := vals_ints hi
  have memT : ∀ p ∈ cs, p.2 ∈ cs.map (·.2) := fun p hp => List.mem_map.mpr ⟨p, hp, rfl⟩
  have hT' : ∀ b ∈ cs.map (·.2), s.heap.get? b = some { cls := .none, data := .fields #[] } := fun b hb => by
    obtain ⟨p, hp, e⟩ := List.mem_map.mp hb
    rw [← e]
    exact hT p hp
  have aT : a ∉ cs.map (·.2) := fun z => by
    have q := hT' a z
    rw [ha] at q
    exact Data.noConfusion (congrArg Obj.data (Option.some.inj q))
  generalize hH : scrH K (cs.map (·.2)) a vs ns = H
  have hok : HOk P w H s.heap := by rw [← hH]; exact scrH_ok hT' ha hl rv
  have sq : SqL K H a (ns.map V.int) := by rw [← hH]; exact scrH_sq hT' ha hl rv KX aT
  have other : ∀ {b : Addr} {o : Obj}, s.heap.get? b = some o → (∀ xs n, o.data ≠ .seq xs n) → o.data ≠ .fields #[] → (hidT s.heap H).get? b = some o := fun e n1 n2 => hidT_get e (by rw [← hH]; exact scrH_other hT' ha hl rv e n1 n2)
  have hHt : ∀ p ∈ cs, H p.2 = some (.tbl #[]) := fun p hp => by rw [← hH]; exact scrH_t (memT p hp)
  have nsK : ∀ {b : Addr} {m : Str → Option Value}, s.heap.Ns b m → (hidT s.heap H).Ns b m := fun ⟨o, es, ep, e, d, r⟩ => ⟨o, es, ep, other e (fun xs n z => by rw [d] at z; cases z) (fun z => by rw [d] at z; cases z), d, r⟩
  have KB : K.In (hidT s.heap H) := fun b o e => hidT_get (KX b o e) (by
    rw [← hH]
    rcases scrH_cases (K := K) (T := cs.map (·.2)) (a := a) (vs := vs) (ns := ns) b with ⟨m, _⟩ | ⟨_, eb, n, _⟩ | q
    · obtain ⟨p, hp, ep⟩ := List.mem_map.mp m
      rw [← ep, nT p hp] at e
      cases e
    · rw [eb, n] at e
      cases e
    · exact q)
  have md : L2.Mod K mg (hidT s.heap H) := ⟨KB, nsK hns, ⟨mb, nsK hb, hbb⟩, let ⟨mc, q1, q2⟩ := hlim; ⟨mc, nsK q1, q2⟩⟩
  have TB : ∀ p ∈ cs, LamX.TabB (hidT s.heap H) mg p.1 p.2 := fun p hp => by
    obtain ⟨o, us, file, tf, flags, tg, inF, text, tt, e1, r1, r2, r3, rest⟩ := C p hp
    obtain ⟨bm, ob, b1, b2, b3, b4, b5, b6⟩ := hbm
    obtain ⟨og, es, ep, eg, dg, _⟩ := hns
    refine { code := ⟨o, us, file, tf, flags, tg, inF, text, tt, other e1 (fun xs n z => by rw [r2] at z; cases z) (fun z => ?_), r1, r2, r3, rest⟩, bm := ⟨bm, ob, b1, b2, fun q => ?_, fun q => ?_, other b3 (fun xs n z => by rw [b6] at z; cases z) (fun z => by rw [b6] at z; cases z), b4, b5, b6⟩, gP := fun q => ?_ }
    · rw [r2] at z
      cases z
      simp at r3
    · rw [q, eg] at b3
      cases b3
      rw [dg] at b6
      cases b6
    · rw [q, hT p hp] at b3
      cases b3
      cases b6
    · rw [q, hT p hp] at eg
      cases eg
      cases dg
  have e0 : Env0 P w K mg (hidT s.heap H) callerA [] s H := ⟨rfl, md, fun b o e => of_hidT e, Nat.le_of_eq (hidT_size _ _), trivial, fun b hb => absurd (show b ∈ ([] : List Addr) from hb) (by simp), hok, .of_eq hg⟩
  refine codeAny_mono ((F _ KB (nsK hns) TB).run callerA s H a _ rfl hr e0 (hbind s (.ref a)) (hsp H hHt sq)) fun r s' hq => ?_
  match r, hq with
  | .error e, hq =>
    obtain ⟨_, _, _, _, _, _, _, _, _, _, _, _, z⟩ := (show L2N.CX P w [] H s (fun _ _ _ => False) e s' from hq)
    exact z.elim
  | .ok .next, hq => exact False.elim hq
  | .ok .brk, hq => exact False.elim hq
  | .ok .cont, hq => exact False.elim hq
  | .ok (.ret u), hq =>
    obtain ⟨v, H', os, bare, un, hok', rv', ev⟩ := hq
    have ev : v = .bl true := ev
    subst ev
    obtain rfl : u = Value.bool true := rv'
    have old : ∀ b o, b ∉ cs.map (·.2) → s.heap.get? b = some o → s'.heap.get? b = some o := fun b o nb e => by
      rcases scrH_cases (K := K) (T := cs.map (·.2)) (a := a) (vs := vs) (ns := ns) b with ⟨m, _⟩ | ⟨_, _, _, q⟩ | q
      · exact absurd m nb
      · rw [hH] at q
        obtain ⟨e1, _⟩ := hok b _ q
        obtain ⟨e2, _⟩ := hok' b _ (un.frzs b _ _ q)
        rw [e] at e1
        cases e1
        exact e2
      · rw [hH] at q
        exact un.keep b o e q (fun z => absurd (show b ∈ ([] : List Addr) from z) (by simp)) (by simp)
    have tab : ∀ p ∈ cs, ∃ more : Array Value, s'.heap.get? p.2 = some { cls := .none, data := .fields more } := fun p hp => by
      obtain ⟨more, z⟩ := un.tbls p.2 #[] (hHt p hp)
      exact ⟨_, hok' p.2 _ z⟩
    refine ⟨rfl, ⟨fun b o e => ?_, fun b o e => ?_⟩, os, bare⟩
    · by_cases m : b ∈ cs.map (·.2)
      · obtain ⟨p, hp, ep⟩ := List.mem_map.mp m
        obtain ⟨more, z⟩ := tab p hp
        subst ep
        rw [hT p hp] at e
        cases e
        exact .inr (.inl ⟨((C p hp).tab (hT p hp)).isCodeTable, rfl, #[], more, rfl, by rw [Array.empty_append]; exact z⟩)
      · exact .inl (old b o m e)
    · by_cases m : b ∈ cs.map (·.2)
      · obtain ⟨p, hp, ep⟩ := List.mem_map.mp m
        obtain ⟨more, z⟩ := tab p hp
        subst ep
        exact ⟨_, z⟩
      · exact ⟨o, old b o m e⟩
/-- a law, its def asked where no container's text is being made -/
def LawAtG (l : PySem.W.OpenLaw) (w : World) (K : PySem.W.Frag) (k n : Nat) (x : Str) (mg : Str → Option Value) (fa : Addr) (h : Heap) : Prop :=
  ∃ (fd : FuncData) (cs : List (Addr × Addr)) (sp : Sp), (∀ p ∈ cs, h.get? p.2 = some { cls := .none, data := .fields #[] }) ∧ (∀ p ∈ cs, K.lookup p.2 = none) ∧ (∀ p ∈ cs, PySem.W.CodeHd h p.1 p.2) ∧ (∀ (s : Shared) (u : Value), BindsTo s fd ⟨[u], []⟩ [(x, u)]) ∧
    (∀ (H : Hp) (a : Addr) (ns : List Int), ns.length ≤ n → (∀ p ∈ cs, H p.2 = some (.tbl #[])) → SqL K H a (ns.map V.int) → sp [.ref a] H (fun v _ => v = .bl true) fun _ _ _ => False) ∧
    ∀ base : Heap, K.In base → base.Ns mainGlobals mg → (∀ p ∈ cs, LamX.TabB base mg p.1 p.2) → LawG l.prog w K mg base k fa fd x sp
theorem walkG {l : PySem.W.OpenLaw} {n k : Nat} {q : Program} {loose : List Str} {XP : (Str → Option Value) → Heap → Prop} {YP : World → Heap → Prop} {d : DefRec} {x : Str} (hn : l.most = some n) (hn2 : n ≤ sizeLine) (hdf : d.params.defaults = []) (hr : Room k callerA)
    (F : ∀ (w : World) (mg : Str → Option Value) (fa : Addr) (h : Heap), YP w h → h.Ns mainGlobals mg → mg d.name = some (.ref fa) → ∃ K : PySem.W.Frag, K.In h ∧ LawAtG l w K k n x mg fa h) : PySem.W.WalkO q loose XP YP l.row.toRowW d [] (fun f vs => PySem.call f vs) :=
  Att.attach_callB hn hdf fun w s₀ s₁ mg mb fa o pm cd doc a vs ns G Y ho hd hcd hmg hobj hints hlen hbits hg => by
    obtain ⟨K, KX, fd, cs, sp, hT, nT, C, hb, hsp, hF⟩ := F w mg fa _ Y G.T.g hmg
    exact lawG_call KX G.T.g G.T.b G.T.builtins G.T.nolimit hg hT nT C G.T.bmain hobj hints (Nat.le_trans hlen hn2) hr hF hb fun H hH hS => hsp H a ns hlen hH hS
/-- the law's def: its body where no container's text is being made -/
theorem lawG_of {P : Program} {w : World} {K : PySem.W.Frag} {mg : Str → Option Value} {base : Heap} {en : En} {x qual : Str} {params : Arguments} {body : List Stmt} {scope : Scope} {fd : FuncData} {N : List Str} {k : Nat} {b : Sd} {df : He.Defn} {pr : Str} (F : FunD K x qual params body scope [] [] (He.fAd K df) fd) (S : FnScope N [pr] scope)
    (hb : ∀ (cdv : Value) (A : Around) (outer : List Env) (s : Shared) (H : Hp) (E : XK), A.guards = some [] → cdv = .ref (He.cT K df).1 → Room k (A.deeper (envOfC qual scope s.heap.objs.size (He.fAd K df) cdv)) → PSs (cxOf (L2N.CX P w) P w K mg base N qual scope (He.fAd K df) cdv A outer s H E) body (tS K en (fun c d _ H => E c d H) b)) :
    LawG P w K mg base (k + 1) (He.fAd K df) fd pr (spLaw K b N.length en) := by
  obtain ⟨oc, od, dV, kV, doc, pm, an, cdv, ct, osl, efd, lk, hcd, h1, h2⟩ := F.ex
  have hc : cdv = .ref (He.cT K df).1 := by
    obtain ⟨c, rfl⟩ : ∃ c, cdv = .ref c := by
      unfold PySem.W.codeIn at hcd
      split at hcd
      · exact ⟨_, rfl⟩
      · cases hcd
    exact congrArg Value.ref (He.codeOf_eq lk (by rw [efd] <;> rfl)).symm
  subst efd
  refine ⟨fun A s H a Q hg hr e0 hbd ⟨a2, ns, S', ev, hs, ht, e, q⟩ => ?_⟩
  cases ev
  refine LamX.run_ofS (CX := L2N.CX P w) (k := k) (N := N) (ps := [pr]) (us := [.ref a]) (vs := [.ref a]) lk hcd S hr e0 hbd (.cons rfl .nil) rfl fun hr' => ⟨_, lock0 (hb cdv A [] s H (fun _ _ _ => False) hg hc hr'), ?_⟩
  exact law_run ht hs e q
end JF
set_option maxHeartbeats 1000000
/-! KA: the text of a list; a loop's round on the live cells only. -/
namespace JF
open PySem PySem.Spec PyProof.Rows L2
/-- str of a list or a tuple -/
def strLF : List IV → SH → Option (IV × SH)
  | [u], S => (toDr S u).bind fun d => match d with
    | .list _ | .tuple _ => if (d.showable && !d.hasDict && decide (d.depth ≤ 60) && decide (d.shown.length ≤ sizeLine)) = true then some (.str d.shown, S) else none
    | _ => none
  | _, _ => none
section
variable {X : Cx}
theorem call_strD (hg : X.A.guards = some []) (hu : X.A.units + 65 < cLine) : CallR X (.type "str") (fun xs H Q => ∃ a d, xs = [.ref a] ∧ Dp X.K H (.ref a) d ∧ d.showable = true ∧ d.hasDict = false ∧ d.depth ≤ 60 ∧ d.shown.length ≤ sizeLine ∧ Q (.str d.shown) H) := by
  intro pins s σ H xs us Q I r h
  obtain ⟨a, d, rfl, hd, h1, h2, h3, h4, q⟩ := h
  obtain ⟨u, rfl, t⟩ := vals1 r
  obtain ⟨as, rd⟩ := Dp.reads I d _ u hd t
  cases t
  exact str_of_reads rd h1 (PyData.noDict_hsm h2) hg (by omega) (fun _ _ e => e) (fun h' u tk hk => ⟨.str _, H, I.kept hk, ⟨_, rfl⟩, q⟩) h4
theorem c_strL (hg : X.A.guards = some []) (hu : X.A.units + 65 < cLine) : CallR X (.type "str") (rIc X.K strLF) := (call_strD hg hu).jimp fun xs H Q ⟨ρ, S, us, hr, r, p⟩ => by
  unfold strLF at p
  split at p
  · rename_i u
    cases e : toDr S u with
    | none => rw [e] at p; exact p.none.elim
    | some d =>
      rw [e] at p
      obtain ⟨x, rfl, ru⟩ := one_vrs rfl r
      have hd := toDr_dp hr ru e
      have fin : ∀ {d : PyData}, Dp X.K H x d → (∃ a, x = .ref a) → PostO X.K ρ H (if (d.showable && !d.hasDict && decide (d.depth ≤ 60) && decide (d.shown.length ≤ sizeLine)) = true then some (IV.str d.shown, S) else none) Q → ∃ a d, [x] = [.ref a] ∧ Dp X.K H (.ref a) d ∧ d.showable = true ∧ d.hasDict = false ∧ d.depth ≤ 60 ∧ d.shown.length ≤ sizeLine ∧ Q (.str d.shown) H := fun {d} hd ⟨a, ea⟩ p => by
        by_cases c : (d.showable && !d.hasDict && decide (d.depth ≤ 60) && decide (d.shown.length ≤ sizeLine)) = true
        · rw [if_pos c] at p
          simp only [Bool.and_eq_true, Bool.not_eq_true', decide_eq_true_eq] at c
          subst ea
          exact ⟨a, d, rfl, hd, c.1.1.1, c.1.1.2, c.1.2, c.2, p.same hr vr_str⟩
        · rw [if_neg c] at p
          exact p.none.elim
      cases d with
      | list xs => exact fin hd (by cases hd; exact ⟨_, rfl⟩) p
      | tuple xs => exact fin hd (by cases hd; exact ⟨_, rfl⟩) p
      | _ => exact p.none.elim
  · exact p.none.elim
end
theorem pss_bad {X : Cx} {en : En} {W : WX} {bs : List Stmt} : PSs X bs (tS X.K en W dBadS) := ⟨fun pins s σ H D I ⟨_, _, _, _, _, h⟩ => h.elim⟩
end JF
set_option maxHeartbeats 1000000
/-! KB: a part of the work done on the live cells only. -/
namespace JF
open PySem PySem.Spec PyProof.Rows L2
def ren : List Nat → Nat → Option Nat
  | [], _ => none
  | m :: L, n => if m = n then some 0 else (ren L n).map (· + 1)
mutual
def mapI (f : Nat → Option Nat) : IV → Option IV
  | .non => some .non
  | .bl b => some (.bl b)
  | .int i => some (.int i)
  | .str x => some (.str x)
  | .tup xs => (mapIs f xs).map IV.tup
  | .lst xs => (mapIs f xs).map IV.lst
  | .scr ns => some (.scr ns)
  | .ref n => (f n).map IV.ref
  | .adr a => some (.adr a)
  | .exn c => some (.exn c)
  | .exf c u => (mapI f u).map fun w => .exf c w
def mapIs (f : Nat → Option Nat) : List IV → Option (List IV)
  | [] => some []
  | x :: xs => (mapI f x).bind fun y => (mapIs f xs).map fun ys => y :: ys
end
def mapK {κ : Type} (f : Nat → Option Nat) : List (κ × IV) → Option (List (κ × IV))
  | [] => some []
  | p :: xs => (mapI f p.2).bind fun y => (mapK f xs).map fun ys => (p.1, y) :: ys
def mapO (f : Nat → Option Nat) : IO → Option IO
  | .lst xs => (mapIs f xs).map IO.lst
  | .dic kvs => (mapK f kvs).map IO.dic
  | .dtu kvs => (mapK f kvs).map IO.dtu
  | .ins fs => (mapK f fs).map IO.ins
def mapC (f : Nat → Option Nat) (c : Cell) : Option Cell := (mapO f c.o).map fun o => ⟨o, c.lk⟩
def mapCs (f : Nat → Option Nat) : List Cell → Option (List Cell)
  | [] => some []
  | c :: cs => (mapC f c).bind fun d => (mapCs f cs).map fun ds => d :: ds
/-- the live cells -/
def pickS (S : SH) : List Nat → Option (List Cell)
  | [] => some []
  | n :: L => match S[n]? with
    | some c => (pickS S L).map fun cs => c :: cs
    | none => none
def setL : List Nat → List Cell → SH → SH
  | n :: L, c :: cs, S => setL L cs (S.set n c)
  | _, _, S => S
def upN (L : List Nat) (z : Nat) (j : Nat) : Option Nat := if j < L.length then L[j]? else some (z + (j - L.length))
def nodupB : List Nat → Bool
  | [] => true
  | n :: L => !(L.any fun m => decide (m = n)) && nodupB L
def downS (S : SH) (L : List Nat) : Option SH := if nodupB L = true then (pickS S L).bind (mapCs (ren L)) else none
def upS (L : List Nat) (S S2 : SH) : Option SH := (mapCs (upN L S.length) S2).map fun T => setL L T S ++ T.drop L.length
def downT (L : List Nat) (τ : Ta) : Ta := τ.map fun o => o.bind (mapI (ren L))
def upT (g : Nat → Option Nat) (τ : Ta) : Ta := τ.map fun o => o.bind (mapI g)
def upRS (L : List Nat) (S : SH) : RS → RS
  | .nx τ S2 => match upS L S S2 with
    | some S3 => .nx (upT (upN L S.length) τ) S3
    | none => .bad
  | .ret v S2 => match upS L S S2, mapI (upN L S.length) v with
    | some S3, some v3 => .ret v3 S3
    | _, _ => .bad
  | _ => .bad
/-- a statement on the live cells -/
def dFrS (lv : Ta → SH → List Nat) (b : Sd) : Sd := fun en τ S => match downS S (lv τ S) with
  | some S1 => upRS (lv τ S) S (b en (downT (lv τ S) τ) S1)
  | none => .bad
section
variable {K : PySem.W.Frag} {ρ ρ' : List Addr} {H H' : Hp} {f : Nat → Option Nat}
/-- values go over -/
structure Mv (K : PySem.W.Frag) (f : Nat → Option Nat) (ρ : List Addr) (H : Hp) (ρ' : List Addr) (H' : Hp) : Prop where
  at_ : ∀ n m a, f n = some m → ρ[n]? = some a → ρ'[m]? = some a
  tup : ∀ a ys, a ∉ ρ → H a = some (.tup ys) → a ∉ ρ' ∧ H' a = some (.tup ys)
  frz : ∀ b o u, (∀ ys, u ≠ .dK ys) → H b = some (.frz o u) → H' b = some (.frz o u)
  xds : ∀ a fs, a ∉ ρ → H a = some (.xd fs) → a ∉ ρ' ∧ H' a = some (.xd fs)
mutual
theorem VR.mv (e : Mv K f ρ H ρ' H') : ∀ {v w : IV} {x : V}, VR K ρ H v x → mapI f v = some w → VR K ρ' H' w x
  | .non, _, _, h, z => by simp only [mapI] at z; cases z; simpa only [VR] using h
  | .bl _, _, _, h, z => by simp only [mapI] at z; cases z; simpa only [VR] using h
  | .int _, _, _, h, z => by simp only [mapI] at z; cases z; simpa only [VR] using h
  | .str _, _, _, h, z => by simp only [mapI] at z; cases z; simpa only [VR] using h
  | .adr _, _, _, h, z => by simp only [mapI] at z; cases z; simpa only [VR] using h
  | .scr _, _, _, h, z => by
    simp only [mapI] at z
    cases z
    simp only [VR] at h ⊢
    obtain ⟨a, rfl, q⟩ := h
    exact ⟨a, rfl, q.imp (fun q => q.imp fun o q => e.frz _ _ _ (fun ys z => nomatch z) q) id⟩
  | .tup xs, _, _, h, z => by
    simp only [mapI] at z
    obtain ⟨ws, z2, rfl⟩ := Option.map_eq_some_iff.mp z
    simp only [VR] at h ⊢
    obtain ⟨a, ys, rfl, q, r⟩ := h
    exact ⟨a, ys, rfl, e.tup a ys q.1 q.2, VRs.mv e r z2⟩
  | .lst xs, _, _, h, z => by
    simp only [mapI] at z
    obtain ⟨ws, z2, rfl⟩ := Option.map_eq_some_iff.mp z
    simp only [VR] at h ⊢
    obtain ⟨a, ys, rfl, q, r⟩ := h
    exact ⟨a, ys, rfl, q.imp fun o q => e.frz _ _ _ (fun ys z => nomatch z) q, VRs.mv e r z2⟩
  | .ref n, _, _, h, z => by
    simp only [mapI] at z
    obtain ⟨m, z2, rfl⟩ := Option.map_eq_some_iff.mp z
    simp only [VR] at h ⊢
    obtain ⟨a, q, rfl⟩ := h
    exact ⟨a, e.at_ n m a z2 q, rfl⟩
  | .exn c, _, _, h, z => by
    simp only [mapI] at z
    cases z
    simp only [VR] at h ⊢
    obtain ⟨a, rfl, oe, q, r⟩ := h
    exact ⟨a, rfl, oe, e.frz _ _ _ (fun ys z => nomatch z) q, r⟩
  | .exf c u, _, _, h, z => by
    simp only [mapI] at z
    obtain ⟨w, z2, rfl⟩ := Option.map_eq_some_iff.mp z
    simp only [VR] at h ⊢
    obtain ⟨a, dx, x, rfl, ⟨oe, q, r⟩, q2, r2⟩ := h
    exact ⟨a, dx, x, rfl, ⟨oe, e.frz _ _ _ (fun ys z => nomatch z) q, r⟩, e.xds _ _ q2.1 q2.2, VR.mv e r2 z2⟩
theorem VRs.mv (e : Mv K f ρ H ρ' H') : ∀ {xs ws : List IV} {ys : List V}, VRs K ρ H xs ys → mapIs f xs = some ws → VRs K ρ' H' ws ys
  | [], _, _, h, z => by simp only [mapIs] at z; cases z; simpa only [VRs] using h
  | v :: vs, _, _, h, z => by
    simp only [mapIs] at z
    obtain ⟨w, z1, z⟩ := Option.bind_eq_some_iff.mp z
    obtain ⟨ws, z2, rfl⟩ := Option.map_eq_some_iff.mp z
    simp only [VRs] at h ⊢
    obtain ⟨y, r, rfl, a, b⟩ := h
    exact ⟨y, r, rfl, VR.mv e a z1, VRs.mv e b z2⟩
end
theorem VRk.mv {κ : Type} (e : Mv K f ρ H ρ' H') : ∀ {xs ws : List (κ × IV)} {ys : List (κ × V)}, VRk K ρ H xs ys → mapK f xs = some ws → VRk K ρ' H' ws ys
  | [], _, _, h, z => by simp only [mapK] at z; cases z; simpa only [VRk] using h
  | v :: vs, _, _, h, z => by
    simp only [mapK] at z
    obtain ⟨w, z1, z⟩ := Option.bind_eq_some_iff.mp z
    obtain ⟨ws, z2, rfl⟩ := Option.map_eq_some_iff.mp z
    simp only [VRk] at h ⊢
    obtain ⟨y, r, rfl, a, b⟩ := h
    exact ⟨y, r, rfl, VR.mv e a z1, VRk.mv e b z2⟩
theorem hc_same {lk : Bool} {a : Addr} {u : HO} (h : Hc H lk a u) (q : H' a = H a) : Hc H' lk a u := by
  cases lk with
  | false => exact q.trans (show H a = some u from h)
  | true => exact (show ∃ o, H a = some (.frz o u) from h).imp fun o h => q.trans h
theorem or_mv (e : Mv K f ρ H ρ' H') {c d : Cell} {a : Addr} (q : H' a = H a) (h : OR K ρ H c a) (z : mapC f c = some d) : OR K ρ' H' d a := by
  obtain ⟨o, lk⟩ := c
  obtain ⟨p, z1, rfl⟩ := Option.map_eq_some_iff.mp z
  cases o <;> simp only [mapO] at z1 <;> obtain ⟨ws, z2, rfl⟩ := Option.map_eq_some_iff.mp z1 <;> simp only [OR] at h ⊢
  · obtain ⟨ys, h1, h2⟩ := h
    exact ⟨ys, hc_same h1 q, h2.mv e z2⟩
  · obtain ⟨ys, h1, h2⟩ := h
    exact ⟨ys, hc_same h1 q, h2.mv e z2⟩
  · obtain ⟨ys, h1, h2⟩ := h
    exact ⟨ys, hc_same h1 q, h2.mv e z2⟩
  · obtain ⟨dx, ys, h1, h2⟩ := h
    exact ⟨dx, ys, hc_same h1 q, h2.mv e z2⟩
/-- a cell's address holds no table, no tuple -/
theorem or_obj {c : Cell} {a : Addr} (h : OR K ρ H c a) : ∃ o, H a = some o ∧ (∀ ps, o ≠ .tbl ps) ∧ ∀ ys, o ≠ .tup ys := by
  obtain ⟨o, lk⟩ := c
  have key : ∀ {u : HO}, Hc H lk a u → (∀ ps, u ≠ .tbl ps) → (∀ f, u ≠ .tup f) → ∃ o, H a = some o ∧ (∀ ps, o ≠ .tbl ps) ∧ ∀ ys, o ≠ .tup ys := fun {u} g n1 n2 => by
    cases lk with
    | false => exact ⟨u, g, n1, n2⟩
    | true =>
      obtain ⟨o, g⟩ := (show ∃ o, H a = some (.frz o u) from g)
      exact ⟨_, g, (fun _ z => nomatch z), (fun _ z => nomatch z)⟩
  cases o <;> simp only [OR] at h
  · exact key h.choose_spec.1 (fun _ z => nomatch z) (fun _ z => nomatch z)
  · exact key h.choose_spec.1 (fun _ z => nomatch z) (fun _ z => nomatch z)
  · exact key h.choose_spec.1 (fun _ z => nomatch z) (fun _ z => nomatch z)
  · exact key h.choose_spec.choose_spec.1 (fun _ z => nomatch z) (fun _ z => nomatch z)
theorem or_xd {c : Cell} {a : Addr} (h : OR K ρ H c a) (fs : List (Str × V)) : H a ≠ some (.xd fs) := fun z => by
  obtain ⟨o, lk⟩ := c
  have key : ∀ {u : HO}, Hc H lk a u → (∀ f, u ≠ .xd f) → False := fun {u} g n => by
    cases lk with
    | false => exact n fs (Option.some.inj (Eq.trans (Eq.symm g) z))
    | true =>
      obtain ⟨o, g⟩ := (show ∃ o, H a = some (.frz o u) from g)
      rw [g] at z
      cases z
  cases o <;> simp only [OR] at h
  · exact key h.choose_spec.1 (fun _ z => nomatch z)
  · exact key h.choose_spec.1 (fun _ z => nomatch z)
  · exact key h.choose_spec.1 (fun _ z => nomatch z)
  · exact key h.choose_spec.choose_spec.1 (fun _ z => nomatch z)
theorem HR.obj {S : SH} (h : HR K ρ H S) {a : Addr} (q : a ∈ ρ) : ∃ o, H a = some o ∧ (∀ ps, o ≠ .tbl ps) ∧ ∀ ys, o ≠ .tup ys := by
  obtain ⟨n, l, e⟩ := List.getElem_of_mem q
  have q : ρ[n]? = some a := by rw [List.getElem?_eq_getElem l, e]
  obtain ⟨c, hc⟩ := h.there q
  exact or_obj (h.cell n c a hc q)
end
theorem ren_at : ∀ {L : List Nat} {n m : Nat}, ren L n = some m → L[m]? = some n
  | [], _, _, e => by simp [ren] at e
  | k :: L, n, m, e => by
    simp only [ren] at e
    by_cases c : k = n
    · rw [if_pos c] at e
      cases e
      simp [c]
    · rw [if_neg c] at e
      obtain ⟨j, e2, rfl⟩ := Option.map_eq_some_iff.mp e
      simpa using ren_at e2
theorem nodup_ok : ∀ {L : List Nat}, nodupB L = true → L.Nodup
  | [], _ => List.nodup_nil
  | n :: L, e => by
    simp only [nodupB, Bool.and_eq_true, Bool.not_eq_true', List.any_eq_false, decide_eq_true_eq] at e
    exact List.nodup_cons.mpr ⟨fun h => e.1 n h rfl, nodup_ok e.2⟩
theorem mapCs_get {f : Nat → Option Nat} : ∀ {cs ds : List Cell} {i : Nat} {d : Cell}, mapCs f cs = some ds → ds[i]? = some d → ∃ c, cs[i]? = some c ∧ mapC f c = some d
  | [], _, i, d, e, q => by simp only [mapCs] at e; cases e; simp at q
  | c :: cs, _, i, d, e, q => by
    simp only [mapCs] at e
    obtain ⟨c', e1, e⟩ := Option.bind_eq_some_iff.mp e
    obtain ⟨ds, e2, rfl⟩ := Option.map_eq_some_iff.mp e
    cases i with
    | zero =>
      simp at q
      subst q
      exact ⟨c, by simp, e1⟩
    | succ i =>
      obtain ⟨k, h1, h2⟩ := mapCs_get (i := i) e2 (by simpa using q)
      exact ⟨k, by simpa using h1, h2⟩
theorem mapCs_len {f : Nat → Option Nat} : ∀ {cs ds : List Cell}, mapCs f cs = some ds → ds.length = cs.length
  | [], _, e => by simp only [mapCs] at e; cases e; rfl
  | c :: cs, _, e => by
    simp only [mapCs] at e
    obtain ⟨c', e1, e⟩ := Option.bind_eq_some_iff.mp e
    obtain ⟨ds, e2, rfl⟩ := Option.map_eq_some_iff.mp e
    simp [mapCs_len e2]
theorem pickS_get {S : SH} : ∀ {L : List Nat} {cs : List Cell} {i : Nat} {c : Cell}, pickS S L = some cs → cs[i]? = some c → ∃ n, L[i]? = some n ∧ S[n]? = some c
  | [], _, i, d, e, q => by simp only [pickS] at e; cases e; simp at q
  | n :: L, _, i, d, e, q => by
    simp only [pickS] at e
    split at e
    · rename_i c ec
      obtain ⟨ds, e2, rfl⟩ := Option.map_eq_some_iff.mp e
      cases i with
      | zero =>
        simp at q
        subst q
        exact ⟨n, by simp, ec⟩
      | succ i =>
        obtain ⟨k, h1, h2⟩ := pickS_get (i := i) e2 (by simpa using q)
        exact ⟨k, by simpa using h1, h2⟩
    · cases e
theorem pickS_len {S : SH} : ∀ {L : List Nat} {cs : List Cell}, pickS S L = some cs → cs.length = L.length ∧ ∀ n ∈ L, n < S.length
  | [], _, e => by simp only [pickS] at e; cases e; simp
  | n :: L, _, e => by
    simp only [pickS] at e
    split at e
    · rename_i c ec
      obtain ⟨ds, e2, rfl⟩ := Option.map_eq_some_iff.mp e
      obtain ⟨h1, h2⟩ := pickS_len e2
      refine ⟨by simp [h1], fun m hm => ?_⟩
      rcases List.mem_cons.mp hm with rfl | hm
      · exact (List.getElem?_eq_some_iff.mp ec).1
      · exact h2 m hm
    · cases e
theorem setL_len : ∀ (L : List Nat) (cs : List Cell) (S : SH), (setL L cs S).length = S.length
  | [], _, _ => rfl
  | n :: L, [], _ => rfl
  | n :: L, c :: cs, S => by simp only [setL]; rw [setL_len L cs]; simp
theorem setL_off : ∀ (L : List Nat) (cs : List Cell) (S : SH) (n : Nat), n ∉ L → (setL L cs S)[n]? = S[n]?
  | [], _, _, _, _ => rfl
  | m :: L, [], _, _, _ => rfl
  | m :: L, c :: cs, S, n, h => by
    simp only [setL]
    rw [setL_off L cs _ n (fun z => h (List.mem_cons_of_mem _ z)), List.getElem?_set_ne (fun z => h (by rw [z]; exact List.mem_cons_self))]
theorem setL_at : ∀ {L : List Nat} {cs : List Cell} {S : SH} {k n : Nat} {c : Cell}, L.Nodup → L[k]? = some n → n < S.length → (setL L cs S)[n]? = some c → L.length ≤ cs.length → cs[k]? = some c
  | [], _, _, _, _, _, _, e, _, _, _ => by simp at e
  | m :: L, [], _, _, _, _, _, _, _, _, z => by simp at z
  | m :: L, d :: cs, S, k, n, c, nd, e, hn, q, z => by
    have nd := List.nodup_cons.mp nd
    simp only [setL] at q
    cases k with
    | zero =>
      simp at e
      subst e
      rw [setL_off L cs _ _ nd.1, List.getElem?_set_self hn] at q
      simpa using q
    | succ k =>
      have e : L[k]? = some n := by simpa using e
      have := setL_at (k := k) nd.2 e (by simpa using hn) q (by simpa using z)
      simpa using this
theorem getL {ρ : List Addr} : ∀ {L : List Nat} {k n : Nat}, (∀ n ∈ L, n < ρ.length) → L[k]? = some n → (L.filterMap fun n => ρ[n]?)[k]? = ρ[n]?
  | [], _, _, _, e => by simp at e
  | m :: L, k, n, h, e => by
    have hm := h m List.mem_cons_self
    rw [List.filterMap_cons, List.getElem?_eq_getElem hm]
    cases k with
    | zero =>
      simp at e
      subst e
      simp [hm]
    | succ k =>
      have := getL (k := k) (fun n hn => h n (List.mem_cons_of_mem _ hn)) (by simpa using e)
      simpa using this
/-- the addresses of the live cells -/
def rhoL (ρ : List Addr) (L : List Nat) : List Addr := L.filterMap fun n => ρ[n]?
theorem rhoL_len {ρ : List Addr} : ∀ {L : List Nat}, (∀ n ∈ L, n < ρ.length) → (rhoL ρ L).length = L.length
  | [], _ => rfl
  | m :: L, h => by
    unfold rhoL
    rw [List.filterMap_cons, List.getElem?_eq_getElem (h m List.mem_cons_self)]
    have := rhoL_len (ρ := ρ) (L := L) (fun n hn => h n (List.mem_cons_of_mem _ hn))
    unfold rhoL at this
    simp [this]
theorem mem_rhoL {ρ : List Addr} {L : List Nat} {a : Addr} (h : a ∈ rhoL ρ L) : ∃ n ∈ L, ρ[n]? = some a := by
  obtain ⟨n, hn, e⟩ := List.mem_filterMap.mp h
  exact ⟨n, hn, e⟩
section
variable {K : PySem.W.Frag} {ρ : List Addr} {H : Hp} {S S1 : SH} {L : List Nat}
theorem rhoL_nd (nd : ρ.Nodup) : ∀ {L : List Nat}, L.Nodup → (∀ n ∈ L, n < ρ.length) → (rhoL ρ L).Nodup
  | [], _, _ => List.nodup_nil
  | m :: L, n2, h => by
    have n2 := List.nodup_cons.mp n2
    have hm := h m List.mem_cons_self
    unfold rhoL
    rw [List.filterMap_cons, List.getElem?_eq_getElem hm]
    refine List.nodup_cons.mpr ⟨fun z => ?_, rhoL_nd nd n2.2 fun n hn => h n (List.mem_cons_of_mem _ hn)⟩
    obtain ⟨n, hn, e⟩ := List.mem_filterMap.mp z
    obtain ⟨l, e⟩ := List.getElem?_eq_some_iff.mp e
    have := (List.getElem_inj nd).mp e
    exact n2.1 (this ▸ hn)
/-- what is done with the live cells -/
structure Dn (K : PySem.W.Frag) (ρ : List Addr) (H : Hp) (S : SH) (L : List Nat) (S1 : SH) : Prop where
  hr : HR K (rhoL ρ L) H S1
  mv : Mv K (ren L) ρ H (rhoL ρ L) H
  lt : ∀ n ∈ L, n < ρ.length
  nd : L.Nodup
theorem dn_of (hr : HR K ρ H S) (e : downS S L = some S1) : Dn K ρ H S L S1 := by
  unfold downS at e
  split at e
  · rename_i c
    have nd := nodup_ok c
    obtain ⟨cs, e1, e2⟩ := Option.bind_eq_some_iff.mp e
    obtain ⟨l1, l2⟩ := pickS_len e1
    have lt : ∀ n ∈ L, n < ρ.length := fun n hn => by rw [← hr.len]; exact l2 n hn
    have mv : Mv K (ren L) ρ H (rhoL ρ L) H := ⟨fun n m a h1 h2 => (getL lt (ren_at h1)).trans h2, fun a ys h1 h2 => ⟨fun z => by
      obtain ⟨n, _, e⟩ := mem_rhoL z
      exact h1 (List.mem_of_getElem? e), h2⟩, fun _ _ _ _ h => h, fun a fs h1 h2 => ⟨fun z => by
      obtain ⟨n, _, e⟩ := mem_rhoL z
      exact h1 (List.mem_of_getElem? e), h2⟩⟩
    refine ⟨⟨?_, rhoL_nd hr.nd nd lt, hr.tab, fun i d a h1 h2 => ?_⟩, mv, lt, nd⟩
    · rw [mapCs_len e2, l1, rhoL_len lt]
    · obtain ⟨c, q1, q2⟩ := mapCs_get e2 h1
      obtain ⟨n, q3, q4⟩ := pickS_get e1 q1
      have q5 : ρ[n]? = some a := (getL lt q3).symm.trans h2
      exact or_mv mv rfl (hr.cell n c a q4 q5) q2
  · cases e
/-- and back -/
theorem up_of {S2 S3 : SH} {ρ2 : List Addr} {H2 : Hp} (hr : HR K ρ H S) (d : Dn K ρ H S L S1) (hr2 : HR K ρ2 H2 S2) (e : Ext K (rhoL ρ L) H ρ2 H2) (u : upS L S S2 = some S3) :
    ∃ ρ3, HR K ρ3 H2 S3 ∧ Ext K ρ H ρ3 H2 ∧ Mv K (upN L S.length) ρ2 H2 ρ3 H2 := by
  obtain ⟨⟨new, rfl, hn⟩, kp, fz, tb⟩ := e
  have ll := rhoL_len d.lt
  have sub : ∀ a ∈ rhoL ρ L, a ∈ ρ := fun a ha => by
    obtain ⟨n, _, e⟩ := mem_rhoL ha
    exact List.mem_of_getElem? e
  have nin : ∀ a ∈ new, a ∉ ρ := fun a ha z => by
    obtain ⟨o, ho, h1, _⟩ := hr.obj z
    obtain ⟨ps, q⟩ := (hn a ha).2 o ho
    exact h1 ps q
  have e3 : Ext K ρ H (ρ ++ new) H2 := ⟨⟨new, rfl, fun a ha => ⟨nin a ha, (hn a ha).2⟩⟩, fun b o h1 h2 h3 => kp b o h1 (fun z => h2 (sub b z)) h3, fz, tb⟩
  have keep : ∀ (n : Nat) (a : Addr), ρ[n]? = some a → n ∉ L → a ∉ rhoL ρ L := fun n a h1 h2 z => by
    obtain ⟨m, hm, e⟩ := mem_rhoL z
    obtain ⟨l1, e1⟩ := List.getElem?_eq_some_iff.mp h1
    obtain ⟨l2, e2⟩ := List.getElem?_eq_some_iff.mp e
    have := (List.getElem_inj hr.nd).mp (e1.trans e2.symm)
    exact h2 (this ▸ hm)
  have same : ∀ (n : Nat) (a : Addr), ρ[n]? = some a → n ∉ L → H2 a = H a := fun n a h1 h2 => by
    obtain ⟨o, ho, p1, _⟩ := hr.obj (List.mem_of_getElem? h1)
    rw [ho]
    exact kp a o ho (keep n a h1 h2) p1
  have at3 : ∀ j m a, upN L S.length j = some m → (rhoL ρ L ++ new)[j]? = some a → (ρ ++ new)[m]? = some a := fun j m a h1 h2 => by
    unfold upN at h1
    by_cases c : j < L.length
    · rw [if_pos c] at h1
      rw [List.getElem?_append_left (by omega)] at h2
      have := (getL d.lt h1).symm.trans h2
      rw [List.getElem?_append_left (d.lt m (List.mem_of_getElem? h1))]
      exact this
    · rw [if_neg c] at h1
      cases h1
      rw [List.getElem?_append_right (by omega)] at h2
      rw [List.getElem?_append_right (by rw [hr.len]; omega), hr.len]
      rw [ll] at h2
      rw [show ρ.length + (j - L.length) - ρ.length = j - L.length by omega]
      exact h2
  have mv : Mv K (upN L S.length) (rhoL ρ L ++ new) H2 (ρ ++ new) H2 := ⟨at3, fun a ys h1 h2 => ⟨fun z => ?_, h2⟩, fun _ _ _ _ h => h, fun a fs h1 h2 => ⟨fun z => ?_, h2⟩⟩
  · obtain ⟨T, u2, rfl⟩ := Option.map_eq_some_iff.mp u
    have lT := mapCs_len u2
    have l2 : S2.length = L.length + new.length := by rw [hr2.len, List.length_append, ll]
    refine ⟨ρ ++ new, ⟨?_, ?_, hr2.tab, fun n c a h1 h2 => ?_⟩, e3, mv⟩
    · rw [List.length_append, setL_len, List.length_drop, List.length_append, hr.len]
      omega
    · rw [List.nodup_append]
      refine ⟨hr.nd, (List.nodup_append.mp hr2.nd).2.1, fun a ha b hb z => nin b hb (z ▸ ha)⟩
    · by_cases c1 : n < S.length
      · rw [List.getElem?_append_left (by rw [setL_len]; exact c1)] at h1
        rw [List.getElem?_append_left (by rw [← hr.len]; exact c1)] at h2
        by_cases c2 : n ∈ L
        · obtain ⟨k, lk, ek⟩ := List.getElem_of_mem c2
          have ek : L[k]? = some n := by rw [List.getElem?_eq_getElem lk, ek]
          have q := setL_at d.nd ek c1 h1 (by omega)
          obtain ⟨c0, q1, q2⟩ := mapCs_get u2 q
          have q3 : (rhoL ρ L ++ new)[k]? = some a := by
            rw [List.getElem?_append_left (by omega)]
            exact (getL d.lt ek).trans h2
          exact or_mv mv rfl (hr2.cell k c0 a q1 q3) q2
        · rw [setL_off _ _ _ _ c2] at h1
          exact (hr.cell n c a h1 h2).ext e3 (same n a h2 c2)
      · rw [List.getElem?_append_right (by rw [setL_len]; omega), setL_len, List.getElem?_drop] at h1
        rw [List.getElem?_append_right (by rw [← hr.len]; omega)] at h2
        obtain ⟨c0, q1, q2⟩ := mapCs_get u2 h1
        have q3 : (rhoL ρ L ++ new)[L.length + (n - S.length)]? = some a := by
          rw [List.getElem?_append_right (by omega), ll, hr.len]
          rw [show L.length + (n - ρ.length) - L.length = n - ρ.length by omega]
          exact h2
        exact or_mv mv rfl (hr2.cell _ c0 a q1 q3) q2
  · rcases List.mem_append.mp z with z | z
    · obtain ⟨n, l, en⟩ := List.getElem_of_mem z
      have en : ρ[n]? = some a := by rw [List.getElem?_eq_getElem l, en]
      by_cases c : n ∈ L
      · exact h1 (List.mem_append_left _ (List.mem_filterMap.mpr ⟨n, c, en⟩))
      · obtain ⟨o, ho, _, p2⟩ := hr.obj (List.mem_of_getElem? en)
        have := same n a en c
        rw [h2, ho] at this
        exact p2 ys (Option.some.inj this).symm
    · exact h1 (List.mem_append_right _ z)
  · rcases List.mem_append.mp z with z | z
    · obtain ⟨n, l, en⟩ := List.getElem_of_mem z
      have en : ρ[n]? = some a := by rw [List.getElem?_eq_getElem l, en]
      by_cases c : n ∈ L
      · exact h1 (List.mem_append_left _ (List.mem_filterMap.mpr ⟨n, c, en⟩))
      · obtain ⟨c0, hc0⟩ := hr.there en
        have := same n a en c
        exact or_xd (hr.cell n c0 a hc0 en) fs (this.symm.trans h2)
    · exact h1 (List.mem_append_right _ z)
theorem SR.mv {ρ' : List Addr} {H' : Hp} {f : Nat → Option Nat} {τ : Ta} {σ : L2.St} (h : SR K ρ H τ σ) (m : Mv K f ρ H ρ' H') : SR K ρ' H' (τ.map fun o => o.bind (mapI f)) σ := by
  refine ⟨by simp [h.1], fun i w q => ?_⟩
  rw [List.getElem?_map] at q
  obtain ⟨o, q1, q2⟩ := Option.map_eq_some_iff.mp q
  obtain ⟨v, rfl, q3⟩ := Option.bind_eq_some_iff.mp q2
  obtain ⟨x, p1, p2⟩ := h.2 i v q1
  exact ⟨x, p1, p2.mv m q3⟩
end
section
variable {X : Cx} {en : En} {W : WX} {pos : Pos}
theorem fr_post {K : PySem.W.Frag} {b : Sd} {D : Ends} {σ : L2.St} {H : Hp} {lv : Ta → SH → List Nat} (h : tS K en W (dFrS lv b) D σ H) : tS K en W b D σ H := by
  obtain ⟨ρ, S, τ, hr, sr, h⟩ := h
  unfold dFrS at h
  split at h
  · rename_i S1 e
    have d := dn_of hr e
    refine ⟨rhoL ρ (lv τ S), S1, _, d.hr, sr.mv d.mv, ?_⟩
    show PostS K W _ H (b en (downT (lv τ S) τ) S1) D
    generalize lv τ S = L at *
    revert h
    cases b en (downT L τ) S1 with
    | nx τ2 S2 =>
      show PostS K W ρ H (match upS L S S2 with | some S3 => RS.nx (upT (upN L S.length) τ2) S3 | none => RS.bad) D → _
      cases eu : upS L S S2 with
      | none => exact fun h => h.elim
      | some S3 =>
        intro h ρ2 H2 σ2 hr2 e2 sr2
        obtain ⟨ρ3, hr3, e3, m3⟩ := up_of hr d hr2 e2 eu
        exact h ρ3 H2 σ2 hr3 e3 (sr2.mv m3)
    | ret v S2 =>
      show PostS K W ρ H (match upS L S S2, mapI (upN L S.length) v with | some S3, some v3 => RS.ret v3 S3 | _, _ => RS.bad) D → _
      cases eu : upS L S S2 with
      | none => exact fun h => h.elim
      | some S3 =>
        cases ev : mapI (upN L S.length) v with
        | none => exact fun h => h.elim
        | some v3 =>
          intro h ρ2 H2 x hr2 e2 r2
          obtain ⟨ρ3, hr3, e3, m3⟩ := up_of hr d hr2 e2 eu
          exact h ρ3 H2 x hr3 e3 (r2.mv m3 ev)
    | brk _ _ => exact fun h => h.elim
    | cnt _ _ => exact fun h => h.elim
    | exc _ _ _ => exact fun h => h.elim
    | bad => exact fun h => h.elim
  · exact h.elim
theorem j_frs {bs : List Stmt} {b : Sd} (lv : Ta → SH → List Nat) (h : PSs X bs (tS X.K en W b)) : PSs X bs (tS X.K en W (dFrS lv b)) := h.jimp fun D σ H q => fr_post q
/-- the cell of a name alone -/
def lv1 (i : Nat) : Ta → SH → List Nat := fun τ _ => match τ[i]? with
  | some (some (.ref n)) => [n]
  | _ => []
end
end JF
set_option maxHeartbeats 1000000
/-! KC: what a framed round leaves. -/
namespace JF
open PySem PySem.Spec PyProof.Rows L2
section
variable {f : Nat → Option Nat}
mutual
theorem mapI_tot (h : ∀ n, ∃ m, f n = some m) : ∀ v : IV, ∃ w, mapI f v = some w
  | .non => ⟨.non, by simp only [mapI]⟩
  | .bl b => ⟨.bl b, by simp only [mapI]⟩
  | .int b => ⟨.int b, by simp only [mapI]⟩
  | .str b => ⟨.str b, by simp only [mapI]⟩
  | .adr b => ⟨.adr b, by simp only [mapI]⟩
  | .exn c => ⟨.exn c, by simp only [mapI]⟩
  | .exf c u => by
    obtain ⟨w, e⟩ := mapI_tot h u
    exact ⟨.exf c w, by simp only [mapI, e, Option.map]⟩
  | .scr b => ⟨.scr b, by simp only [mapI]⟩
  | .tup xs => by
    obtain ⟨ws, e⟩ := mapIs_tot h xs
    exact ⟨.tup ws, by simp only [mapI, e, Option.map]⟩
  | .lst xs => by
    obtain ⟨ws, e⟩ := mapIs_tot h xs
    exact ⟨.lst ws, by simp only [mapI, e, Option.map]⟩
  | .ref n => by
    obtain ⟨m, e⟩ := h n
    exact ⟨.ref m, by simp only [mapI, e, Option.map]⟩
theorem mapIs_tot (h : ∀ n, ∃ m, f n = some m) : ∀ xs : List IV, ∃ ws, mapIs f xs = some ws
  | [] => ⟨[], by simp only [mapIs]⟩
  | x :: xs => by
    obtain ⟨w, e⟩ := mapI_tot h x
    obtain ⟨ws, e2⟩ := mapIs_tot h xs
    exact ⟨w :: ws, by simp only [mapIs, e, e2, Option.bind, Option.map]⟩
end
theorem mapK_tot {κ : Type} (h : ∀ n, ∃ m, f n = some m) : ∀ xs : List (κ × IV), ∃ ws, mapK f xs = some ws
  | [] => ⟨[], by simp only [mapK]⟩
  | x :: xs => by
    obtain ⟨w, e⟩ := mapI_tot h x.2
    obtain ⟨ws, e2⟩ := mapK_tot h xs
    exact ⟨(x.1, w) :: ws, by simp only [mapK, e, e2, Option.bind, Option.map]⟩
theorem mapC_tot (h : ∀ n, ∃ m, f n = some m) (c : Cell) : ∃ d, mapC f c = some d := by
  obtain ⟨o, lk⟩ := c
  cases o with
  | lst xs =>
    obtain ⟨ws, e⟩ := mapIs_tot h xs
    exact ⟨_, by simp only [mapC, mapO, e, Option.map]; rfl⟩
  | dic xs =>
    obtain ⟨ws, e⟩ := mapK_tot h xs
    exact ⟨_, by simp only [mapC, mapO, e, Option.map]; rfl⟩
  | dtu xs =>
    obtain ⟨ws, e⟩ := mapK_tot h xs
    exact ⟨_, by simp only [mapC, mapO, e, Option.map]; rfl⟩
  | ins xs =>
    obtain ⟨ws, e⟩ := mapK_tot h xs
    exact ⟨_, by simp only [mapC, mapO, e, Option.map]; rfl⟩
theorem mapCs_tot (h : ∀ n, ∃ m, f n = some m) : ∀ cs : List Cell, ∃ ds, mapCs f cs = some ds
  | [] => ⟨[], by simp only [mapCs]⟩
  | c :: cs => by
    obtain ⟨d, e⟩ := mapC_tot h c
    obtain ⟨ds, e2⟩ := mapCs_tot h cs
    exact ⟨d :: ds, by simp only [mapCs, e, e2, Option.bind, Option.map]⟩
end
theorem upN_tot1 (i z : Nat) (n : Nat) : ∃ m, upN [i] z n = some m := by
  unfold upN
  by_cases c : n < [i].length
  · rw [if_pos c]
    have : n = 0 := by simpa using c
    subst this
    exact ⟨i, rfl⟩
  · rw [if_neg c]
    exact ⟨_, rfl⟩
theorem Dice.app {m : Nat} {S T : SH} (h : Dice m S) : Dice m (S ++ T) := fun i hi => by
  obtain ⟨x, y, e⟩ := h i hi
  exact ⟨x, y, by rw [List.getElem?_append_left (List.getElem?_eq_some_iff.mp e).1]; exact e⟩
/-- a round on the dice alone -/
theorem fr_dice {d : Sd} {en : En} {τ τ2 : Ta} {S Y : SH} {i k m : Nat} {a b a' b' : Int} (hk : τ[k]? = some (some (.ref i))) (h : S[i]? = some (diceC a b)) (e : d en (downT [i] τ) [diceC a b] = .nx τ2 (diceC a' b' :: Y)) (hd : Dice m S) :
    ∃ τ3 S3, dFrS (lv1 k) d en τ S = .nx τ3 S3 ∧ τ3.length = τ2.length ∧ Dice m S3 := by
  obtain ⟨T, eT⟩ := mapCs_tot (upN_tot1 i S.length) Y
  have el : lv1 k τ S = [i] := by unfold lv1; rw [hk]
  have ed : downS S [i] = some [diceC a b] := by
    unfold downS
    rw [show nodupB [i] = true from rfl, if_pos rfl]
    simp only [pickS, h, Option.map, Option.bind]
    rfl
  have eu : upS [i] S (diceC a' b' :: Y) = some (S.set i (diceC a' b') ++ T) := by
    unfold upS
    rw [show mapCs (upN [i] S.length) (diceC a' b' :: Y) = some (diceC a' b' :: T) from by
      rw [mapCs, show mapC (upN [i] S.length) (diceC a' b') = some (diceC a' b') from rfl]
      simp only [Option.bind, eT, Option.map]]
    simp only [Option.map, setL, List.length_cons, List.length_nil, Nat.zero_add, List.drop_succ_cons, List.drop_zero]
  refine ⟨upT (upN [i] S.length) τ2, S.set i (diceC a' b') ++ T, ?_, by unfold upT; rw [List.length_map], hd.set.app⟩
  unfold dFrS
  rw [el, ed]
  show upRS [i] S (d en (downT [i] τ) [diceC a b]) = _
  rw [e]
  show (match upS [i] S (diceC a' b' :: Y) with | some S3 => RS.nx (upT (upN [i] S.length) τ2) S3 | none => RS.bad) = _
  rw [eu]
theorem rs_nx2 {r : RS} {c : Cell} {Y : SH} (h : endS r = some (c :: Y)) : r = .nx (endT r) (c :: Y) := rs_nx h
end JF
set_option maxHeartbeats 1000000
/-! KD: sets of keys, their members known in any order. -/
namespace JF
open PySem PySem.Spec PyProof.Rows L2
def keyV : Value → Key
  | .int k _ => .inl k
  | .str x _ => .inr x
  | _ => .inl 0
def keyE (e : Int × Value) : Key := keyV e.2
def GoodK (w : World) (e : Int × Value) : Prop := ∃ k, keyIs k e.2 = true ∧ e.1 = keyH w k
theorem keyV_is {k : Key} {v : Value} (h : keyIs k v = true) : keyV v = k := by
  rcases keyIs_shape h with ⟨i, t, rfl, rfl⟩ | ⟨x, t, rfl, rfl⟩ <;> rfl
theorem keyIs_scan {k : Key} {v : Value} (h : keyIs k v = true) : v.scannable = true := by
  rcases keyIs_shape h with ⟨i, t, rfl, rfl⟩ | ⟨x, t, rfl, rfl⟩ <;> rfl
/-- the set of the keys ks at a -/
def SetG (w : World) (h : Heap) (a : Addr) (ks : List Key) : Prop :=
  ∃ o es ep t, h.get? a = some o ∧ o.ExactSet ∧ o.data = .set es ep t ∧ (∀ e ∈ es.toList, GoodK w e) ∧ (es.toList.map keyE).Perm ks ∧ ks.Nodup ∧
    es.size < scanBound ∧ t.fits es.size = true ∧ Ris t.place.toList ∧ (w.params.followText "set-order" = true ∨ t.led = true)
def hasK (ks : List Key) (k : Key) : Bool := ks.any fun j => decide (j = k)
theorem hasK_iff {ks : List Key} {k : Key} : hasK ks k = true ↔ k ∈ ks := by
  unfold hasK
  rw [List.any_eq_true]
  exact ⟨fun ⟨j, h, e⟩ => of_decide_eq_true e ▸ h, fun h => ⟨k, h, decide_eq_true rfl⟩⟩
def addK (ks : List Key) (k : Key) : List Key := if hasK ks k = true then ks else ks ++ [k]
def addKs (ks : List Key) (xs : List Key) : List Key := xs.foldl addK ks
section
variable {P : Program} {w : World} {h h' : Heap} {a : Addr} {ks : List Key}
theorem SetG.at (R : SetG w h a ks) (k : ∀ o, h.get? a = some o → h'.get? a = some o) : SetG w h' a ks := by
  obtain ⟨o, es, ep, t, ho, r⟩ := R
  exact ⟨o, es, ep, t, k o ho, r⟩
theorem goodK_elems {l : List (Int × Value)} (g : ∀ e ∈ l, GoodK w e) : ElemsOf (mixKind P w) l := fun e he => by
  obtain ⟨k, h1, h2⟩ := g e he
  exact ⟨⟨k, h1, h2⟩, keyIs_scan h1⟩
theorem goodK_is {e : Int × Value} (g : GoodK w e) (k : Key) : keyIs k e.2 = true ↔ keyE e = k := by
  obtain ⟨k0, h1, _⟩ := g
  constructor
  · exact fun h => keyV_is h
  · intro h
    rw [← h, show keyE e = k0 from keyV_is h1]
    exact h1
theorem goodK_mem {l : List (Int × Value)} (g : ∀ e ∈ l, GoodK w e) (k : Key) : k ∈ l.map keyE ↔ ∃ e ∈ l, keyIs k e.2 = true := by
  rw [List.mem_map]
  constructor
  · rintro ⟨e, he, q⟩
    exact ⟨e, he, (goodK_is (g e he) k).2 q⟩
  · rintro ⟨e, he, q⟩
    exact ⟨e, he, (goodK_is (g e he) k).1 q⟩
theorem addK_nodup {ks : List Key} (h : ks.Nodup) (k : Key) : (addK ks k).Nodup := by
  unfold addK
  by_cases c : hasK ks k = true
  · rw [if_pos c]; exact h
  · rw [if_neg c]
    exact List.nodup_append.mpr ⟨h, by simp, fun x hx y hy e => c (hasK_iff.mpr (by rw [List.mem_singleton.mp hy] at e; rw [← e]; exact hx))⟩
theorem addK_len (ks : List Key) (k : Key) : (addK ks k).length ≤ ks.length + 1 := by
  unfold addK
  split
  · omega
  · simp
theorem addKs_len : ∀ (xs ks : List Key), (addKs ks xs).length ≤ ks.length + xs.length
  | [], ks => by simp [addKs]
  | x :: xs, ks => by
    have := addKs_len xs (addK ks x)
    have := addK_len ks x
    show (addKs (addK ks x) xs).length ≤ _
    rw [List.length_cons]
    omega
theorem addKs_append (ks xs ys : List Key) : addKs ks (xs ++ ys) = addKs (addKs ks xs) ys := List.foldl_append
end
section
variable {P : Program} {w : World} {A : Around} {E : Value → Shared → Prop} {s : Shared} {a : Addr} {ks : List Key}
theorem setG_tail {g : Bool → Sem Unit} (hg : ∀ (b : Bool) (s₁ : Shared) (Q' : Unit → Shared → Prop), Q' () s₁ → wpAny (model P w) A (g b) Q' E s₁)
    {o : Obj} {es : Array (Int × Value)} {ep : Nat} {t : SetTable} (ho : s.heap.get? a = some o) (hex : o.ExactSet) (hd : o.data = .set es ep t)
    {es1 : Array (Int × Value)} {t2 : SetTable} {ks1 : List Key} (g1 : ∀ e ∈ es1.toList, GoodK w e) (pm1 : (es1.toList.map keyE).Perm ks1) (nd1 : ks1.Nodup)
    (hb1 : es1.size < scanBound) (hf2 : t2.fits es1.size = true) (hr : Ris t2.place.toList) (hl : w.params.followText "set-order" = true ∨ t2.led = true) {wasDummy : Bool} {R : Option Bool → Shared → Prop}
    (hR : ∀ h', Heap.SameBut a s.heap h' → SetG w h' a ks1 → R (some true) { s with heap := h' }) :
    wpAny (model P w) A (do
        storeSet a es1 t2
        if (!wasDummy && t2.tooFull) = true then do
            g (relayAll t2 es1 (SetTable.grown es1.size)).2.2
            storeSet a (relayAll t2 es1 (SetTable.grown es1.size)).1 (relayAll t2 es1 (SetTable.grown es1.size)).2.1
            pure (some true)
          else pure (some true)) R E s := by
  refine wpAny_bind (wpAny_storeSet_of ho hd ?_ (fits_of_scanBound hb1))
  have ho1 := store_at (es' := es1) (t' := t2) ho hd
  have sb1 := Heap.SameBut.update s.heap a (Obj.putSet es1 t2)
  split
  · have pm := relayAll_perm t2 es1 (SetTable.grown es1.size)
    have hf3 := relayAll_fits t2 es1 (SetTable.grown es1.size)
    have hr3 := relayAll_ris t2 es1 (SetTable.grown es1.size)
    have hl3 := relayAll_led t2 es1 (SetTable.grown es1.size)
    generalize relayAll t2 es1 (SetTable.grown es1.size) = Z at pm hf3 hr3 hl3 ⊢
    obtain ⟨es2, t3, gave⟩ := Z
    dsimp only at pm hf3 hr3 hl3 ⊢
    have hsz : es2.size = es1.size := by rw [← Array.length_toList, pm.length_eq, Array.length_toList]
    have hb2 : es2.size < scanBound := by rw [hsz]; exact hb1
    refine wpAny_bind (hg _ _ _ ?_)
    refine wpAny_bind (wpAny_storeSet_of ho1 rfl ?_ (fits_of_scanBound hb2))
    have ho2 := store_at (es' := es2) (t' := t3) ho1 rfl
    refine wpAny_pure (hR _ (sb1.trans (Heap.SameBut.update _ a _)) ?_)
    exact ⟨_, es2, _, t3, ho2, hex, rfl, fun e he => g1 e (pm.mem_iff.mp he), (pm.map keyE).trans pm1, nd1, hb2, hf3, hr3, hl.imp id fun z => by rw [hl3]; exact z⟩
  · exact wpAny_pure (hR _ sb1 ⟨_, es1, _, t2, ho1, hex, rfl, g1, pm1, nd1, hb1, hf2, hr, hl⟩)
theorem setG_add {k : Key} {x : Value} {Q : Bool → Shared → Prop} (hx : keyIs k x = true) (R : SetG w s.heap a ks) (room : ks.length + 1 < scanBound)
    (hQ : ∀ h', Heap.SameBut a s.heap h' → SetG w h' a (addK ks k) → Q (!hasK ks k) { s with heap := h' }) :
    wpAny (model P w) A (setAddHashed a x (keyH w k)) Q E s := by
  obtain ⟨o, es, ep, t, ho, hex, hd, g, pm0, nd, hb, hf, hr, hl⟩ := R
  have hkey : (mixKind P w).is k x = true := hx
  have hsc : x.scannable = true := keyIs_scan hx
  have hel : ElemsOf (mixKind P w) es.toList := goodK_elems g
  have hn : es.size = ks.length := by rw [← Array.length_toList, ← pm0.length_eq, List.length_map]
  show wpAny (model P w) A (setAddHashed a x ((mixKind P w).hash k)) Q E s
  unfold setAddHashed setAddHashedIn
  refine wpAny_holding (wpAny_bind (wpAny_setState_of ho hd hf ?_))
  dsimp only
  rw [byScan_of hsc hb hel]
  simp only [↓reduceIte]
  unfold setAddByScan
  refine wpAny_bind ?_
  refine wpAny_bind (wpAny_rule ?_)
  refine wpAny_bind (wpAny_setScan_of hkey ho hd hf hel ?_)
  cases hfi : List.findIdx? (fun e => (mixKind P w).is k e.2) es.toList with
  | some j =>
    dsimp only
    obtain ⟨hj, pj, _⟩ := List.findIdx?_eq_some_iff_getElem.mp hfi
    have hSk : k ∈ ks := pm0.mem_iff.mp ((goodK_mem (w := w) g k).2 ⟨es.toList[j], List.getElem_mem hj, pj⟩)
    refine wpAny_pure (wpAny_pure ?_)
    have ek : addK ks k = ks := by unfold addK; rw [if_pos (hasK_iff.mpr hSk)]
    have q := hQ s.heap (Heap.SameBut.refl a s.heap) ⟨o, es, ep, t, ho, hex, hd, g, by rw [ek]; exact pm0, by rw [ek]; exact nd, hb, hf, hr, hl⟩
    rw [hasK_iff.mpr hSk] at q
    exact q
  | none =>
    dsimp only
    have hnk : k ∉ es.toList.map keyE := fun z => by
      obtain ⟨e, he, q⟩ := (goodK_mem (w := w) g k).1 z
      have c := List.findIdx?_eq_none_iff.mp hfi e he
      have c' : keyIs k e.2 = false := c
      rw [q] at c'
      cases c'
    have hSk : k ∉ ks := fun z => hnk (pm0.mem_iff.mpr z)
    have hSb : hasK ks k = false := by
      cases e : hasK ks k with
      | false => rfl
      | true => exact (hSk (hasK_iff.mp e)).elim
    have ek : addK ks k = ks ++ [k] := by unfold addK; rw [hSb, if_neg (by decide)]
    have hgw : ∀ (b : Bool) {s₁ : Shared} {Q' : Unit → Shared → Prop}, Q' () s₁ → wpAny (model P w) A (match b with | true => rule "set.scan.the-table-gave-way" | false => pure ()) Q' E s₁ :=
      fun b s₁ Q' q => by cases b <;> first | exact wpAny_pure q | exact wpAny_rule q
    have pm := layNew_perm t es ((mixKind P w).hash k) x
    have hf1 := layNew_fits t es ((mixKind P w).hash k) x
    have hr1 := layNew_ris t es ((mixKind P w).hash k) x hr
    have hl1 := layNew_led t es ((mixKind P w).hash k) x
    generalize layNew t es ((mixKind P w).hash k) x = Z at pm hf1 hr1 hl1 ⊢
    obtain ⟨es1, t1, wasDummy, gave⟩ := Z
    dsimp only at pm hf1 hr1 hl1 ⊢
    rw [Array.toList_push] at pm
    have pc : es1.toList.Perm (((mixKind P w).hash k, x) :: es.toList) := pm.trans (List.perm_append_singleton _ _)
    have pk : (es1.toList.map keyE).Perm (addK ks k) := by
      rw [ek]
      have q : (es1.toList.map keyE).Perm (keyV x :: es.toList.map keyE) := pc.map keyE
      rw [keyV_is hx] at q
      exact q.trans ((pm0.cons k).trans (List.perm_append_singleton _ _).symm)
    have g1 : ∀ e ∈ es1.toList, GoodK w e := fun e he => by
      rcases List.mem_cons.mp (pc.mem_iff.mp he) with z | z
      · rw [z]; exact ⟨k, hx, rfl⟩
      · exact g e z
    have nd1 : (addK ks k).Nodup := addK_nodup nd k
    have hsz : es1.size = ks.length + 1 := by rw [← Array.length_toList, pc.length_eq, List.length_cons, Array.length_toList, hn]
    have hb1 : es1.size < scanBound := by rw [hsz]; exact room
    have hled : w.params.followText "set-order" = true ∨ t1.led = true := hl.imp id fun z => by rw [hl1]; exact z
    have fin : ∀ h', Heap.SameBut a s.heap h' → SetG w h' a (addK ks k) → Q true { s with heap := h' } := fun h' sb r => by
      have q := hQ h' sb r
      rw [hSb] at q
      exact q
    refine wpAny_bind (hgw _ ?_)
    split
    · refine wpAny_bind ?_
      rw [hashByValue_scannable 8 hsc]
      refine wpAny_pure ?_
      refine setG_tail ?_ ho hex hd g1 pk nd1 hb1 ?_ ?_ ?_ ?_
      · intro b s₁ Q' q; cases b <;> first | exact wpAny_pure q | exact wpAny_rule q
      · first | (split <;> first | exact hf1 | exact SetTable.fits_plain_off hf1) | exact hf1
      · first | (split <;> exact hr1) | exact hr1
      · first | (split <;> exact hled) | exact hled
      · intro h' sb r; dsimp only; exact wpAny_pure (fin h' sb r)
    · refine wpAny_bind (wpAny_pure ?_)
      simp only [↓reduceIte]
      refine setG_tail ?_ ho hex hd g1 pk nd1 hb1 hf1 hr1 hled ?_
      · intro b s₁ Q' q; cases b <;> first | exact wpAny_pure q | exact wpAny_rule q
      · intro h' sb r; dsimp only; exact wpAny_pure (fin h' sb r)
theorem setG_fresh_at {w : World} {h : Heap} {a : Addr} (ho : h.get? a = some { cls := .type "set", dict := none, data := .set #[] 0 (.fresh 0 0 (!w.params.followText "set-order")) }) : SetG w h a [] :=
  ⟨_, #[], 0, _, ho, ⟨rfl, rfl, rfl⟩, rfl, (fun e he => by simp at he), (by simp), (by simp), (by decide), (by rfl), List.Pairwise.nil, by
    show _ ∨ (!w.params.followText "set-order") = true
    cases w.params.followText "set-order"
    · exact .inr rfl
    · exact .inl rfl⟩
/-- the set's members gathered from an iterator -/
theorem set_update_keys {I : Addr} {fp wr : List Addr} {G : Array GenState → Array GenState → Prop} {n : Nat} {Pv : Nat → Value → Prop} {St : Nat → Shared → Prop} {R : Result → Shared → Prop}
    (W : WalksS P w A.in1 I fp wr G n Pv St) (S : Addr) (hSf : S ∉ fp) (xs : List Key) (hn : n = xs.length) (hb : xs.length + 1 < scanBound) (hval : ∀ i v, Pv i v → ∃ k, xs[i]? = some k ∧ keyIs k v = true) :
    ∀ (k i : Nat) (s : Shared), n - i = k → i ≤ n → St i s → SetG w s.heap S (addKs [] (xs.take i)) →
      (∀ s', Moved (S :: wr) G s s' → SetG w s'.heap S (addKs [] xs) → R (.ok (.ret .none)) s') →
      codeAny (model P w) A (.builtin "set.update.loop" ⟨[.ref S, .ref I], []⟩) R s := by
  have hSw : S ∉ wr := fun h => hSf (W.sub _ h)
  have hsub : ∀ b ∈ wr, b ∈ S :: wr := fun b hb => List.mem_cons_of_mem _ hb
  intro k
  induction k with
  | zero =>
    intro i s hk' hi hst hS hR
    have hin : i = n := by omega
    subst hin
    refine codeAny_builtin F.entry_set_update_loop ?_
    rw [Around.under_plainId F.plain_set_update_loop _]
    show wpAny _ A.in1 (pyNext (.ref I) >>= _) _ _ s
    refine wpAny_bind (W.done s _ _ hst fun s' hm => ?_)
    show wpAny _ A.in1 (ret Value.none) _ _ s'
    have e : xs.take i = xs := List.take_of_length_le (by omega)
    rw [e] at hS
    exact wpAny_pure (hR s' (hm.mono hsub) (hS.at fun o e => hm.heap S o hSw e))
  | succ k ih =>
    intro i s hk' hi hst hS hR
    have hlt : i < n := by omega
    refine codeAny_builtin F.entry_set_update_loop ?_
    rw [Around.under_plainId F.plain_set_update_loop _]
    show wpAny _ A.in1 (pyNext (.ref I) >>= _) _ _ s
    refine wpAny_bind (W.item i s _ _ hlt hst fun v s' hP hst' hm => ?_)
    obtain ⟨z, hz, hv⟩ := hval i v hP
    have hS' : SetG w s'.heap S (addKs [] (xs.take i)) := hS.at fun o e => hm.heap S o hSw e
    show wpAny _ A.in1 (holding [v] (setAdd S v) >>= _) _ _ s'
    refine wpAny_bind (wpAny_holding ?_)
    unfold setAdd
    refine wpAny_holding ?_
    refine wpAny_bind ((mixKind P w).pyHash (k := z) hv ?_)
    have hl := addKs_len (xs.take i) []
    rw [List.length_take, List.length_nil, Nat.zero_add] at hl
    refine setG_add (s := { s' with toks := s'.toks + 1 }) hv hS' (by omega) fun h' hsb hS2 => ?_
    have hS3 : SetG w h' S (addKs [] (xs.take (i + 1))) := by
      rw [List.take_add_one, hz]
      show SetG w h' S (addKs [] (xs.take i ++ [z]))
      rw [addKs_append]
      exact hS2
    refine wpAny_pure ⟨plainId_quiet F.plain_set_update_loop _, ih (i + 1) _ (by omega) hlt (W.frame _ s' _ _ hst' (Nat.le_succ _) fun b hb o e => ?_) hS3 fun s'' hm'' hS'' => ?_⟩
    · rw [hsb.2 b (fun h : b = S => hSf (by rw [← h]; exact hb))]; exact e
    · refine hR s'' (Moved.trans W.gtrans ((hm.mono hsub).then_heap (Nat.le_succ _) fun b o hb e => ?_) hm'') hS''
      rw [hsb.2 b (fun h : b = S => hb (by rw [h]; exact List.mem_cons_self))]; exact e
set_option maxHeartbeats 3200000 in
/-- set(xs), xs a list of keys -/
theorem call_set_keys {l : Addr} {items : Array Value} (ks : List Key) {Q : Value → Shared → Prop} (hh : A.handled = none) (hl : s.heap.IsList l items) (hit : Vals (ks.map kV) items.toList) (hb : ks.length + 1 < scanBound)
    (h : ∀ (h' : Heap) (tk : Nat), SetG w h' s.heap.objs.size (addKs [] ks) → (∀ b o, s.heap.get? b = some o → h'.get? b = some o) → Q (.ref s.heap.objs.size) { s with heap := h', toks := tk }) :
    wpAny (model P w) A (call (.type "set") [.ref l]) Q E s := by
  have hisz : items.size = ks.length := by
    have q := hit.length
    simpa using q.symm
  obtain ⟨c, tl, hmro⟩ := F.called_set.mro
  have hmade := F.called_set.made
  have hsub := F.called_set.sub
  refine wpAny_call (codeAny_of_tree ?_)
  show wpAny _ _ (callAny (.type "set") _) _ _ _
  refine wpAny_pure ⟨Code.quiet_builtin _ (by decide +kernel), codeAny_builtin F.entry_type_call ?_⟩
  rw [Around.under_plain (weight_type_call_type "set" [.ref l] []) rfl]
  have h1 := F.called_set.notType
  have h2 := F.called_set.canCreate
  have hct := F.typeCall_set_1 (.ref l)
  repeat (any_goals (first | assumption | wp_step))

  refine codeAny_mono (code_set_led1 (.ref l) (E := E) (Q₁ := fun obj s₁ => obj = .ref s.heap.objs.size ∧ s₁ = { s with heap := s.heap.push { cls := .type "set", dict := none, data := .set #[] 0 (.fresh 0 0 (!w.params.followText "set-order")) } }) ⟨rfl, rfl⟩) fun r s₁ hr => ?_
  cases r with
  | error e => exact hr
  | ok fl =>
    cases fl with
    | ret obj =>
      obtain ⟨rfl, rfl⟩ := hr
      have hS : (s.heap.push { cls := .type "set", dict := none, data := .set #[] 0 (.fresh 0 0 (!w.params.followText "set-order")) }).get? s.heap.objs.size = some { cls := .type "set", dict := none, data := .set #[] 0 (.fresh 0 0 (!w.params.followText "set-order")) } := Heap.get?_push_size _ rfl
      have hT : Shared.TypeIs { s with heap := s.heap.push { cls := .type "set", dict := none, data := .set #[] 0 (.fresh 0 0 (!w.params.followText "set-order")) } } (.ref s.heap.objs.size) "set" := ⟨_, hS, rfl⟩
      have hli := F.called_set.init.lookup
      have hbi := F.called_set.init.bind (.ref s.heap.objs.size)
      repeat (any_goals (first | assumption | wp_step))

      refine codeAny_mono (codeAny_call_builtin (R := wants (fun r s₂ => r = .none ∧ ∃ h' tk, s₂ = { s with heap := h', toks := tk } ∧ SetG w h' s.heap.objs.size (addKs [] ks) ∧
          (∀ b o, s.heap.get? b = some o → h'.get? b = some o)) E) F.called_set.init.plain F.entry_set_init (check_set_init_1 hT ?_)) fun r₂ s₂ hr₂ => ?_
      · obtain ⟨ol, hol, hcl, nl, hdl⟩ := hl
        obtain ⟨ocls, odict, odata, oslots⟩ := ol
        simp only at hcl hdl
        subst hcl; subst hdl
        have hol' : (s.heap.push { cls := .type "set", dict := none, data := .set #[] 0 (.fresh 0 0 (!w.params.followText "set-order")) }).get? l = some { cls := .type "list", dict := odict, data := .seq items nl, slots := oslots } := Heap.get?_push_of_some _ hol
        have hsls := F.sub_list_set
        have hslf := F.sub_list_frozenset
        have hne : (Value.type "list" == Value.type "dict") = false := by decide
        have hl1 : (s.heap.push { cls := .type "set", dict := none, data := .set #[] 0 (.fresh 0 0 (!w.params.followText "set-order")) }).IsList l items := ⟨_, hol', rfl, nl, rfl⟩
        unfold Builtin.«set.__init__» noKeywords Builtin.Frozenset.updateFrom
        generalize hPI : pyIter = PI
        wp_walk
        subst hPI

        refine wpAny_pyIter_list hl1 ?_
        refine wpAny_bind (wpAny_runValue ?_)
        have hlS : l < s.heap.objs.size := Heap.lt_size hol
        have hh3 : A.in1.in1.in1.handled = none := by simp [hh]
        have hz1 : (s.heap.push { cls := .type "set", dict := none, data := .set #[] 0 (.fresh 0 0 (!w.params.followText "set-order")) }).objs.size = s.heap.objs.size + 1 := Heap.size_push ..
        have hneI : l ≠ (s.heap.push { cls := .type "set", dict := none, data := .set #[] 0 (.fresh 0 0 (!w.params.followText "set-order")) }).objs.size := by
          rw [Heap.size_push]; exact Nat.ne_of_lt (Nat.lt_succ_of_lt hlS)
        have hSf : s.heap.objs.size ∉ [(s.heap.push { cls := .type "set", dict := none, data := .set #[] 0 (.fresh 0 0 (!w.params.followText "set-order")) }).objs.size, l] := by
          rw [Heap.size_push]; simp only [List.mem_cons, List.mem_singleton, List.not_mem_nil, or_false, not_or]
          exact ⟨Nat.ne_of_lt (Nat.lt_succ_self _), Nat.ne_of_gt hlS⟩
        have hval : ∀ (i : Nat) (v : Value), items[i]? = some v → ∃ k, ks[i]? = some k ∧ keyIs k v = true := fun i v hv => by
          have hi : i < ks.length := by rw [← hisz]; exact (Array.getElem?_eq_some_iff.mp hv).1
          obtain ⟨v', hv', r⟩ := hit.get (i := i) (x := kV ks[i]) (by rw [List.getElem?_map, List.getElem?_eq_getElem hi]; rfl)
          rw [Array.getElem?_toList, hv] at hv'
          cases hv'
          exact ⟨ks[i], List.getElem?_eq_getElem hi, kV_is (P := P) (w := w) r⟩
        refine set_update_keys ((Walks.list hh3 _ l hneI items).toS) s.heap.objs.size
          hSf ks hisz hb hval (items.size - 0) 0 _ (by omega) (Nat.zero_le _)
          ⟨⟨_, Heap.get?_push_size _ rfl, rfl, rfl⟩, (hl1.push _)⟩ ?hS0 ?hR
        case hS0 =>
          have hget : ((s.heap.push { cls := .type "set", dict := none, data := .set #[] 0 (.fresh 0 0 (!w.params.followText "set-order")) }).push { cls := .type "list_iterator", data := .fields #[.ref l, .int 0 0] }).get? s.heap.objs.size
              = some { cls := .type "set", dict := none, data := .set #[] 0 (.fresh 0 0 (!w.params.followText "set-order")) } := Heap.get?_push_of_some _ hS
          exact setG_fresh_at hget
        case hR =>
          intro s' hm hS'
          obtain ⟨h', g2, d', tk', os'⟩ := s'
          have eg : g2 = s.gens := hm.gens
          have ed : d' = s.drawn := hm.drawn
          have eo : os' = s.os := hm.os
          subst eg; subst ed; subst eo
          show wpAny _ _ _ _ _ _
          refine wpAny_pure ?_
          show wpAny _ _ (ret Value.none) _ _ _
          refine wpAny_pure ⟨rfl, h', tk', rfl, hS', fun b o e => ?_⟩
          have hb0 : b < s.heap.objs.size := Heap.lt_size e
          have hb1 : b ≠ s.heap.objs.size := Nat.ne_of_lt hb0
          have hb2 : b ≠ (s.heap.push { cls := .type "set", dict := none, data := .set #[] 0 (.fresh 0 0 (!w.params.followText "set-order")) }).objs.size := by
            rw [Heap.size_push]; exact Nat.ne_of_lt (Nat.lt_succ_of_lt hb0)
          exact hm.heap b o (by simp only [List.mem_cons, List.mem_singleton, List.not_mem_nil, or_false, not_or]; exact ⟨hb1, hb2⟩) (Heap.get?_push_of_some _ (Heap.get?_push_of_some _ e))

      · cases r₂ with
        | error e => exact hr₂
        | ok fl₂ =>
          cases fl₂ with
          | ret r =>
            obtain ⟨rfl, h', tk, rfl, hS', hk'⟩ := hr₂
            repeat (any_goals (first | assumption | wp_step))
            exact h _ _ hS' hk'
          | _ => exact hr₂.elim
    | _ => exact hr.elim
/-- sorted(set of ints) -/
theorem sorted_setGI {ns : List Int} {Q : Value → Shared → Prop} (R : SetG w s.heap a (ns.map Sum.inl)) (hh : A.handled = none) (h64 : ns.length < 64)
    (hQ : ∀ s' p (out : Array Value) (c : Nat) (ys : List Int), (∀ b o, s.heap.get? b = some o → s'.heap.get? b = some o) → s'.gens = s.gens → s'.os = s.os → s.heap.objs.size ≤ p →
      s'.heap.get? p = some (seqObj "list" out c) → IntsAre out.toList ys → ys.Perm ns → ys.Pairwise (· ≤ ·) → Q (.ref p) s') :
    wpAny (model P w) A (call (.builtin "sorted") [.ref a]) Q E s := by
  obtain ⟨o, es, ep, t, ho, hex, hd, g, pk0, nd, hb, hf, hr, hl⟩ := R
  refine Calls.call_function_entry kind_sorted plain_sorted entry_sorted (args_sorted1 _) ?_
  unfold Builtin.«sorted»
  refine wpAny_bind (m := checkCount "sorted" 1 1 _) (wpAny_pure ?_)
  refine wpAny_bind (collect_set (A := A.in1) hh ⟨o, ho, hex.1, hd⟩ hf hb hr hl fun s1 vs k1 hz g1 o1 pm => ?_)
  have hvk : (vs.map keyV).Perm (ns.map Sum.inl) := by
    have q := pm.map keyV
    rw [List.map_map] at q
    exact q.trans pk0
  have hvl : vs.length = ns.length := by
    have q := hvk.length_eq
    rwa [List.length_map, List.length_map] at q
  have hI : IntsAre vs (vs.map Builtin.Re.reRawOf) := ints_of vs fun v hv => by
    obtain ⟨e, he, q⟩ := List.mem_map.mp (pm.mem_iff.mp hv)
    obtain ⟨k, h1, _⟩ := g e he
    rw [← q]
    have hm : keyV e.2 ∈ ns.map Sum.inl := pk0.mem_iff.mp (List.mem_map.mpr ⟨e, he, rfl⟩)
    obtain ⟨i, _, ei⟩ := List.mem_map.mp hm
    rw [keyV_is h1] at ei
    subst ei
    rcases keyIs_shape h1 with ⟨j, u, e1, e2⟩ | ⟨x, u, e1, e2⟩
    · exact ⟨j, u, e2⟩
    · cases e1
  have pk : (vs.map Builtin.Re.reRawOf).Perm ns := by
    have e : (vs.map keyV) = (vs.map Builtin.Re.reRawOf).map Sum.inl := by
      rw [List.map_map]
      refine List.map_congr_left fun v hv => ?_
      obtain ⟨i, hi⟩ := List.getElem?_of_mem hv
      obtain ⟨n, t, ev⟩ : ∃ n t, v = Value.int n t := by
        obtain ⟨e, he, q⟩ := List.mem_map.mp (pm.mem_iff.mp hv)
        obtain ⟨k, h1, _⟩ := g e he
        have hm : keyV e.2 ∈ ns.map Sum.inl := pk0.mem_iff.mp (List.mem_map.mpr ⟨e, he, rfl⟩)
        obtain ⟨i, _, ei⟩ := List.mem_map.mp hm
        rw [keyV_is h1] at ei
        subst ei
        rcases keyIs_shape h1 with ⟨j, u, e1, e2⟩ | ⟨x, u, e1, e2⟩
        · exact ⟨j, u, by rw [← q]; exact e2⟩
        · cases e1
      rw [ev]
      rfl
    rw [e] at hvk
    have q := hvk.map (fun k : Key => match k with | .inl i => i | .inr _ => 0)
    have e1 : ∀ l : List Int, (l.map Sum.inl).map (fun k : Key => match k with | .inl i => i | .inr _ => 0) = l := fun l => by
      rw [List.map_map]
      exact List.map_id l
    rw [e1, e1] at q
    exact q
  refine wpAny_bind (wpAny_newList ?_ (by rw [hvl, sizeLine_eq]; omega))
  have hoL : (s1.heap.push (seqObj "list" vs.toArray 0)).get? s1.heap.objs.size = some (seqObj "list" vs.toArray 0) := Heap.get?_push_size _ rfl
  refine wpAny_bind (wpAny_holding (wpAny_call_entry slot_list_sort ⟨_, hoL, rfl⟩ entry_list_sort (list_sort_tree hoL hI (by rw [hvl]; exact h64) fun out ns' a1 a2 a3 => ⟨_, rfl, ?_⟩) (args_list_sort _)))
  obtain ⟨c, hc⟩ := sortedHeap_at (vs := vs) (out := out) hoL
  refine wpAny_pure ⟨_, rfl, hQ _ s1.heap.objs.size out c ns' (fun b u e => ?_) g1 o1 hz hc a1 (a2.trans pk) a3⟩
  have q := k1 b u e
  have hlt := Heap.lt_size q
  show (sortedHeap (s1.heap.push (seqObj "list" vs.toArray 0)) s1.heap.objs.size vs out).get? b = some u
  rw [sortedHeap_old (Nat.ne_of_lt hlt) (by rw [size_push']; exact Nat.lt_succ_of_lt hlt)]
  exact Heap.get?_push_of_some _ q
end
end JF
set_option maxHeartbeats 2000000
/-! KF: sets of keys as tracked things: set(xs), set comprehensions, sorted. -/
namespace JF
open PySem PySem.Spec PyProof.Rows L2
def SetGO (w : World) (a : Addr) (ks : List Key) : HO := .ext fun h => SetG w h a ks
def strOfV : Value → Str
  | .str x _ => x
  | _ => Str.empty
section
variable {P : Program} {w : World} {A : Around} {E : Value → Shared → Prop} {s : Shared} {a : Addr} {ks : List Key}
theorem setGO_new {H : Hp} {h : Heap} (R : SetG w h a ks) : ObjOk P w H h a (SetGO w a ks) := by
  have ⟨o, _, _, _, ho, _⟩ := R
  exact ⟨R, ⟨o, ho⟩, fun h1 h2 p k => SetG.at p k⟩
/-- sorted(set of texts) -/
theorem sorted_setGS {xs : List Str} {Q : Value → Shared → Prop} (R : SetG w s.heap a (xs.map Sum.inr)) (hh : A.handled = none) (h64 : xs.length < 64)
    (hQ : ∀ s' p (out : Array Value) (c : Nat) (ys : List Str), (∀ b o, s.heap.get? b = some o → s'.heap.get? b = some o) → s'.gens = s.gens → s'.os = s.os → s.heap.objs.size ≤ p →
      s'.heap.get? p = some (seqObj "list" out c) → StrsAre out.toList ys → ys.Perm xs → sortedS ys = true → Q (.ref p) s') :
    wpAny (model P w) A (call (.builtin "sorted") [.ref a]) Q E s := by
  obtain ⟨o, es, ep, t, ho, hex, hd, g, pk0, nd, hb, hf, hr, hl⟩ := R
  refine Calls.call_function_entry kind_sorted plain_sorted entry_sorted (args_sorted1 _) ?_
  unfold Builtin.«sorted»
  refine wpAny_bind (m := checkCount "sorted" 1 1 _) (wpAny_pure ?_)
  refine wpAny_bind (collect_set (A := A.in1) hh ⟨o, ho, hex.1, hd⟩ hf hb hr hl fun s1 vs k1 hz g1 o1 pm => ?_)
  have hvk : (vs.map keyV).Perm (xs.map Sum.inr) := by
    have q := pm.map keyV
    rw [List.map_map] at q
    exact q.trans pk0
  have hvl : vs.length = xs.length := by
    have q := hvk.length_eq
    rwa [List.length_map, List.length_map] at q
  have ev : ∀ v ∈ vs, ∃ x t, v = Value.str x t := fun v hv => by
    obtain ⟨e, he, q⟩ := List.mem_map.mp (pm.mem_iff.mp hv)
    obtain ⟨k, h1, _⟩ := g e he
    have hm : keyV e.2 ∈ xs.map Sum.inr := pk0.mem_iff.mp (List.mem_map.mpr ⟨e, he, rfl⟩)
    obtain ⟨i, _, ei⟩ := List.mem_map.mp hm
    rw [keyV_is h1] at ei
    subst ei
    rcases keyIs_shape h1 with ⟨j, u, e1, e2⟩ | ⟨x, u, e1, e2⟩
    · cases e1
    · exact ⟨x, u, by rw [← q]; exact e2⟩
  have hS : StrsAre vs (vs.map strOfV) := by
    have : ∀ l : List Value, (∀ v ∈ l, ∃ x t, v = Value.str x t) → StrsAre l (l.map strOfV) := fun l => by
      induction l with
      | nil => exact fun _ => .nil
      | cons v l ih =>
        intro h
        obtain ⟨x, t, rfl⟩ := h v List.mem_cons_self
        exact .cons x t (ih fun u hu => h u (List.mem_cons_of_mem _ hu))
    exact this vs ev
  have pk : (vs.map strOfV).Perm xs := by
    have e : (vs.map keyV) = (vs.map strOfV).map Sum.inr := by
      rw [List.map_map]
      refine List.map_congr_left fun v hv => ?_
      obtain ⟨x, t, e⟩ := ev v hv
      rw [e]
      rfl
    rw [e] at hvk
    have q := hvk.map (fun k : Key => match k with | .inl _ => Str.empty | .inr x => x)
    have e1 : ∀ l : List Str, (l.map Sum.inr).map (fun k : Key => match k with | .inl _ => Str.empty | .inr x => x) = l := fun l => by
      rw [List.map_map]
      exact List.map_id l
    rw [e1, e1] at q
    exact q
  refine wpAny_bind (wpAny_newList ?_ (by rw [hvl, sizeLine_eq]; omega))
  have hoL : (s1.heap.push (seqObj "list" vs.toArray 0)).get? s1.heap.objs.size = some (seqObj "list" vs.toArray 0) := Heap.get?_push_size _ rfl
  refine wpAny_bind (wpAny_holding (wpAny_call_entry slot_list_sort ⟨_, hoL, rfl⟩ entry_list_sort
    (list_sort_treeK strKind_oneLt (s := { s1 with heap := s1.heap.push (seqObj "list" vs.toArray 0) }) hoL hS.keysOf (fun v₁ v₂ rest e => keyKind_strs (by rw [← e]; exact hS)) (by rw [hvl]; exact h64) fun st' hp hs => ⟨_, rfl, ?_⟩)
    (args_list_sort _)))
  obtain ⟨ys, g1', g2, g3⟩ := sorted_out_str hS hp hs
  obtain ⟨c, hc⟩ := sortedHeap_at (vs := vs) (out := (arrOf st').map (·.2)) hoL
  refine wpAny_pure ⟨_, rfl, hQ _ s1.heap.objs.size ((arrOf st').map (·.2)) c ys (fun b u e => ?_) g1 o1 hz hc g1' (g2.trans pk) g3⟩
  have q := k1 b u e
  have hlt := Heap.lt_size q
  rw [sortedHeap_old (Nat.ne_of_lt hlt) (by rw [size_push']; exact Nat.lt_succ_of_lt hlt)]
  exact Heap.get?_push_of_some _ q
end
section
variable {X : Cx}
theorem setGO_get {pins : List (Addr × Obj)} {σ : L2.St} {H : Hp} {s : Shared} {a : Addr} {ks : List Key} (I : Inv X pins σ H s) (ha : H a = some (SetGO X.w a ks)) : SetG X.w s.heap a ks := (I.hok a _ ha).1
/-- set.add of a key -/
theorem addG_ok {pins : List (Addr × Obj)} {σ : L2.St} {H : Hp} {s : Shared} {E : Value → Shared → Prop} {D : Addr} {ks : List Key} {k : Key} {u : Value} {Q : Value → Shared → Prop} (I : Inv X pins σ H s) (hD : H D = some (SetGO X.w D ks)) (room : ks.length + 1 < scanBound) (r : RelV (kV k) u)
    (h : ∀ s', Inv X pins σ (upd H D (SetGO X.w D (addK ks k))) s' → Q .none s') : wpAny (model X.prog X.w) X.A (call (.builtin "set.add") [.ref D, u]) Q E s := by
  have R := setGO_get I hD
  have hk : keyIs k u = true := kV_is (P := X.prog) (w := X.w) r
  have hT : s.TypeIs (.ref D) "set" := by
    obtain ⟨o, _, _, _, ho, hex, _⟩ := R
    exact ⟨o, ho, hex.1⟩
  refine wpAny_call_entry F.slot_set_add hT F.entry_set_add ?_ (F.args_set_add_2 _ _)
  unfold Builtin.«set.add» Builtin.Frozenset.oneOther
  simp only [List.isEmpty_nil, bind_assoc]
  unfold Builtin.Frozenset.addrOf setAdd
  refine wpAny_bind (wpAny_pure ?_)
  try dsimp only
  refine wpAny_bind (wpAny_pure ?_)
  try dsimp only
  refine wpAny_bind ?_
  refine wpAny_holding ?_
  refine wpAny_bind ((mixKind X.prog X.w).pyHash (k := k) hk ?_)
  refine setG_add (s := { s with toks := s.toks + 1 }) hk R room fun h' sb new => ?_
  show wpAny _ _ (ret Value.none) _ _ _
  have he : ∃ u, h'.get? D = some u := by
    have ⟨o, _, _, _, ho, _⟩ := new
    exact ⟨o, ho⟩
  exact wpAny_pure ⟨_, rfl, h _ (I.write (e := D) (t' := s.toks + 1) (by rw [hD]; trivial) (.inl rfl) (fun b u hb hu => (sb.2 b hb).trans hu) he (setGO_new new))⟩
/-- set(xs), xs a list of keys -/
def rSetL (K : PySem.W.Frag) (w : World) : List V → Hp → VK → Prop := fun xs H Q => ∃ (l : Addr) (ks : List Key), xs = [V.ref l] ∧ SqL K H l (ks.map kV) ∧ ks.length + 1 < scanBound ∧ ∀ a, H a = none → Q (.ref a) (upd H a (SetGO w a (addKs [] ks)))
theorem cr_setL (hc : X.calm = true) : CallR X (.type "set") (rSetL X.K X.w) := by
  intro pins s σ H xs us Q I r h
  obtain ⟨l, ks, rfl, hl, hf, q⟩ := h
  rw [Vals.ref1 r]
  obtain ⟨its, rv, pl, hz⟩ := I.list hl
  have hn : H s.heap.objs.size = none := I.hok.fresh (Nat.le_refl _)
  refine call_set_keys (P := X.prog) (w := X.w) ks (I.ok.hd hc) pl.isList (by simpa using rv) hf fun h' tk R k => ?_
  exact ⟨.ref s.heap.objs.size, upd H s.heap.objs.size (SetGO X.w s.heap.objs.size (addKs [] ks)), I.laid (t' := tk) k (Nat.le_refl _) (setGO_new R), rfl, q _ hn⟩
/-- sorted(found) -/
def rSortGI (w : World) : List V → Hp → VK → Prop := fun vs H Q => ∃ (a : Addr) (ns : List Int), vs = [V.ref a] ∧ H a = some (SetGO w a (ns.map Sum.inl)) ∧ ns.length < 64 ∧
  ∀ (ys : List Int) (p : Addr), ys.Perm ns → ys.Pairwise (· ≤ ·) → H p = none → Q (.ref p) (upd H p (.lst (ys.map V.int)))
theorem cr_sortGI (hc : X.calm = true) : CallR X (.builtin "sorted") (rSortGI X.w) := by
  intro pins s σ H vs us Q I r h
  obtain ⟨a, ns, rfl, ha, h64, q⟩ := h
  have R := setGO_get I ha
  rw [Vals.ref1 r]
  refine sorted_setGI R (I.ok.hd hc) h64 fun s' p out c ys k g o hp hg hi hm hs => ?_
  have hlen : (ys.map V.int).length ≤ sizeLine := by rw [List.length_map, hm.length_eq, sizeLine_eq]; omega
  have hn : H p = none := I.hok.fresh hp
  have J : Inv X pins σ (upd H p (.lst (ys.map V.int))) { s with heap := s'.heap, gens := s'.gens, drawn := s'.drawn, toks := s'.toks } :=
    I.call (ch := []) (Un.laid k hp hn) (I.hok.laid k hp ⟨hlen, out.toList, c, vals_of_ints hi, hg⟩) (by rw [g]; exact I.bare) (fun _ z => nomatch z)
  have e : s' = { s with heap := s'.heap, gens := s'.gens, drawn := s'.drawn, toks := s'.toks } := by
    cases s'
    cases s
    cases o
    rfl
  rw [e]
  exact ⟨.ref p, _, J, rfl, q ys p hm hs hn⟩
def rSortGS (w : World) : List V → Hp → VK → Prop := fun vs H Q => ∃ (a : Addr) (ns : List Str), vs = [V.ref a] ∧ H a = some (SetGO w a (ns.map Sum.inr)) ∧ ns.length < 64 ∧
  ∀ (ys : List Str) (p : Addr), ys.Perm ns → sortedS ys = true → H p = none → Q (.ref p) (upd H p (.lst (ys.map V.str)))
theorem cr_sortGS (hc : X.calm = true) : CallR X (.builtin "sorted") (rSortGS X.w) := by
  intro pins s σ H vs us Q I r h
  obtain ⟨a, ns, rfl, ha, h64, q⟩ := h
  have R := setGO_get I ha
  rw [Vals.ref1 r]
  refine sorted_setGS R (I.ok.hd hc) h64 fun s' p out c ys k g o hp hg hi hm hs => ?_
  have hlen : (ys.map V.str).length ≤ sizeLine := by rw [List.length_map, hm.length_eq, sizeLine_eq]; omega
  have hn : H p = none := I.hok.fresh hp
  have J : Inv X pins σ (upd H p (.lst (ys.map V.str))) { s with heap := s'.heap, gens := s'.gens, drawn := s'.drawn, toks := s'.toks } :=
    I.call (ch := []) (Un.laid k hp hn) (I.hok.laid k hp ⟨hlen, out.toList, c, vals_of_strs hi, hg⟩) (by rw [g]; exact I.bare) (fun _ z => nomatch z)
  have e : s' = { s with heap := s'.heap, gens := s'.gens, drawn := s'.drawn, toks := s'.toks } := by
    cases s'
    cases s
    cases o
    rfl
  rw [e]
  exact ⟨.ref p, _, J, rfl, q ys p hm hs hn⟩
/-- {elt for target in iter if ..}, elt a key: D the new set -/
def tSg (w : World) (wi : TI) (g : TG) (tt : TT) (te : TE) (vs : List Nat) : TE := fun σ H Q => wi σ H fun J H1 => ∀ D, H1 D = none → ∃ W : Nat → Nat → Hp → Prop, (∃ m, W 0 m (upd H1 D (SetGO w D []))) ∧ ∀ i m H, W i m H →
  (J.stop i H ∧ Q (.ref D) H) ∨ (J.go i H ∧ ∃ Nx : Hp → Prop, (∀ H', Nx H' → ∃ m', m' < m ∧ W (i + 1) m' H') ∧ ∀ x H', J.yld i H x H' → g x (wipe σ vs) H' fun σ2 H2 => wipe σ2 vs = wipe σ vs ∧ tt σ2 H2 fun b H3 =>
    if b = true then te σ2 H3 fun y H4 => ∃ (ks : List Key) (k : Key), y = kV k ∧ H4 D = some (SetGO w D ks) ∧ ks.length + 1 < scanBound ∧ Nx (upd H4 D (SetGO w D (addK ks k))) else Nx H3)
theorem sg_core {pins : List (Addr × Obj)} {s : Shared} {σ : L2.St} {H : Hp} {Q : VK} {elt tg iter : Expr} {ifs : List Expr} {scope : Scope} {own : List (Str × Nat)} {pos pos' : Pos} {wi : TI} {g : TG} {tt : TT} {te : TE} {use : Option (Value → Sem Unit)} {Qf : Value → Shared → Prop}
    (hc : X.calm = true) (hN : X.N.Nodup) (I : Inv X pins σ H s) (hi : PI X tg iter wi) (ok : BlkOk X.N X.env.scope scope own)
    (hg : ∀ (s : Shared) (H : Hp) (C : Addr) (cl : List (Str × Addr)) (fp : List Addr), PG (X.blk s H scope (compEnvC scope cl C X.env) fp) tg g) (ht : ∀ (s : Shared) (H : Hp) (C : Addr) (cl : List (Str × Addr)) (fp : List Addr), PTs (X.blk s H scope (compEnvC scope cl C X.env) fp) ifs tt)
    (he : ∀ (s : Shared) (H : Hp) (C : Addr) (cl : List (Str × Addr)) (fp : List Addr), PE (X.blk s H scope (compEnvC scope cl C X.env) fp) elt te) (hs : ∀ x, foldedSetIterable iter X.env x = pure x)
    (h : tSg X.w wi g tt te (own.map (·.2)) σ H Q)
    (hRR : ∀ D C s' m H', Inv X pins σ H' s' → Q (.ref D) H' → s'.heap.Ns C m → FpOk X pins H' C → compPost (model X.prog X.w) X.A X.xe use Qf (.ref D) C (.ok .next) s') :
    wpAny (model X.prog X.w) X.A (comprehension (.SetComp elt [⟨tg, iter, ifs, 0⟩] scope pos) scope X.env pos' (newSet (.type "set")) false (eval iter X.env) use) Qf X.xe s := by
  have hfree : ∀ y ∈ scope.names, y.2 = .free → ∃ c, X.env.cells.lookup y.1 = some c := fun y hy e => by
    rcases ok.free y hy e with k | k
    · exact I.ok.has _ (.inl k)
    · exact I.ok.has _ (.inr k)
  refine wpAny_comprehension_free (use := use) rfl hs (closure_ok hfree) ok.kind (fun y hy e => by rw [ok.uniq y hy, e])
    (thn (hi.run pins s σ H _ I h) fun xv s1 hx => thn hx fun itv s2 h2 => ?_)
  obtain ⟨it, fp, tn, J, H2, e, I2, T, st2, f2, q⟩ := h2
  subst e
  refine PpSet.newSet_ok (newEnv_comp ?_)
  generalize hD : s2.heap.objs.size = D
  have hDn : H2 D = none := I2.hok.fresh (Nat.le_of_eq hD)
  obtain ⟨W, ⟨m0, w0⟩, turn⟩ := q D hDn
  -- the new list
  generalize hs3 : ({ s2 with heap := s2.heap.push { cls := .type "set", dict := none, data := .set #[] 0 (.fresh 0 0 (!X.w.params.followText "set-order")) } } : Shared) = s3
  have I3 : Inv X pins σ (upd H2 D (SetGO X.w D [])) s3 := by
    rw [← hs3]
    refine I2.laid (t' := s2.toks) (fun b o e => Heap.get?_push_of_some _ e) (Nat.le_of_eq hD) ?_
    rw [← hD]
    exact setGO_new (setG_fresh_at (Heap.get?_push_size _ rfl))
  have h3 : s3.heap = s2.heap.push { cls := .type "set", dict := none, data := .set #[] 0 (.fresh 0 0 (!X.w.params.followText "set-order")) } := by rw [← hs3]
  have sz : ∀ b ∈ fp, b < s2.heap.objs.size := fun b hb => by
    obtain ⟨o, e, _⟩ := T.obj _ _ st2 b hb
    exact Heap.lt_size e
  have f3 : ∀ b ∈ fp, FpOk X pins (upd H2 D (SetGO X.w D [])) b ∧ b < s3.heap.objs.size := fun b hb => by
    have hlt := sz b hb
    refine ⟨⟨?_, (f2 b hb).2⟩, by rw [h3, Heap.size_push]; exact Nat.lt_succ_of_lt hlt⟩
    rw [upd_ne (by rw [← hD]; exact Nat.ne_of_lt hlt)]
    exact (f2 b hb).1
  have st3 : tn 0 s3.heap := T.keep _ _ _ st2 fun b _ o e => by rw [h3]; exact Heap.get?_push_of_some _ e
  have I4 := block_start I3 ok hN f3
  have pg := hg s3 (upd H2 D (SetGO X.w D [])) s3.heap.objs.size (cellsFrom (s3.heap.objs.size + 1) scope.names (cloFrom X.env.cells scope.names [])) fp
  have pt := ht s3 (upd H2 D (SetGO X.w D [])) s3.heap.objs.size (cellsFrom (s3.heap.objs.size + 1) scope.names (cloFrom X.env.cells scope.names [])) fp
  have pe := he s3 (upd H2 D (SetGO X.w D [])) s3.heap.objs.size (cellsFrom (s3.heap.objs.size + 1) scope.names (cloFrom X.env.cells scope.names [])) fp
  show codeAny _ _ (.compStart (.SetComp elt [⟨tg, iter, ifs, 0⟩] scope pos) 0 (.ref it) (.ref D) (compEnvC scope (cellsFrom (s3.heap.objs.size + 1) scope.names (cloFrom X.env.cells scope.names [])) s3.heap.objs.size X.env)) (compPost (model X.prog X.w) X.A X.xe use Qf (.ref D) s3.heap.objs.size) { s3 with heap := pushCells (s3.heap.push { cls := .type "dict", data := .dict #[] }) scope.names }
  have nfp : ∀ b ∈ fp, (upd H2 D (SetGO X.w D [])) b = none := fun b hb => (f3 b hb).1.1
  generalize hce : compEnvC scope (cellsFrom (s3.heap.objs.size + 1) scope.names (cloFrom X.env.cells scope.names [])) s3.heap.objs.size X.env = ce at I4 pg pt pe ⊢
  have cL : ce.locals = s3.heap.objs.size := by subst hce; rfl
  generalize hH3 : upd H2 D (SetGO X.w D []) = H3 at I3 I4 pg pt pe w0 nfp f3
  generalize hs4 : ({ s3 with heap := pushCells (s3.heap.push { cls := .type "dict", data := .dict #[] }) scope.names } : Shared) = s4 at I4 ⊢
  have st4 : tn 0 s4.heap := T.keep _ _ _ st3 fun b _ o e => by rw [← hs4]; exact pushCells_keeps _ _ _ _ (Heap.get?_push_of_some _ e)
  have stat : ∀ {σ' : L2.St} {H' : Hp} {s' : Shared}, Inv (X.blk s3 H3 scope ce fp) [] σ' H' s' → (∀ b ∈ fp, H' b = none) → ∀ b ∈ fp, FpOk (X.blk s3 H3 scope ce fp) [] H' b := fun {σ' H' s'} I' hn b hb =>
    ⟨hn b hb, (I'.ok.exf b hb).1, I'.ok.exfs b hb, .inl hb, fun x c e => (I'.ok.exf b hb).2 x c e, fun p hp => absurd (show p ∈ ([] : List (Addr × Obj)) ++ [] from hp) (by simp)⟩
  have loop : codeAny (model X.prog X.w) X.A (.compLoop (.SetComp elt [⟨tg, iter, ifs, 0⟩] scope pos) 0 (.ref it) (.ref D) ce) (compPost (model X.prog X.w) X.A X.xe use Qf (.ref D) s3.heap.objs.size) s4 := by
    refine PpSet.compLoopS_any (fun n s' => ∃ i H', Inv (X.blk s3 H3 scope ce fp) [] (wipe σ (own.map (·.2))) H' s' ∧ tn i s'.heap ∧ (∀ b ∈ fp, H' b = none) ∧ W i n H') ?_ m0 ⟨0, H3, I4, st4, nfp, w0⟩
    rintro n s5 ⟨i, H5, I5, st5, n5, w5⟩
    rcases turn i n H5 w5 with ⟨stop, qq⟩ | ⟨go, Nx, hNx, step⟩
    · have td := T.done (X.blk s3 H3 scope ce fp) rfl rfl rfl hc i [] s5 _ H5 (fun _ _ => False) I5 (stat I5 n5) st5 stop
      refine thnF td fun r s6 ⟨hr, I6⟩ => ?_
      subst hr
      -- back in the def's context
      have I7 : Inv X pins σ H5 s6 := I3.call' (ch := fp) I6.os I6.base I6.hok I6.bare fun b hb => ⟨(f3 b hb).1.2.2.2.1, (f3 b hb).1.2.1, (f3 b hb).1.2.2.2.2.1, (f3 b hb).1.2.2.2.2.2⟩
      have nC : H5 s3.heap.objs.size = none := by
        have z : H5 ce.locals = none := I6.free
        rw [cL] at z
        exact z
      obtain ⟨m, hn, _⟩ := I6.loc
      have hn : s6.heap.Ns ce.locals m := hn
      rw [cL] at hn
      exact hRR D s3.heap.objs.size s6 m H5 I7 qq hn (I3.fpOk (Nat.le_refl _) nC)
    · have ti := T.item (X.blk s3 H3 scope ce fp) rfl rfl rfl hc i [] s5 _ H5 (fun _ _ => False) I5 (stat I5 n5) st5 go
      refine thnF ti fun r s6 ⟨u, hr, h6⟩ => ?_
      subst hr
      refine thnF h6 fun _ s7 ⟨x, H7, I7, r7, y7, st7, n7⟩ => ?_
      have I7' := I7.pinned (stat I7 n7) (T.obj _ _ st7)
      refine thnF (pg.run _ s7 _ H7 x u _ I7' r7 (step x H7 y7)) fun _ s8 ⟨σ8, H8, I8, hw8, q8⟩ => ?_
      refine thnF (pt.run _ s8 σ8 H8 _ I8 q8) fun b s9 ⟨H9, I9, q9⟩ => ?_
      -- the turn's end
      have fin : ∀ {s' : Shared} {H' : Hp}, Inv (X.blk s3 H3 scope ce fp) ([] ++ pinsAt fp s7.heap) σ8 H' s' → Nx H' → ∃ m, m < n ∧ ∃ i H', Inv (X.blk s3 H3 scope ce fp) [] (wipe σ (own.map (·.2))) H' s' ∧ tn i s'.heap ∧ (∀ b ∈ fp, H' b = none) ∧ W i m H' := fun {s' H'} I' nx => by
        obtain ⟨m', hm, w'⟩ := hNx H' nx
        have pin' : ∀ b ∈ fp, ∀ o, s7.heap.get? b = some o → s'.heap.get? b = some o ∧ H' b = none := fun b hb o e =>
          let z := I'.pin (b, o) (List.mem_append_right _ (List.mem_append_right _ (mem_pinsAt hb e)))
          ⟨z.1, z.2.1⟩
        have hl : (wipe σ (own.map (·.2))).length = σ8.length := by rw [← hw8, wipe_length]
        refine ⟨m', hm, i + 1, H', (I'.unpinned (pins := [])).weak hl (fun j v e => ?_), T.keep _ _ _ st7 fun b hb o e => (pin' b hb o e).1, fun b hb => ?_, w'⟩
        · rw [← hw8] at e
          exact (wipe_some e).1
        · obtain ⟨o, e, _⟩ := T.obj _ _ st7 b hb
          exact (pin' b hb o e).2
      cases b with
      | false =>
        simp only [Bool.false_eq_true, if_false] at q9 ⊢
        exact fin I9 q9
      | true =>
        simp only [if_true] at q9 ⊢
        refine thnF (pe.run _ s9 σ8 H9 _ I9 q9) fun z s10 ⟨yv, H10, I10, r10, ks0, k0, ey, hD10, hz10, nx⟩ => ?_
        subst ey
        exact addG_ok (X := X.blk s3 H3 scope ce fp) I10 hD10 hz10 r10 fun s11 I11 => fin I11 nx
  exact PpSet.codeAny_compStart_set loop (T.self X.A 0 _ _ _ st4 loop)
/-- as a value -/
theorem pe_sg {elt tg iter : Expr} {ifs : List Expr} {scope : Scope} {own : List (Str × Nat)} {pos : Pos} {wi : TI} {g : TG} {tt : TT} {te : TE} (hc : X.calm = true) (hN : X.N.Nodup) (hi : PI X tg iter wi) (ok : BlkOk X.N X.env.scope scope own)
    (hg : ∀ (s : Shared) (H : Hp) (C : Addr) (cl : List (Str × Addr)) (fp : List Addr), PG (X.blk s H scope (compEnvC scope cl C X.env) fp) tg g) (ht : ∀ (s : Shared) (H : Hp) (C : Addr) (cl : List (Str × Addr)) (fp : List Addr), PTs (X.blk s H scope (compEnvC scope cl C X.env) fp) ifs tt)
    (he : ∀ (s : Shared) (H : Hp) (C : Addr) (cl : List (Str × Addr)) (fp : List Addr), PE (X.blk s H scope (compEnvC scope cl C X.env) fp) elt te) (hs : ∀ x, foldedSetIterable iter X.env x = pure x := by intro _; rfl) :
    PE X (.SetComp elt [⟨tg, iter, ifs, 0⟩] scope pos) (tSg X.w wi g tt te (own.map (·.2))) := by
  refine ⟨fun pins s σ H Q I h => ?_⟩
  rw [PpSet.eval_SetComp]
  refine sg_core hc hN I hi ok hg ht he hs h fun D C s' m H' I' q hn f => ⟨m, hn, fun h'' sb => ?_⟩
  obtain ⟨f0, f1, f2, f3, f4, f5⟩ := f
  exact ⟨.ref D, H', I'.turned (t' := s'.toks) (fun b o hb e => (sb.2 b hb).trans e) f0 f1 f3 f4 f5, rfl, q⟩
end
end JF
set_option maxHeartbeats 1000000
/-! KG: codes whose value is a set that is used up at once. -/
namespace JF
open PySem PySem.Spec PyProof.Rows L2
abbrev Gd := En → Ta → SH → R (List Key)
def relK (w : World) : List Addr → Hp → List Key → V → Prop := fun ρ H ks x => ∃ D, x = .ref D ∧ H D = some (SetGO w D ks) ∧ D ∉ ρ
def tKs (K : PySem.W.Frag) (w : World) (en : En) (W : WX) (d : Gd) : TE := fun σ H Q => ∃ ρ S τ, HR K ρ H S ∧ SR K ρ H τ σ ∧ Post K W σ ρ H (relK w) (d en τ S) Q
def keyL (S : SH) (u : IV) : Option (List Key) := (rdL S u).bind keyIs9
/-- set(e) -/
def gSet (d : Ed) : Gd := fun en τ S => (d en τ S).bind fun u S1 => match keyL S1 u with
  | some ks => if ks.length < 100 then .ok (addKs [] ks) S1 else .bad
  | none => .bad
/-- sorted(set) -/
def dSortG (cell : Bool) (g : Gd) : Ed := fun en τ S => (g en τ S).bind fun ks S1 => match sortK ks with
  | some ys => .ok (mkL cell ys S1).1 (mkL cell ys S1).2
  | none => .bad
/-- the turns of a set comprehension -/
def scGo (get : SH → Nat → Option (Option IV)) (bd : SH → IV → Option Ta) (tt : Ta → SH → R Bool) (te : Ta → SH → R IV) : Nat → Nat → List Key → SH → Option (List Key × SH)
  | 0, _, _, _ => none
  | f + 1, i, acc, S => match get S i with
    | none => none
    | some none => some (acc, S)
    | some (some v) => match bd S v with
      | none => none
      | some τ => match tt τ S with
        | .ok true S => (match te τ S with
          | .ok y S => (match keyI y with
            | some k => if acc.length < 100 then scGo get bd tt te f (i + 1) (addK acc k) S else none
            | none => none)
          | _ => none)
        | .ok false S => scGo get bd tt te f (i + 1) acc S
        | _ => none
def gSc (z : Zd) (t : Tg) (tt : Td) (te : Ed) (vs : List Nat) : Gd := fun en τ S => (z en τ S).bind fun src S => match scGo src.get (fun S v => bindT S t v (wipeT τ vs)) (tt en) (te en) (src.fuel en) 0 [] S with
  | some (xs, S) => .ok xs S
  | none => .bad
/-! ### a set is no code object -/
def ExtS (D : Addr) (o : HO) : Prop := ∃ f, o = .ext f ∧ ∀ h, f h → ∃ (ob : Obj) (es : Array (Int × Value)) (ep : Nat) (t : SetTable), h.get? D = some ob ∧ ob.data = .set es ep t
theorem extS_ne {D : Addr} {o : HO} {q : Str} (x : ExtS D o) : o ≠ LamX.CodeO D q := fun e => by
  obtain ⟨f0, rfl, hf⟩ := x
  unfold LamX.CodeO at e
  have f := congrFun (HO.ext.inj e) (({ objs := Array.replicate D { cls := .none, data := .fields #[] } } : Heap).push { cls := .none, data := .fields #[.none, .str q 0] })
  have g : (({ objs := Array.replicate D { cls := .none, data := .fields #[] } } : Heap).push { cls := .none, data := .fields #[.none, .str q 0] }).get? D = some { cls := .none, data := .fields #[.none, .str q 0] } := by
    have q := Heap.get?_push_size ({ objs := Array.replicate D { cls := .none, data := .fields #[] } } : Heap) (o := { cls := .none, data := .fields #[.none, .str q 0] }) rfl
    rw [show ({ objs := Array.replicate D { cls := .none, data := .fields #[] } } : Heap).objs.size = D from Array.size_replicate ..] at q
    exact q
  obtain ⟨o, es, ep, t, ho, hd⟩ := hf _ (f.mpr ⟨_, _, _, g, rfl, rfl⟩)
  rw [g] at ho
  cases ho
  cases hd
theorem extS_G {w : World} {D : Addr} {ks : List Key} : ExtS D (SetGO w D ks) := ⟨_, rfl, fun h ⟨o, es, ep, t, ho, _, hd, _⟩ => ⟨o, es, ep, t, ho, hd⟩⟩
section
variable {K : PySem.W.Frag} {ρ ρ1 : List Addr} {H H1 : Hp} {S : SH} {D : Addr} {o1 : HO}
theorem tabs_updS {T : List (Addr × Str)} {o : HO} (hD : H D = some o1) (x : ExtS D o1) (t : LamX.Tabs T H) : LamX.Tabs T (upd H D o) := fun p hp => by
  obtain ⟨ps, h1, h2, h3⟩ := t p hp
  have z : p.1 ≠ D := fun z => by
    obtain ⟨f, rfl, _⟩ := x
    rw [z, hD] at h1
    cases h1
  refine ⟨ps, by rw [upd_ne z]; exact h1, h2, fun pos cv hc => ?_⟩
  obtain ⟨c, e1, e2⟩ := h3 pos cv hc
  refine ⟨c, e1, ?_⟩
  have z : c ≠ D := fun z => by
    subst z
    rw [hD] at e2
    exact extS_ne x (Option.some.inj e2)
  rw [upd_ne z]
  exact e2
theorem offS_tr (n : D ∉ ρ) (hD : H D = some o1) (x : ExtS D o1) (o : HO) : Tr K ρ H ρ (upd H D o) := ⟨fun _ _ q => q, fun a ys na q => by
    have z : a ≠ D := fun z => by
      obtain ⟨f, rfl, _⟩ := x
      rw [z, hD] at q
      cases q
    exact ⟨na, by rw [upd_ne z]; exact q⟩, fun b o' u _ q => by
    have z : b ≠ D := fun z => by
      obtain ⟨f, rfl, _⟩ := x
      rw [z, hD] at q
      cases q
    rw [upd_ne z]
    exact q, tabs_updS hD x, fun a fs na q => by
    have z : a ≠ D := fun z => by
      obtain ⟨f, rfl, _⟩ := x
      rw [z, hD] at q
      cases q
    exact ⟨na, by rw [upd_ne z]; exact q⟩⟩
theorem offS_hr (n : D ∉ ρ) (hD : H D = some o1) (x : ExtS D o1) (o : HO) (hr : HR K ρ H S) : HR K ρ (upd H D o) S := hr.off (offS_tr n hD x o) fun a ha => upd_ne fun z => n (z ▸ ha)
theorem ext_updS (e : Ext K ρ H ρ1 H1) (hD : H D = none) (h1 : H1 D = some o1) (x : ExtS D o1) (o : HO) : Ext K ρ H ρ1 (L2.upd H1 D o) := ⟨e.pre, fun b u hb n t => by rw [upd_ne (ne_of_none hb hD)]; exact e.keep b u hb n t, fun b o' u hb => by rw [upd_ne (ne_of_none hb hD)]; exact e.frz b o' u hb, fun h => tabs_updS h1 x (e.tbs h)⟩
theorem extS_nt (x : ExtS D o1) : ∀ ps, o1 ≠ .tbl ps := fun ps z => by
  obtain ⟨f, rfl, _⟩ := x
  cases z
theorem nt_set {w : World} {ks : List Key} : ∀ ps, SetGO w D ks ≠ .tbl ps := extS_nt extS_G
end
section
variable {X : Cx} {en : En} {W : WX} {pos p : Pos} {e : Expr}
theorem g_set {d : Ed} (hc : X.calm = true) (hg : Gl X "set") (hm : X.mg "set" = none) (hs : notStar e = true) (ha : PE X e (tE X.K en W d)) : PE X (.Call (.Name "set" p) [e] [] pos) (tKs X.K X.w en W (gSet d)) := by
  refine (pe_callTy (cr_setL hc) hg hm PyProof.Rows.Boot.«set» (pa_cons ha pa_nil (star_cons hs)) (by decide) (by rfl) (star_cons hs) rfl).jimp fun σ H Q ⟨ρ, S, τ, hr, sr, h⟩ => ⟨ρ, S, τ, hr, sr, ?_⟩
  refine Post.seq h fun ρ1 H1 S1 u x hr1 e1 r1 h1 => ?_
  unfold keyL at h1
  cases eu : rdL S1 u with
  | none => rw [eu] at h1; exact h1.elim
  | some xs =>
    rw [eu] at h1
    simp only [Option.bind] at h1
    cases ek : keyIs9 xs with
    | none => rw [ek] at h1; exact h1.elim
    | some ks =>
      rw [ek] at h1
      obtain ⟨a, ys, rfl, hq, rr⟩ := rdL_sq hr1 r1 eu
      rw [keyIs9_rel rr ek] at hq
      by_cases c : ks.length < 100
      · simp only [if_pos c] at h1
        exact ⟨a, ks, rfl, hq, by unfold scanBound; omega, fun D hD => h1 ρ1 _ _ (hr1.inl hD _).1 (hr1.inl hD _).2 ⟨D, rfl, upd_same, hr1.ne hD⟩⟩
      · simp only [if_neg c] at h1
        exact h1.elim
theorem s_sortG {g : Gd} (cell : Bool) (hc : X.calm = true) (hg : Gl X "sorted") (hm : X.mg "sorted" = none) (hs : notStar e = true) (ha : PE X e (tKs X.K X.w en W g)) : PE X (.Call (.Name "sorted" p) [e] [] pos) (tE X.K en W (dSortG cell g)) := by
  refine (pe_callB ((cr_sortGI hc).or (cr_sortGS hc)).fz hg hm PyProof.Rows.Boot.«sorted» (pa_cons ha pa_nil (star_cons hs)) (by decide) (by rfl) (star_cons hs) rfl).jimp fun σ H Q ⟨ρ, S, τ, hr, sr, h⟩ => ⟨ρ, S, τ, hr, sr, ?_⟩
  refine Post.seq h fun ρ1 H1 S1 ks x hr1 e1 r1 h1 => ?_
  obtain ⟨D, rfl, hD, nD⟩ := r1
  unfold sortK at h1
  split at h1
  · rename_i ys e
    have p1 : PostO X.K ρ1 H1 (some (mkL cell ys S1)) Q := ⟨_, _, rfl, h1⟩
    split at e
    · rename_i c
      split at e
      · rename_i ns en1
        cases e
        have ek := intKs_map en1
        subst ek
        refine .inl ⟨D, ns, rfl, hD, by simpa using c, fun ys' l hp hs hl => ?_⟩
        rw [sortI_uniq hp hs]
        exact new_lstP hr1 (ints_vrs _) p1 l hl
      · obtain ⟨ss, es, rfl⟩ := Option.map_eq_some_iff.mp e
        have ek := strKs_map es
        subst ek
        refine .inr ⟨D, ss, rfl, hD, by simpa using c, fun ys' l hp hs hl => ?_⟩
        rw [sortT_uniq hp hs]
        exact new_lstP hr1 (strs_vrs _) p1 l hl
    · cases e
  · exact h1.elim
end
section
variable {X : Cx} {K : PySem.W.Frag} {ρ ρ1 : List Addr} {H H1 : Hp} {S : SH} {en : En} {W : WX} {pos : Pos} {tg : Expr} {w : World}
theorem sc_post {z : Zd} {t : Tg} {tt : Td} {te : Ed} {vs : List Nat} {σ : L2.St} {Q : VK} (sub : ∀ j ∈ t.ix, j ∈ vs) (h : tKs K w en W (gSc z t tt te vs) σ H Q) : tSg w (tZ K en W z) (tG K t) (tT K en WF tt) (tE K en WF te) vs σ H Q := by
  obtain ⟨ρ, S, τ, hr, sr, h⟩ := h
  refine ⟨ρ, S, τ, hr, sr, Post.seq h fun ρ1 H1 S1 src J hr1 e1 r1 h1 D hD => ?_⟩
  cases el : scGo src.get (fun S v => bindT S t v (wipeT τ vs)) (tt en) (te en) (src.fuel en) 0 [] S1 with
  | none => rw [el] at h1; exact h1.elim
  | some p =>
    obtain ⟨xs, S9⟩ := p
    rw [el] at h1
    have h1 : ∀ ρ' H' x, HR K ρ' H' S9 → Ext K ρ1 H1 ρ' H' → relK w ρ' H' xs x → Q x H' := h1
    have sr1 := sr.ext e1
    have nD := hr1.ne hD
    obtain ⟨hr2, e2⟩ := hr1.inl hD (SetGO w D [])
    refine ⟨fun i m H' => ∃ ρ' S' acc, HR K ρ' H' S' ∧ Ext K ρ1 H1 ρ' H' ∧ D ∉ ρ' ∧ H' D = some (SetGO w D acc) ∧ scGo src.get (fun S v => bindT S t v (wipeT τ vs)) (tt en) (te en) m i acc S' = some (xs, S9), ⟨_, ρ1, S1, [], hr2, e2, nD, upd_same, el⟩, ?_⟩
    rintro i m H' ⟨ρ', S', acc, hr', e', n', hD', el'⟩
    cases m with
    | zero => cases el'
    | succ m =>
      unfold scGo at el'
      cases eg : src.get S' i with
      | none => rw [eg] at el'; cases el'
      | some o =>
        rw [eg] at el'
        have it := r1 ρ' H' S' hr' e' i o eg
        cases o with
        | none =>
          cases el'
          exact .inl ⟨it, h1 ρ' H' _ hr' e' ⟨D, rfl, hD', n'⟩⟩
        | some v =>
          refine .inr ⟨it.1, fun H' => ∃ ρ' S' acc, HR K ρ' H' S' ∧ Ext K ρ1 H1 ρ' H' ∧ D ∉ ρ' ∧ H' D = some (SetGO w D acc) ∧ scGo src.get (fun S v => bindT S t v (wipeT τ vs)) (tt en) (te en) m (i + 1) acc S' = some (xs, S9), fun H' w => ⟨m, Nat.lt_succ_self m, w⟩, fun x H2 hy => ?_⟩
          obtain ⟨ρ2, hr2, e2, rv⟩ := it.2 x H2 hy
          simp only at el'
          cases eb : bindT S' t v (wipeT τ vs) with
          | none => rw [eb] at el'; cases el'
          | some τ2 =>
            rw [eb] at el'
            have sr2 : SR K ρ2 H2 (wipeT τ vs) (wipe σ vs) := ((sr1.ext e').ext e2).wipe vs
            refine ⟨ρ2, S', _, v, τ2, hr2, sr2, rv, eb, fun σ3 sr3 same => ⟨same.wipe sub, ρ2, S', τ2, hr2, sr3, ?_⟩⟩
            have d2 := e2.rd ⟨n', hD'⟩ nt_set
            cases et : tt en τ2 S' with
            | bad => simp only [et] at el'; cases el'
            | exc _ _ => simp only [et] at el'; cases el'
            | ok b S3 =>
              intro ρ3 H3 b' hr3 e3 rb
              cases (show b = b' from rb)
              have d3 := e3.rd d2 nt_set
              cases b with
              | false =>
                simp only [et] at el'
                exact ⟨ρ3, S3, acc, hr3, (e'.trans e2).trans e3, d3.1, d3.2, el'⟩
              | true =>
                simp only [et] at el'
                refine ⟨ρ3, S3, τ2, hr3, sr3.ext e3, ?_⟩
                cases ee : te en τ2 S3 with
                | bad => simp only [ee] at el'; cases el'
                | exc _ _ => simp only [ee] at el'; cases el'
                | ok y S4 =>
                  intro ρ4 H4 q hr4 e4 ry
                  simp only [ee] at el'
                  cases eK : keyI y with
                  | none => simp only [eK] at el'; cases el'
                  | some k' =>
                    simp only [eK] at el'
                    split at el'
                    · rename_i hl
                      have d4 := e4.rd d3 nt_set
                      exact ⟨acc, k', keyI_rel ry eK, d4.2, by unfold scanBound; omega, ρ4, S4, addK acc k', offS_hr d4.1 d4.2 extS_G _ hr4, ext_updS (((e'.trans e2).trans e3).trans e4) hD d4.2 extS_G _, d4.1, upd_same, el'⟩
                    · cases el'
theorem g_sc {elt iter : Expr} {ifs : List Expr} {scope : Scope} {own : List (Str × Nat)} {z : Zd} {t : Tg} {tt : Td} {te : Ed} (hc : X.calm = true) (hN : X.N.Nodup) (hi : PI X tg iter (tZ X.K en W z)) (ok : BlkOk X.N X.env.scope scope own) (sub : ∀ j ∈ t.ix, j ∈ own.map (·.2))
    (hg : ∀ (s : Shared) (H : Hp) (C : Addr) (cl : List (Str × Addr)) (fp : List Addr), PG (X.blk s H scope (compEnvC scope cl C X.env) fp) tg (tG X.K t)) (ht : ∀ (s : Shared) (H : Hp) (C : Addr) (cl : List (Str × Addr)) (fp : List Addr), PTs (X.blk s H scope (compEnvC scope cl C X.env) fp) ifs (tT X.K en WF tt))
    (he : ∀ (s : Shared) (H : Hp) (C : Addr) (cl : List (Str × Addr)) (fp : List Addr), PE (X.blk s H scope (compEnvC scope cl C X.env) fp) elt (tE X.K en WF te)) (hs : ∀ x, foldedSetIterable iter X.env x = pure x) :
    PE X (.SetComp elt [⟨tg, iter, ifs, 0⟩] scope pos) (tKs X.K X.w en W (gSc z t tt te (own.map (·.2)))) := (pe_sg hc hN hi ok hg ht he hs).jimp fun σ H Q h => sc_post sub h
end
end JF
set_option maxHeartbeats 1000000
/-! KH: {e} | set, the second one empty; a def's promise with its code object known. -/
namespace JF
open PySem PySem.Spec PyProof.Rows L2
/-- the table of a set that was given one key -/
def tab1 (h : Int) (fg : Nat) (L : Bool) (mv : Nat) (pl : Bool) : SetTable := { mask := 7, place := #[SetTable.bits h % 8], dummies := #[], finger := fg, led := L, moves := mv, plain := pl }
def Set1 (w : World) (h : Heap) (a : Addr) (k : Key) : Prop := ∃ o ep u L pl, h.get? a = some o ∧ o.ExactSet ∧ keyIs k u = true ∧ o.data = .set #[(keyH w k, u)] ep (tab1 (keyH w k) 0 L 0 pl) ∧ (w.params.followText "set-order" = true ∨ L = true)
theorem lay1 (h : Int) (x : Value) (L : Bool) : layNew (.fresh 0 0 L) #[] h x = (#[(h, x)], tab1 h 0 L 0 true, false, false) := by kernel_rfl
theorem tab1_fits (h : Int) (fg : Nat) (L : Bool) (mv : Nat) (pl : Bool) : (tab1 h fg L mv pl).fits 1 = true := by kernel_rfl
section
variable {P : Program} {w : World} {A : Around} {E : Value → Shared → Prop} {s : Shared} {a b : Addr} {k : Key}
theorem Set1.g {h : Heap} (R : Set1 w h a k) : SetG w h a [k] := by
  obtain ⟨o, ep, u, L, pl, ho, hex, hk, hd, hl⟩ := R
  refine ⟨o, _, _, _, ho, hex, hd, fun e he => ?_, ?_, by simp, by show 1 < scanBound; unfold scanBound; omega, tab1_fits _ _ _ _ _, ?_, hl⟩
  · have : e = (keyH w k, u) := by simpa using he
    subst this
    exact ⟨k, hk, rfl⟩
  · show [keyE (keyH w k, u)].Perm [k]
    rw [show keyE (keyH w k, u) = k from keyV_is hk]
  · show List.Pairwise (· < ·) [SetTable.bits (keyH w k) % 8]
    simp
theorem set1_add {x : Value} {Q : Bool → Shared → Prop} (hx : keyIs k x = true) (ho : s.heap.get? a = some { cls := .type "set", dict := none, data := .set #[] 0 (.fresh 0 0 (!w.params.followText "set-order")) })
    (hQ : ∀ h', Heap.SameBut a s.heap h' → Set1 w h' a k → Q true { s with heap := h' }) : wpAny (model P w) A (setAddHashed a x (keyH w k)) Q E s := by
  have hkey : (mixKind P w).is k x = true := hx
  have hsc : x.scannable = true := keyIs_scan hx
  have hel : ElemsOf (mixKind P w) (#[] : Array (Int × Value)).toList := fun e he => by simp at he
  have hf : (SetTable.fresh 0 0 (!w.params.followText "set-order")).fits (#[] : Array (Int × Value)).size = true := by rfl
  have hb : (#[] : Array (Int × Value)).size < scanBound := by decide
  have hl : w.params.followText "set-order" = true ∨ (!w.params.followText "set-order") = true := by cases w.params.followText "set-order" <;> simp
  show wpAny (model P w) A (setAddHashed a x ((mixKind P w).hash k)) Q E s
  unfold setAddHashed setAddHashedIn
  refine wpAny_holding (wpAny_bind (wpAny_setState_of ho rfl hf ?_))
  dsimp only
  rw [byScan_of hsc hb hel]
  simp only [↓reduceIte]
  unfold setAddByScan
  refine wpAny_bind ?_
  refine wpAny_bind (wpAny_rule ?_)
  refine wpAny_bind (wpAny_setScan_of hkey ho rfl hf hel ?_)
  rw [show List.findIdx? (fun e => (mixKind P w).is k e.2) (#[] : Array (Int × Value)).toList = none from rfl]
  dsimp only
  rw [lay1]
  have hgw : ∀ (b : Bool) {s₁ : Shared} {Q' : Unit → Shared → Prop}, Q' () s₁ → wpAny (model P w) A (match b with | true => rule "set.scan.the-table-gave-way" | false => pure ()) Q' E s₁ :=
    fun b s₁ Q' q => by cases b <;> first | exact wpAny_pure q | exact wpAny_rule q
  dsimp only
  refine wpAny_bind (hgw false ?_)
  have fin : ∀ pl, wpAny (model P w) A (storeSet a #[((mixKind P w).hash k, x)] (tab1 ((mixKind P w).hash k) 0 (!w.params.followText "set-order") 0 pl)) (fun _ s' => Q true s') E s := fun pl => by
    refine wpAny_storeSet_of ho rfl ?_ (by show 1 ≤ sizeLine; rw [sizeLine_eq]; omega)
    have ho1 := store_at (es' := #[((mixKind P w).hash k, x)]) (t' := tab1 ((mixKind P w).hash k) 0 (!w.params.followText "set-order") 0 pl) ho rfl
    exact hQ _ (Heap.SameBut.update s.heap a _) ⟨_, _, x, _, pl, ho1, ⟨rfl, rfl, rfl⟩, hx, rfl, hl⟩
  rw [if_pos (show (tab1 ((mixKind P w).hash k) 0 (!w.params.followText "set-order") 0 true).plain = true from rfl)]
  refine wpAny_bind ?_
  rw [hashByValue_scannable 8 hsc]
  refine wpAny_pure ?_
  have tf : ∀ pl, (!false && (tab1 ((mixKind P w).hash k) 0 (!w.params.followText "set-order") 0 pl).tooFull) = false := fun pl => by rfl
  split
  · refine wpAny_bind (wpAny_mono (fin true) (fun _ s' q => ?_) fun _ _ q => q)
    rw [tf true, if_neg (by decide)]
    exact wpAny_pure (wpAny_pure q)
  · refine wpAny_bind (wpAny_mono (fin false) (fun _ s' q => ?_) fun _ _ q => q)
    show wpAny _ _ (if (!false && (tab1 ((mixKind P w).hash k) 0 (!w.params.followText "set-order") 0 false).tooFull) = true then _ else _) _ _ _
    rw [tf false, if_neg (by decide)]
    exact wpAny_pure (wpAny_pure q)
theorem entry_set_or : entryFor table "set.__or__" = some Builtin.«frozenset.__or__» :=
  entryFor_alias (id' := "frozenset.__or__") (by kernel_rfl) rfl (by decide +kernel) (by kernel_rfl)
theorem or_empty {Q : Value → Shared → Prop} (R1 : Set1 w s.heap a k) (R2 : SetG w s.heap b []) (hQ : ∀ h', (∀ c o, s.heap.get? c = some o → h'.get? c = some o) → Set1 w h' s.heap.objs.size k → Q (.ref s.heap.objs.size) { s with heap := h' }) :
    wpAny (model P w) A (binaryOp .BitOr (.ref a) (.ref b)) Q E s := by
  obtain ⟨o, ep, u, L, pl, ho, hex, hk, hd, hl⟩ := R1
  obtain ⟨o2, es2, ep2, t2, ho2, hex2, hd2, g2, pm2, nd2, hb2, hf2, hr2, hl2⟩ := R2
  have hTa : s.TypeIs (.ref a) "set" := ⟨o, ho, hex.1⟩
  have hTb : s.TypeIs (.ref b) "set" := ⟨o2, ho2, hex2.1⟩
  refine wpAny_binaryOp_same (op := .BitOr) (T := "set") hTa hTb F.fills_set_or F.slot_set_or (wpAny_call_entry F.slot_set_or hTa entry_set_or ?_ (F.args_set_or_2 _ _))
  have hsub := sub_set_self
  have anyS : ∀ {A : Around} {c : Addr} {s' : Shared} {Q' : Bool → Shared → Prop}, s'.TypeIs (.ref c) "set" → Q' true s' → wpAny (model P w) A (Builtin.Frozenset.isAnySet (.ref c)) Q' E s' := fun hT q => by
    unfold Builtin.Frozenset.isAnySet
    exact wpAny_bind (wpAny_isInstance (b := true) hT hsub (wpAny_pure q))
  unfold Builtin.«frozenset.__or__»
  refine wpAny_bind (m := Builtin.Frozenset.slot1 "__or__" _) (wpAny_bind (m := slotArgs "__or__" 1 _) (wpAny_pure (wpAny_pure ?_)))
  dsimp only
  refine wpAny_bind (wpAny_bind (anyS hTa (anyS hTb ?_)))
  refine wpAny_bind (m := Builtin.Frozenset.addrOf (.ref a)) (wpAny_pure ?_)
  refine wpAny_bind ?_
  wp_delta
  have hlt : a < s.heap.objs.size := Heap.lt_size ho
  have hltb : b < s.heap.objs.size := Heap.lt_size ho2
  have emp2 : es2 = #[] := by
    have q := pm2.length_eq
    rw [List.length_map, List.length_nil] at q
    exact Array.toList_eq_nil_iff.mp (List.eq_nil_of_length_eq_zero q)
  subst emp2
  unfold Builtin.Frozenset.copyOf Builtin.Frozenset.baseOf
  refine wpAny_bind (wpAny_bind (wpAny_bind (wpAny_isInstance (b := true) hTa hsub (wpAny_pure ?_))))
  dsimp only
  rw [if_pos rfl]
  refine wpAny_bind (PpSet.newSet_ok ?_)
  generalize hD : s.heap.objs.size = D
  generalize hs1 : ({ s with heap := s.heap.push { cls := .type "set", dict := none, data := .set #[] 0 (.fresh 0 0 (!w.params.followText "set-order")) } } : Shared) = s1
  have h1 : s1.heap = s.heap.push { cls := .type "set", dict := none, data := .set #[] 0 (.fresh 0 0 (!w.params.followText "set-order")) } := by rw [← hs1]
  have k1 : ∀ c o, s.heap.get? c = some o → s1.heap.get? c = some o := fun c o e => by rw [h1]; exact Heap.get?_push_of_some _ e
  have gD : s1.heap.get? D = some { cls := .type "set", dict := none, data := .set #[] 0 (.fresh 0 0 (!w.params.followText "set-order")) } := by rw [h1, ← hD]; exact Heap.get?_push_size _ rfl
  refine wpAny_bind (m := Builtin.Frozenset.addrOf (.ref D)) (wpAny_pure ?_)
  refine wpAny_bind ?_
  unfold setMerge
  have nDa : (D == a) = false := beq_eq_false_iff_ne.mpr fun z => Nat.lt_irrefl a (by rw [← z, ← hD]; rw [← z, ← hD] at hlt; exact hlt)
  rw [nDa]
  have hfD : (SetTable.fresh 0 0 (!w.params.followText "set-order")).fits (#[] : Array (Int × Value)).size = true := by rfl
  rw [if_neg (by decide)]
  have hfa : (tab1 (keyH w k) 0 L 0 pl).fits (#[(keyH w k, u)] : Array (Int × Value)).size = true := tab1_fits _ _ _ _ _
  refine wpAny_bind (wpAny_setState_of (k1 a o ho) hd hfa ?_)
  dsimp only
  rw [if_neg (show ¬ (#[(keyH w k, u)] : Array (Int × Value)).isEmpty = true by simp)]
  unfold setRoomFor
  refine wpAny_bind (wpAny_bind (wpAny_setState_of gD rfl hfD (wpAny_pure ?_)))
  refine wpAny_bind (wpAny_setState_of gD rfl hfD ?_)
  dsimp only
  have hroad : (SetTable.fresh 0 0 (!w.params.followText "set-order")).road (tab1 (keyH w k) 0 L 0 pl) = .slotForSlot := by rfl
  rw [hroad]
  dsimp only
  refine wpAny_storeSet_of gD rfl ?_ (by show 1 ≤ sizeLine; rw [sizeLine_eq]; omega)
  have gD2 := store_at (es' := #[(keyH w k, u)]) (t' := tab1 (keyH w k) 0 ((!w.params.followText "set-order") && L) 0 (true && pl)) gD rfl
  generalize hs2 : ({ s1 with heap := s1.heap.update D (Obj.putSet #[(keyH w k, u)] (tab1 (keyH w k) 0 ((!w.params.followText "set-order") && L) 0 (true && pl))) } : Shared) = s2
  have h2 : s2.heap = s1.heap.update D (Obj.putSet #[(keyH w k, u)] (tab1 (keyH w k) 0 ((!w.params.followText "set-order") && L) 0 (true && pl))) := by rw [← hs2]
  have sb2 : Heap.SameBut D s1.heap s2.heap := by rw [h2]; exact Heap.SameBut.update s1.heap D _
  have k2 : ∀ c o, s.heap.get? c = some o → s2.heap.get? c = some o := fun c o e => (sb2.2 c fun z => Nat.lt_irrefl c (by have q := Heap.lt_size e; rw [hD, ← z] at q; exact q)).trans (k1 c o e)
  have R3 : Set1 w s2.heap D k := by
    rw [h2]
    refine ⟨_, _, u, _, _, gD2, ⟨rfl, rfl, rfl⟩, hk, rfl, ?_⟩
    rcases hl with hl | hl
    · exact .inl hl
    · rw [hl, Bool.and_true]
      cases w.params.followText "set-order" <;> simp
  have es2' : s2 = { s with heap := s2.heap } := by
    rw [← hs2, ← hs1]
  refine wpAny_pure ?_
  have nba : ∀ c : Bool, wpAny (model P w) A.in1 (pure (Value.ref D)) (fun x s' => wpAny (model P w) A.in1 (ret x) (fun fin s' => ∃ v, fin = Fin.done (Flow.ret v) ∧ v ≠ Value.notImplemented ∧ Q v s') E s') E s2 := fun _ => by
    refine wpAny_pure (wpAny_pure ⟨_, rfl, by simp, ?_⟩)
    rw [es2']
    rw [← hD] at R3 ⊢
    exact hQ s2.heap k2 R3
  have key : wpAny (model P w) A.in1 (if (Value.ref b != Value.ref a) = true then (do
      let x ← Builtin.Frozenset.addrOf (.ref D)
      holding [.ref D] (Builtin.Frozenset.updateFrom (toString "frozenset." ++ toString "__or__") x (.ref b))
      pure (.ref D)) else pure (.ref D)) (fun x s' => wpAny (model P w) A.in1 (ret x) (fun fin s' => ∃ v, fin = Fin.done (Flow.ret v) ∧ v ≠ Value.notImplemented ∧ Q v s') E s') E s2 := by
   split
   · refine wpAny_bind (m := Builtin.Frozenset.addrOf (.ref D)) (wpAny_pure ?_)
     refine wpAny_bind (wpAny_holding ?_)
     unfold Builtin.Frozenset.updateFrom
     refine wpAny_bind (anyS ⟨o2, k2 b o2 ho2, hex2.1⟩ ?_)
     dsimp only
     rw [if_pos rfl]
     refine wpAny_bind (m := Builtin.Frozenset.addrOf (.ref b)) (wpAny_pure ?_)
     unfold Builtin.Frozenset.merge setEpoch
     refine wpAny_bind (wpAny_bind (wpAny_setState_of (k2 b o2 ho2) hd2 hf2 (wpAny_pure ?_)))
     unfold setMerge
     have nDb : (D == b) = false := beq_eq_false_iff_ne.mpr fun z => Nat.lt_irrefl b (by rw [← z, ← hD]; rw [← z, ← hD] at hltb; exact hltb)
     rw [nDb, if_neg (by decide)]
     refine wpAny_bind (wpAny_setState_of (k2 b o2 ho2) hd2 hf2 ?_)
     dsimp only
     rw [if_pos (show (#[] : Array (Int × Value)).isEmpty = true from rfl)]
     exact wpAny_pure (nba true)
   · exact nba true
  rw [← hs2] at key
  exact key
end
section
variable {X : Cx} {en : En} {W : WX} {pos p1 : Pos} {e b : Expr}
def SetF (w : World) (a : Addr) : HO := .ext fun h => h.get? a = some { cls := .type "set", dict := none, data := .set #[] 0 (.fresh 0 0 (!w.params.followText "set-order")) }
def Set1O (w : World) (a : Addr) (k : Key) : HO := .ext fun h => Set1 w h a k
theorem extS_F {w : World} {a : Addr} : ExtS a (SetF w a) := ⟨_, rfl, fun h q => ⟨_, _, _, _, q, rfl⟩⟩
theorem extS_1 {w : World} {a : Addr} {k : Key} : ExtS a (Set1O w a k) := ⟨_, rfl, fun h ⟨o, ep, u, L, pl, ho, _, _, hd, _⟩ => ⟨o, _, _, _, ho, hd⟩⟩
theorem setF_new {P : Program} {w : World} {H : Hp} {h : Heap} {a : Addr} (R : h.get? a = some { cls := .type "set", dict := none, data := .set #[] 0 (.fresh 0 0 (!w.params.followText "set-order")) }) : ObjOk P w H h a (SetF w a) :=
  ⟨R, ⟨_, R⟩, fun h1 h2 p k => k _ p⟩
theorem set1_new {P : Program} {w : World} {H : Hp} {h : Heap} {a : Addr} {k : Key} (R : Set1 w h a k) : ObjOk P w H h a (Set1O w a k) := by
  have ⟨o, _, _, _, _, ho, _⟩ := R
  exact ⟨R, ⟨o, ho⟩, fun h1 h2 p k => let ⟨o, ep, u, L, pl, ho, r⟩ := p; ⟨o, ep, u, L, pl, k _ ho, r⟩⟩
theorem kds_coreL {P : Program} {w : World} {A : Around} {E : Value → Shared → Prop} {s : Shared} {road : DisplayRoad} {b : Bool} {elts : List (Bool × Sem Value)} {ts : List (Sem Value)} {Q : Value → Shared → Prop} (hroad : (road == .constants) = false) (hun : (road == .unsure) = false) (hs : elts.findIdx? (·.1) = none) (hlen : elts.length ≤ 30) (hm : elts.map (·.2) = ts)
    (h : wpAny (model P w) A (evalAll ts) (fun vs s' => PySem.W.KdsFill (model P w) A E false s.heap.objs.size Q vs s') E { s with heap := s.heap.push { cls := .type "set", dict := none, data := .set #[] 0 (.fresh 0 0 (!w.params.followText "set-order")) } }) :
    wpAny (model P w) A (setDisplay road b elts) Q E s := by
  have hn : (if elts.length > 30 then 0 else (elts.findIdx? (·.1)).getD elts.length) = elts.length := by rw [if_neg (by omega), hs]; rfl
  unfold setDisplay
  try dsimp only
  rw [if_neg (by rw [hroad]; exact Bool.false_ne_true)]
  refine wpAny_bind (PpSet.newSet_ok ?_)
  dsimp only
  rw [hn, List.take_length, List.drop_length, hm]
  refine wpAny_bind (wpAny_holding ?_)
  refine wpAny_bind (wpAny_mono h (fun vs s' h' => ?_) fun _ _ x => x)
  refine wpAny_bind (wpAny_holding ?_)
  refine wpAny_bind (wpAny_mono (PySem.W.kds_for (fun x P s hx => ?_) vs s' h') (fun _ s1 h1 => ?_) fun _ _ x => x)
  · refine wpAny_bind (wpAny_mono hx (fun _ s2 h2 => ?_) fun _ _ x => x)
    first | exact wpAny_pure ⟨rfl, h2⟩ | exact wpAny_bind (wpAny_pure (wpAny_pure ⟨rfl, h2⟩))
  · have h2 : Q (.ref s.heap.objs.size) s1 := by simpa [PySem.W.KdsFill] using h1
    rw [hun, if_neg Bool.false_ne_true]
    refine wpAny_pure ?_
    rw [List.forIn_nil]
    exact wpAny_pure (wpAny_pure h2)
def tSet1 (w : World) (ta : TE) : TE := fun σ H Q => ∀ D, H D = none → ta σ (upd H D (SetF w D)) fun x H1 => ∃ k, x = kV k ∧ H1 D = some (SetF w D) ∧ Q (.ref D) (upd H1 D (Set1O w D k))
theorem pe_set1 {ta : TE} (hcd : PySem.W.kdsCode X.K X.env.code = true) (hs : PySem.W.kdsPlain e = true) (ha : PE X e ta) : PE X (.Set [e] 0 pos) (tSet1 X.w ta) := by
  refine ⟨fun pins s σ H Q I h => ?_⟩
  rw [arm_eval_Set]
  refine wpAny_bind (wpAny_standAt ?_)
  refine wpAny_bind (PySem.W.kds_main I.kIn hcd fun b => ?_)
  rw [PySem.W.kds_star [e] (by simp [hs]), List.map_map]
  refine kds_coreL (ts := (evalEach [e] X.env).map fun t => do let v ← t; standAt pos; pure v) (by rfl) (by rfl) ?_ ?_ ?_ ?_
  · refine List.findIdx?_eq_none_iff.mpr fun x hx => ?_
    obtain ⟨t, _, rfl⟩ := List.mem_map.mp hx
    rfl
  · rw [List.length_map, PySem.W.kds_len]
    show 1 ≤ 30
    decide
  · rw [List.map_map]
    try rfl
  · have hDn : H s.heap.objs.size = none := I.hok.fresh (Nat.le_refl _)
    have I3 : Inv X pins σ (upd H s.heap.objs.size (SetF X.w s.heap.objs.size)) { s with heap := s.heap.push { cls := .type "set", dict := none, data := .set #[] 0 (.fresh 0 0 (!X.w.params.followText "set-order")) } } :=
      I.laid (t' := s.toks) (fun b o e => Heap.get?_push_of_some _ e) (Nat.le_refl _) (setF_new (Heap.get?_push_size _ rfl))
    refine PySem.W.kds_all pos [e] _ _ ?_
    refine thn (ha.run pins _ σ _ _ I3 (h _ hDn)) fun v s4 ⟨x, H4, I4, r4, k, ek, hD4, q⟩ => ?_
    subst ek
    refine PySem.W.kds_fill_cons ?_
    have hk : keyIs k v = true := kV_is (P := X.prog) (w := X.w) r4
    have g4 := (I4.hok _ _ hD4).1
    unfold setAdd
    refine wpAny_holding (wpAny_bind ((mixKind X.prog X.w).pyHash (k := k) hk ?_))
    refine set1_add (s := { s4 with toks := s4.toks + 1 }) hk g4 fun h' sb R => ?_
    have he : ∃ u, h'.get? s.heap.objs.size = some u := by
      have ⟨o, _, _, _, _, ho, _⟩ := R
      exact ⟨o, ho⟩
    exact PySem.W.kds_fill_nil rfl ⟨.ref s.heap.objs.size, _, I4.write (e := s.heap.objs.size) (t' := s4.toks + 1) (by rw [hD4]; trivial) (.inl rfl) (fun b u hb hu => (sb.2 b hb).trans hu) he (set1_new R), rfl, q⟩
def rOr1 (w : World) : R2 := fun x y H Q => ∃ a b k, x = .ref a ∧ y = .ref b ∧ H a = some (Set1O w a k) ∧ H b = some (SetGO w b []) ∧ ∀ D, H D = none → Q (.ref D) (upd H D (SetGO w D [k]))
theorem op_or1 : OpR X (binaryOp .BitOr) (rOr1 X.w) := by
  intro pins s σ H x y v u Q I rx ry h
  obtain ⟨a, b, k, rfl, rfl, ha, hb, q⟩ := h
  cases rx
  cases ry
  have hn : H s.heap.objs.size = none := I.hok.fresh (Nat.le_refl _)
  refine or_empty (I.hok _ _ ha).1 (I.hok _ _ hb).1 fun h' kp R => ?_
  exact ⟨.ref s.heap.objs.size, _, I.laid (t' := s.toks) kp (Nat.le_refl _) (setGO_new R.g), rfl, q _ hn⟩
/-- {d} | g, where g is empty -/
def gOr1 (d : Ed) (g : Gd) : Gd := fun en τ S => (d en τ S).bind fun u S1 => match keyI u with
  | some k => (g en τ S1).bind fun ks S2 => match ks with
    | [] => .ok [k] S2
    | _ => .bad
  | none => .bad
theorem g_or1 {d : Ed} {g : Gd} (hcd : PySem.W.kdsCode X.K X.env.code = true) (hs : PySem.W.kdsPlain e = true) (ha : PE X e (tE X.K en W d)) (hb : PE X b (tKs X.K X.w en W g)) : PE X (.BinOp (.Set [e] 0 p1) .BitOr b pos) (tKs X.K X.w en W (gOr1 d g)) := by
  refine (pe_op op_or1 (pe_set1 hcd hs ha) hb).jimp fun σ H Q ⟨ρ, S, τ, hr, sr, h⟩ D hD => ?_
  obtain ⟨hr0, e0⟩ := hr.inl hD (SetF X.w D)
  refine ⟨ρ, S, τ, hr0, sr.ext e0, ?_⟩
  cases ed : d en τ S with
  | bad => unfold gOr1 at h; rw [ed] at h; exact h.elim
  | exc x S1 =>
    unfold gOr1 at h
    rw [ed] at h
    exact fun ρ' H' cls dd a b c => h ρ' H' cls dd a (e0.trans b) c
  | ok u S1 =>
    unfold gOr1 at h
    rw [ed] at h
    intro ρ1 H1 x hr1 e1 r1
    have h1 : Post X.K W σ ρ H (relK X.w) (match keyI u with
      | some k => (g en τ S1).bind fun ks S2 => match ks with
        | [] => .ok [k] S2
        | _ => .bad
      | none => .bad) Q := h
    cases ek : keyI u with
    | none => rw [ek] at h1; exact h1.elim
    | some k =>
      rw [ek] at h1
      have d1 := e1.rd ⟨hr.ne hD, upd_same⟩ (extS_nt extS_F)
      refine ⟨k, keyI_rel r1 ek, d1.2, ?_⟩
      have hr2 := offS_hr d1.1 d1.2 extS_F (Set1O X.w D k) hr1
      have e2 : Ext X.K ρ H ρ1 (upd H1 D (Set1O X.w D k)) := ext_updS (e0.trans e1) hD d1.2 extS_F _
      refine ⟨ρ1, S1, τ, hr2, sr.ext e2, ?_⟩
      refine Post.seq (Post.at e2 h1) fun ρ3 H3 S3 ks y hr3 e3 r3 h3 => ?_
      obtain ⟨D2, rfl, hD2, nD2⟩ := r3
      have d3 := e3.rd ⟨d1.1, upd_same⟩ (extS_nt extS_1)
      cases ks with
      | cons _ _ => exact h3.elim
      | nil => exact ⟨D, D2, k, rfl, rfl, d3.2, hD2, fun D3 hD3 => h3 ρ3 _ _ (hr3.inl hD3 _).1 (hr3.inl hD3 _).2 ⟨D3, rfl, upd_same, hr3.ne hD3⟩⟩
end
/-- a def's promise from its body, its code object known -/
theorem fn_bodyK {P : Program} {w : World} {K : PySem.W.Frag} {mg : Str → Option Value} {base : Heap} {en : En} {x qual : Str} {params : Arguments} {body : List Stmt} {scope : Scope} {f : Addr} {fd : FuncData} {N ps : List Str} {k j n : Nat} {b : Sd} {en1 : En} (F : FunD K x qual params body scope [] [] f fd) (S : FnScope N ps scope) (hn : ps.length = n)
    (he : ∀ us S, en1.fn j us S = if us.length = n then runF b N.length en us S else .bad)
    (hb : ∀ (cdv : Value) (A : Around) (outer : List Env) (s : Shared) (H : Hp) (E : XK), PySem.W.kdsCode K cdv = true → Room k (A.deeper (envOfC qual scope s.heap.objs.size f cdv)) → PSs (cxOf (L2N.CX P w) P w K mg base N qual scope f cdv A outer s H E) body (tS K en (fun c d _ H => E c d H) b)) :
    FnOk P w K mg base (L2N.CX P w) (k + 1) f fd ps (spF K en1 j n) := by
  obtain ⟨oc, od, dV, kV, doc, pm, an, cdv, ct, osl, efd, lk, hcd, h1, h2⟩ := F.ex
  have hc := kdsCode_of hcd
  subst efd
  refine fn_of lk hcd S (fun vs H Q E ⟨ρ, S, us, hl, _, r, _⟩ => by rw [← r.length, hl, hn]) fun A outer s H vs Q E hr ⟨ρ, S, us, hl, h1, r, h⟩ => ⟨_, hb cdv A outer s H E hc hr, ρ, S, _, h1, sr_start r, ?_⟩
  rw [he us S, if_pos hl] at h
  unfold runF at h
  revert h
  generalize b en (us.map some ++ List.replicate (N.length - us.length) none) S = z
  cases z with
  | nx τ S1 => exact fun h ρ' H' σ' a b c => h ρ' H' .non a b vr_non
  | ret v S1 => exact fun h ρ' H' x a b c => h ρ' H' x a b c
  | exc e τ S1 => exact fun h ρ' H' σ' cls d a b c dd => h ρ' H' cls d a b dd
  | brk _ _ => exact False.elim
  | cnt _ _ => exact False.elim
  | bad => exact False.elim
end JF
set_option maxHeartbeats 1000000
/-! KI: == of two dicts whose keys are tuples. -/
namespace JF
open PySem PySem.Spec PyProof.Rows L2
section
variable {P : Program} {w : World} {K : Type} [DecidableEq K] {knd : HeapKind P w K} {A : Around} {E : Value → Shared → Prop} {s : Shared}
inductive HitsH {K : Type} [DecidableEq K] (A : Around) (s : Shared) (kb : List (K × Addr × Value)) : List (K × Addr × Value) → Bool → Prop
  | nil : HitsH A s kb [] true
  | miss {k : K} {p : Addr × Value} {r : List (K × Addr × Value)} : atKey kb k = none → HitsH A s kb ((k, p) :: r) false
  | hit {k : K} {p q : Addr × Value} {r : List (K × Addr × Value)} {e b : Bool} : atKey kb k = some q → SeqAt.EqAt A s p.2 q.2 e → HitsH A s kb r b → HitsH A s kb ((k, p) :: r) (e && b)
theorem HitsH.inv {kb : List (K × Addr × Value)} {k : K} {p : Addr × Value} {r : List (K × Addr × Value)} {b : Bool} (h : HitsH A s kb ((k, p) :: r) b) :
    (atKey kb k = none ∧ b = false) ∨ ∃ q e b', atKey kb k = some q ∧ SeqAt.EqAt A s p.2 q.2 e ∧ HitsH A s kb r b' ∧ b = (e && b') := by
  cases h with
  | miss hn => exact .inl ⟨hn, rfl⟩
  | hit hy he hr => exact .inr ⟨_, _, _, hy, he, hr, rfl⟩
theorem samePairsH {nm : String} {a b : Addr} {ka kb : List (K × Addr × Value)} {r : Bool} {Q : Bool → Shared → Prop} (hu : knd.room A) (ha : (a == sysModules) = false) (hb : (b == sysModules) = false)
    (da : s.heap.DictOfH knd a ka) (db : s.heap.DictOfH knd b kb) (hits : ka.length = kb.length → HitsH A s kb ka r) (h : Q (ka.length == kb.length && r) s) :
    wpAny (model P w) A (Builtin.Dict.samePairs nm a b) Q E s := by
  obtain ⟨oa, es, ep, hoa, _, hda, hpa, hka, hna⟩ := da
  obtain ⟨ob, es', ep', hob, _, hdb, hpb, hkb, hnb⟩ := db
  have hla : ka.length = es.size := (size_of_entries hpa).symm
  have hlb : kb.length = es'.size := (size_of_entries hpb).symm
  rw [hla, hlb] at h
  unfold Builtin.Dict.samePairs Builtin.Dict.showsAll
  rw [if_neg (show ¬ (a == sysModules) = true by rw [ha]; exact Bool.false_ne_true), if_neg (show ¬ (b == sysModules) = true by rw [hb]; exact Bool.false_ne_true)]
  refine wpAny_bind (wpAny_pure (wpAny_bind (wpAny_pure ?_)))
  refine wpAny_bind (wpAny_dictEntries hoa hda ?_)
  dsimp only
  refine wpAny_bind (wpAny_dictEntries hob hdb ?_)
  by_cases hsz : es.size = es'.size
  case neg =>
    rw [if_pos (by simpa using hsz)]
    have hbf : (es.size == es'.size) = false := by simpa using hsz
    rw [hbf, Bool.false_and] at h
    exact wpAny_bind (wpAny_rule (wpAny_pure h))
  case pos =>
    have h' : Q r s := by simpa [hsz] using h
    have hits' := hits (by rw [hla, hlb]; exact hsz)
    rw [if_neg (by rw [hsz]; simp)]
    refine wpAny_bind (wpAny_dictEpoch hoa hda ?_)
    refine wpAny_bind ?_
    rw [Std.Legacy.Range.forIn_eq_forIn_range']
    simp only [Std.Legacy.Range.size, Nat.sub_zero, Nat.add_sub_cancel, Nat.div_one]
    refine wpAny_forIn_list _
      (fun rest q s' => s' = s ∧ q = (none, ()) ∧ ∃ i, rest = List.range' i (es.size - i) ∧ i ≤ es.size ∧ HitsH A s kb (ka.drop i) r)
      _ ?_ ?_ _ _ ⟨rfl, rfl, 0, by simp, Nat.zero_le _, hits'⟩
    · rintro x rest q s' ⟨rfl, rfl, i, hr, hi, hpre⟩
      have hlt : i < es.size := by
        rcases Nat.lt_or_ge i es.size with h | h
        · exact h
        · rw [Nat.sub_eq_zero_of_le h] at hr; simp at hr
      obtain ⟨rfl, hrest⟩ : x = i ∧ rest = List.range' (i + 1) (es.size - (i + 1)) := by
        have e : es.size - i = (es.size - (i + 1)) + 1 := by omega
        rw [e, List.range'_succ] at hr
        injection hr with h1 h2
        exact ⟨h1, h2⟩
      refine wpAny_bind (wpAny_dictEntries hoa hda ?_)
      have hlt' : x < ka.length := by rw [hla]; exact hlt
      obtain ⟨k, p, hkv⟩ : ∃ k p, ka[x] = (k, p) := ⟨_, _, rfl⟩
      have hkv' : ka[x]? = some (k, p) := by rw [List.getElem?_eq_getElem hlt', hkv]
      have hdrop : ka.drop x = (k, p) :: ka.drop (x + 1) := by rw [← hkv]; exact List.drop_eq_getElem_cons hlt'
      rw [entry_at hpa x, hkv']
      rw [hdrop] at hpre
      have his : knd.is s'.heap k p.1 := hka (k, p) (List.mem_of_getElem? hkv')
      show wpAny _ _ (holding [Value.ref p.1, p.2] _ >>= _) _ _ _
      refine wpAny_bind (wpAny_holding (wpAny_bind (wpAny_dictFind_heap hu his hob hdb hpb hkb hnb (fun hno => ?_) fun j q hj => ?_)))
      · have hn : atKey kb k = none := atKey_none_of_get hno
        rcases hpre.inv with ⟨_, er⟩ | ⟨y, _, _, hy, _⟩
        · rw [er] at h'
          refine wpAny_pure ?_
          show wpAny _ _ (if (!false) = true then _ else _) _ _ _
          rw [if_pos (by decide)]
          exact wpAny_pure (wpAny_pure h')
        · rw [hn] at hy; exact nomatch hy
      · have hv' : atKey kb k = some q := atKey_of_get hnb hj
        refine wpAny_bind (wpAny_dictEntries hob hdb ?_)
        rw [entry_at hpb j, hj]
        rcases hpre.inv with ⟨hn, _⟩ | ⟨y, e, b', hy, he, hrr, er⟩
        · rw [hv'] at hn; exact nomatch hn
        · have ey : q = y := Option.some.inj (hv'.symm.trans hy)
          rw [← ey] at he
          refine wpAny_holding (he _ _ _ _ ?_)
          cases e with
          | false =>
            rw [er, Bool.false_and] at h'
            show wpAny _ _ (if (!false) = true then _ else _) _ _ _
            rw [if_pos (by decide)]
            exact wpAny_pure (wpAny_pure h')
          | true =>
            rw [Bool.true_and] at er
            rw [← er] at hrr
            show wpAny _ _ (if (!true) = true then _ else _) _ _ _
            rw [if_neg (by decide)]
            refine wpAny_bind (wpAny_dictEpoch hoa hda ?_)
            rw [if_neg (by simp)]
            exact wpAny_pure ⟨rfl, rfl, x + 1, hrest, hlt, hrr⟩
    · rintro q s' ⟨rfl, rfl, i, hr, hi, hpre⟩
      have hin : i = es.size := by
        rcases Nat.lt_or_ge i es.size with h | h
        · have e : es.size - i = (es.size - (i + 1)) + 1 := by omega
          rw [e, List.range'_succ] at hr; exact nomatch hr
        · exact Nat.le_antisymm hi h
      refine wpAny_pure ?_
      rw [hin, ← hla, List.drop_length] at hpre
      cases hpre
      exact h'
theorem rcH_dicts {a b : Addr} {ka kb : List (K × Addr × Value)} {r : Bool} (hr : knd.room A.in1) (ha : (a == sysModules) = false) (hb : (b == sysModules) = false)
    (da : s.heap.DictOfH knd a ka) (db : s.heap.DictOfH knd b kb) (hu : A.units < cLine) (hits : ka.length = kb.length → HitsH A.in1 s kb ka r) (Q : Value → Shared → Prop) (h : Q (.bool (ka.length == kb.length && r)) s) : wpAny (model P w) A (richCompare .Eq (.ref a) (.ref b)) Q E s := by
  refine wpAny_richCompare_same_room (op := .Eq) da.typeIs db.typeIs PySem.F.slot_dict_eq (wpAny_call_entry PySem.F.slot_dict_eq da.typeIs PySem.F.entry_dict_eq ?_ (PySem.F.args_dict_eq_2 _ _)) hu
  show wpAny _ _ (Builtin.Dict.dictSlotArgs "__eq__" ⟨[.ref a, .ref b], []⟩ >>= _) _ _ s
  refine wpAny_bind ?_
  unfold Builtin.Dict.dictSlotArgs
  refine wpAny_bind (wpAny_notOrdered_dict da.typeIs ?_)
  show wpAny _ _ (pure (Value.ref a, Value.ref b)) _ _ s
  refine wpAny_pure ?_
  refine wpAny_bind (wpAny_isInstance (T := "dict") db.typeIs PySem.F.sub_dict_dict ?_)
  simp only [Bool.not_true, Bool.false_eq_true, if_false]
  refine wpAny_bind (wpAny_pure (wpAny_bind (wpAny_pure ?_)))
  refine wpAny_bind (samePairsH hr ha hb da db hits ?_)
  refine wpAny_pure ⟨_, rfl, ?_, ?_⟩
  · exact fun x => nomatch x
  · simpa using h
end
def eqT (ks ls : List (List Key × V)) : Bool := ks.length == ls.length && ks.all fun p => match valV ls p.1 with
  | some y => eqV p.2 y
  | none => false
theorem hits_of {H : Hp} {A : Around} {s : Shared} {ls : List (List Key × V)} {kb : List (List Key × Addr × Value)} (rb : KT H ls kb) (fb : ∀ p ∈ ls, flatV p.2 = true) : ∀ {ks : List (List Key × V)} {ka : List (List Key × Addr × Value)}, KT H ks ka → (∀ p ∈ ks, flatV p.2 = true) →
    HitsH A s kb ka (ks.all fun p => match valV ls p.1 with
      | some y => eqV p.2 y
      | none => false) := by
  intro ks ka ra
  induction ra with
  | nil => exact fun _ => .nil
  | @cons p q ps qs h t ih =>
    intro hp
    obtain ⟨h1, h2, h3⟩ := h
    obtain ⟨k, z⟩ := q
    have h1 : p.1 = k := h1
    have rr := rb.val p.1
    rw [List.all_cons]
    cases e : valV ls p.1 with
    | none =>
      rw [e] at rr
      cases e2 : atKey kb p.1 with
      | none =>
        simp only [Bool.false_and]
        rw [h1] at e2
        exact .miss e2
      | some v =>
        rw [e2] at rr
        exact rr.elim
    | some y =>
      rw [e] at rr
      cases e2 : atKey kb p.1 with
      | none =>
        rw [e2] at rr
        exact rr.elim
      | some v =>
        rw [e2] at rr
        have ry : RelV y v.2 := rr
        have fy : flatV y = true := by
          have : ∀ l : List (List Key × V), (∀ p ∈ l, flatV p.2 = true) → ∀ k y, valV l k = some y → flatV y = true := fun l => by
            induction l with
            | nil => intro _ k y h; cases h
            | cons a l ih =>
              intro hf k y hv
              by_cases c : a.1 = k
              · rw [valV_pos c] at hv
                cases hv
                exact hf a List.mem_cons_self
              · rw [valV_neg c] at hv
                exact ih (fun p hp => hf p (List.mem_cons_of_mem _ hp)) k y hv
          exact this ls fb p.1 y e
        rw [h1] at e2
        exact .hit e2 (eqAt_V h3 ry (hp p List.mem_cons_self) fy) (ih fun p' hm => hp p' (List.mem_cons_of_mem _ hm))
section
variable {X : Cx}
def rEqT (neg : Bool) : R2 := fun x y H Q => ∃ a b ks ls, x = .ref a ∧ y = .ref b ∧ Rd H a (.dT ks) ∧ Rd H b (.dT ls) ∧ (∀ p ∈ ks, flatV p.2 = true) ∧ (∀ p ∈ ls, flatV p.2 = true) ∧ Q (.bl (if neg = true then !eqT ks ls else eqT ks ls)) H
theorem op_eqT (hu : X.A.units + 1 < cLine) : OpR X (compareOp .Eq) (rEqT false) := by
  intro pins s σ H x y v u Q I rx ry h
  obtain ⟨a, b, ks, ls, rfl, rfl, ea, eb, fa, fb, q⟩ := h
  obtain rfl : v = Value.ref a := rx
  obtain rfl : u = Value.ref b := ry
  obtain ⟨za, ya, va, ra, da⟩ := dt_rd I.hok ea
  obtain ⟨zb, yb, vb, rb, db⟩ := dt_rd I.hok eb
  show wpAny (model X.prog X.w) X.A (richCompare .Eq (.ref a) (.ref b)) _ _ s
  refine rcH_dicts (r := ks.all fun p => match valV ls p.1 with
      | some y => eqV p.2 y
      | none => false) (tupleKind_room_in1 hu) ya yb da db (by omega) (fun _ => hits_of rb fb ra fa) _ ?_
  refine ⟨.bl (eqT ks ls), H, I, ?_, q⟩
  show Value.bool _ = Value.bool _
  unfold eqT
  rw [← Paired.length ra, ← Paired.length rb]
end
/-- flat values -/
def dtFl : List (List Key × IV) → Option (List (List Key × V))
  | [] => some []
  | (k, x) :: r => match flI x, dtFl r with
    | some a, some as => some ((k, a) :: as)
    | _, _ => none
def eqDS (S : SH) : IV → IV → Option Bool
  | .ref n, .ref m => match S[n]?, S[m]? with
    | some ⟨.dtu ks, _⟩, some ⟨.dtu ls, _⟩ => (match dtFl ks, dtFl ls with
      | some a, some b => some (eqT a b)
      | _, _ => none)
    | _, _ => none
  | _, _ => none
def eqF2 : IV → IV → SH → Option (IV × SH) := fun u v S => match eqDS S u v with
  | some b => some (.bl b, S)
  | none => eqF u v S
section
variable {X : Cx} {K : PySem.W.Frag} {ρ : List Addr} {H : Hp} {S : SH}
theorem dtFl_rel : ∀ {kvs : List (List Key × IV)} {ys zs : List (List Key × V)}, VRk K ρ H kvs ys → dtFl kvs = some zs → ys = zs ∧ ∀ p ∈ ys, flatV p.2 = true
  | [], _, _, r, e => by
    simp only [VRk, dtFl] at r e
    cases e
    exact ⟨r, by rw [r]; simp⟩
  | (k, x) :: kvs, _, _, r, e => by
    simp only [VRk, dtFl] at r e
    obtain ⟨v, r', rfl, h1, h2⟩ := r
    split at e
    · rename_i a as e1 e2
      cases e
      obtain ⟨q1, q2⟩ := flI_rel h1 e1
      obtain ⟨q3, q4⟩ := dtFl_rel h2 e2
      subst q1 q3
      refine ⟨rfl, fun p hp => ?_⟩
      rcases List.mem_cons.mp hp with rfl | hp
      · exact q2
      · exact q4 p hp
    · cases e
theorem o_eq2 (hu : X.A.units + 64 < cLine) : OpR X (compareOp .Eq) (rI2 X.K eqF2) := ((op_eqT (by omega)).or (o_eq hu)).jimp fun x y H Q ⟨ρ, S, u, v, hr, ru, rv, p⟩ => by
  unfold eqF2 at p
  cases e : eqDS S u v with
  | none => rw [e] at p; exact .inr ⟨ρ, S, u, v, hr, ru, rv, p⟩
  | some b =>
    rw [e] at p
    have q := p.same hr vr_bl
    unfold eqDS at e
    split at e
    · rename_i n m
      split at e
      · rename_i ks l1 ls l2 e1 e2
        split at e
        · rename_i za zb f1 f2
          cases e
          simp only [VR] at ru rv
          obtain ⟨a, qa, rfl⟩ := ru
          obtain ⟨b, qb, rfl⟩ := rv
          have h1 := hr.cell n _ a e1 qa
          have h2 := hr.cell m _ b e2 qb
          simp only [OR] at h1 h2
          obtain ⟨ys, g1, g2⟩ := h1
          obtain ⟨zs, g3, g4⟩ := h2
          obtain ⟨rfl, k1⟩ := dtFl_rel g2 f1
          obtain ⟨rfl, k2⟩ := dtFl_rel g4 f2
          exact .inl ⟨a, b, _, _, rfl, rfl, g1.rd, g3.rd, k1, k2, q⟩
        · cases e
      · cases e
    · cases e
end
end JF
set_option maxHeartbeats 1000000
/-! KJ: a part of the work done on the first cells only. -/
namespace JF
open PySem PySem.Spec PyProof.Rows L2
/-- the first cells -/
def lvN (n : Nat) : Ta → SH → List Nat := fun _ _ => List.range n
theorem nodupB_of : ∀ {L : List Nat}, L.Nodup → nodupB L = true
  | [], _ => rfl
  | n :: L, h => by
    obtain ⟨h1, h2⟩ := List.nodup_cons.mp h
    unfold nodupB
    rw [nodupB_of h2, Bool.and_true]
    have : (L.any fun m => decide (m = n)) = false := by
      rw [List.any_eq_false]
      intro m hm e
      exact h1 (of_decide_eq_true e ▸ hm)
    rw [this]
    rfl
theorem pick_pre {C G : SH} : ∀ k : Nat, k ≤ C.length → pickS (C ++ G) (List.range' (C.length - k) k) = some (C.drop (C.length - k))
  | 0, _ => by simp [pickS]
  | k + 1, h => by
    have hlt : C.length - (k + 1) < C.length := by omega
    have e1 : C.length - (k + 1) + 1 = C.length - k := by omega
    rw [List.range'_succ, e1]
    unfold pickS
    rw [List.getElem?_append_left hlt, List.getElem?_eq_getElem hlt]
    simp only
    rw [pick_pre k (by omega)]
    simp only [Option.map]
    rw [List.drop_eq_getElem_cons hlt, e1]
theorem pick_range {C G : SH} : pickS (C ++ G) (List.range C.length) = some C := by
  have h := pick_pre (C := C) (G := G) C.length (Nat.le_refl _)
  rw [Nat.sub_self] at h
  rw [List.range_eq_range']
  simpa using h
theorem upN_tot (n z : Nat) (j : Nat) : ∃ m, upN (List.range n) z j = some m := by
  unfold upN
  rw [List.length_range]
  by_cases c : j < n
  · rw [if_pos c]
    exact ⟨j, by rw [List.getElem?_range c]⟩
  · rw [if_neg c]
    exact ⟨_, rfl⟩
theorem mapCs_app {f : Nat → Option Nat} : ∀ {cs ds cs2 ds2 : List Cell}, mapCs f cs = some ds → mapCs f cs2 = some ds2 → mapCs f (cs ++ cs2) = some (ds ++ ds2)
  | [], _, _, _, h, h2 => by
    simp only [mapCs] at h
    cases h
    exact h2
  | c :: cs, _, _, _, h, h2 => by
    simp only [mapCs] at h
    obtain ⟨d, e1, h⟩ := Option.bind_eq_some_iff.mp h
    obtain ⟨ds, e2, rfl⟩ := Option.map_eq_some_iff.mp h
    rw [List.cons_append, List.cons_append, mapCs, e1]
    simp only [Option.bind, Option.map]
    rw [mapCs_app e2 h2]
theorem setL_pre {G T : SH} : ∀ (k : Nat) (A C C' : SH), C.length = k → C'.length = k → setL (List.range' A.length k) (C' ++ T) (A ++ C ++ G) = A ++ C' ++ G
  | 0, A, C, C', h, h' => by
    have e := List.eq_nil_of_length_eq_zero h
    have e' := List.eq_nil_of_length_eq_zero h'
    subst e e'
    rfl
  | k + 1, A, C, C', h, h' => by
    match C, C', h, h' with
    | c :: C, d :: C', h, h' =>
      rw [List.range'_succ, List.cons_append]
      unfold setL
      have e : (A ++ c :: C ++ G).set A.length d = (A ++ [d]) ++ C ++ G := by
        rw [List.append_assoc, List.set_append_right _ _ (Nat.le_refl _), Nat.sub_self, List.cons_append, List.set_cons_zero]
        simp
      rw [e]
      have := setL_pre (G := G) (T := T) k (A ++ [d]) C C' (by simpa using h) (by simpa using h')
      rw [List.length_append, List.length_singleton] at this
      rw [this]
      simp
theorem fr_pre {C C' G Y : SH} {d : Sd} {en : En} {τ τ2 : Ta} {n : Nat} (hn : C.length = n) (hC : mapCs (ren (List.range n)) C = some C) (hC' : ∀ z, mapCs (upN (List.range n) z) C' = some C') (hl : C'.length = n) (e : d en (downT (List.range n) τ) C = .nx τ2 (C' ++ Y)) :
    ∃ T, dFrS (lvN n) d en τ (C ++ G) = .nx (upT (upN (List.range n) (C ++ G).length) τ2) (C' ++ (G ++ T)) := by
  obtain ⟨T, eT⟩ := mapCs_tot (f := upN (List.range n) (C ++ G).length) (upN_tot n _) Y
  refine ⟨T, ?_⟩
  have ed : downS (C ++ G) (List.range n) = some C := by
    unfold downS
    rw [nodupB_of List.nodup_range, if_pos rfl]
    subst hn
    rw [pick_range]
    exact hC
  have eu : upS (List.range n) (C ++ G) (C' ++ Y) = some (C' ++ (G ++ T)) := by
    unfold upS
    rw [mapCs_app (hC' _) eT]
    simp only [Option.map]
    have h := setL_pre (G := G) (T := T) n [] C C' hn hl
    rw [List.length_nil, List.nil_append, List.nil_append] at h
    rw [List.range_eq_range', h, List.length_range', List.drop_append]
    rw [List.drop_of_length_le (by omega), hl]
    simp
  unfold dFrS
  rw [show lvN n τ (C ++ G) = List.range n from rfl, ed]
  show upRS (List.range n) (C ++ G) (d en (downT (List.range n) τ) C) = _
  rw [e]
  show (match upS (List.range n) (C ++ G) (C' ++ Y) with | some S3 => RS.nx (upT (upN (List.range n) (C ++ G).length) τ2) S3 | none => RS.bad) = _
  rw [eu]
/-- the turns of a loop over a list: P what stays true -/
theorem for_list {vs : List IV} {b : SH → IV → Ta → RS} {P : Ta → SH → Prop} (hb : ∀ (i : Nat) (v : IV), vs[i]? = some v → ∀ τ S, P τ S → ∃ τ' S', b S v τ = .nx τ' S' ∧ P τ' S') : ∀ (f i : Nat), i + f = vs.length → ∀ τ S, P τ S → ∃ τ' S', forGo (Src.vs vs).get b (f + 1) i τ S = .nx τ' S' ∧ P τ' S'
  | 0, i, e, τ, S, h => by
    refine ⟨τ, S, ?_, h⟩
    unfold forGo
    have : vs[i]? = none := List.getElem?_eq_none (by omega)
    simp only [Src.get, this]
  | f + 1, i, e, τ, S, h => by
    have hi : i < vs.length := by omega
    obtain ⟨τ1, S1, e1, h1⟩ := hb i vs[i] (List.getElem?_eq_getElem hi) τ S h
    obtain ⟨τ2, S2, e2, h2⟩ := for_list hb f (i + 1) (by omega) τ1 S1 h1
    refine ⟨τ2, S2, ?_, h2⟩
    unfold forGo
    simp only [Src.get, List.getElem?_eq_getElem hi, e1]
    exact e2
end JF
set_option maxHeartbeats 1000000
/-! KL: a def that gives the refusal of a lambda back, the exception itself. -/
namespace JF
open PySem PySem.Spec PyProof.Rows L2 HotX
/-- an object that is known for good -/
def fzO (a : Addr) (oe : Obj) : HO := .frz oe (.ext fun h => h.get? a = some oe)
section
variable {X : Cx} {pins : List (Addr × Obj)} {σ : L2.St} {H : Hp} {s : Shared}
theorem adopt {a : Addr} {oe : Obj} {vs : Array Value} (I : Inv X pins σ H s) (g : s.heap.get? a = some oe) (d : oe.data = .fields vs) (na : H a = none) (n0 : X.s_0.heap.get? a = none) (oL : a ≠ X.env.locals) (oP : ∀ p ∈ X.pn ++ pins, p.1 ≠ a) : Inv X pins σ (upd H a (fzO a oe)) s := by
  have oC : ∀ x c, X.env.cells.lookup x = some c → c ≠ a := fun x c e z => by
    obtain ⟨v, o, ho, hd⟩ := I.cell x c e
    rw [z, g] at ho
    cases ho
    rw [d] at hd
    cases hd
  refine ⟨I.ok, I.os, I.bare, ⟨I.base.keep, I.base.slot, fun b o e n hx => ?_, I.base.there, fun b xs e => ?_, fun b o u e => ?_, fun b ps e => ?_⟩, I.loc, I.cell, ?_, fun x c e => ?_, fun p hp => ?_, fun b u e => ?_, I.len⟩
  · have hb : b ≠ a := fun z => by rw [z, n0] at e; cases e
    rw [upd_ne hb]
    exact I.base.free b o e n hx
  · have q := I.base.tups b xs e
    have hb : b ≠ a := fun z => by rw [z, na] at q; cases q
    rw [upd_ne hb]
    exact q
  · have q := I.base.frzs b o u e
    have hb : b ≠ a := fun z => by rw [z, na] at q; cases q
    rw [upd_ne hb]
    exact q
  · obtain ⟨m, q⟩ := I.base.tbls b ps e
    have hb : b ≠ a := fun z => by rw [z, na] at q; cases q
    exact ⟨m, by rw [upd_ne hb]; exact q⟩
  · rw [upd_ne (Ne.symm oL)]
    exact I.free
  · rw [upd_ne (oC x c e)]
    exact I.freeC x c e
  · obtain ⟨e1, e2, r⟩ := I.pin p hp
    exact ⟨e1, by rw [upd_ne (oP p hp)]; exact e2, r⟩
  · by_cases hb : b = a
    · subst hb
      rw [upd_same] at e
      cases e
      exact ⟨g, g, ⟨oe, g⟩, fun h1 h2 q k => k _ q⟩
    · rw [upd_ne hb] at e
      exact (I.hok b u e).stay (fun c v _ q => q) (fun c q => by rw [upd_ne (fun z => by rw [z, na] at q; cases q)]; exact q) fun c xs q => by rw [upd_ne (fun z => by rw [z, na] at q; cases q)]; exact q
end
/-- what a clause that gives the exception back comes to -/
def wR (K : PySem.W.Frag) (C : Value) (D : Ends) : WX := fun cls d _ H => PySem.W.exmOne K cls C = some true ∧ ∀ a oe, H a = none → Zc cls d oe → (∃ vs, oe.data = .fields vs) → D.rt (.ref a) (upd H a (fzO a oe))
section
variable {X : Cx} {pins : List (Addr × Obj)} {n : Str} {i : Nat} {D : Ends} {x : Str} {C : Value} {np rp rp' pos' : Pos}
theorem hdR_run (hs : X.stack = X.env :: X.outer) (hf : X.env.frame = some X.env.locals) (ok : X.Ok) (hx : X.ex = []) (hN : X.N.Nodup) (hi : X.N[i]? = some n) (hln : X.env.kindOf n = some .local) (hd1 : (n == ("__debug__" : Str)) = false) (hd2 : (n == ("__classdict__" : Str)) = false) (hc : Names X x C) {a : Addr} {B : Heap} {sI s' : Shared} {σ : L2.St} {H : Hp} {cls : Value} {d : Option Addr} {h3 : Heap}
    (J : Inv X pins σ H sI) (nb : ∀ b o, sI.heap.get? b = some o → b ∉ frs X.stack → B.get? b = some o) (up : sI.heap.UpToSlots h3) (fl : HandSPX.FlyingZ B (X.env :: X.outer) a (L2N.Zn cls d) h3) (na : H a = none) (os : s'.os = sI.os) (ag : AllBare s'.gens)
    (w : wR X.K C D cls d σ H) : wpAny (model X.prog X.w) X.A (handleBy (.ref a) X.env [.ExceptHandler (some (.Name x np)) (some n) [.Return (some (.Name n rp)) rp'] pos']) (SP X pins D) X.xe { s' with heap := h3 } := by
  have J3 : Inv X pins σ H { s' with heap := h3 } := J.landed nb fl.1 up os ag
  have nin : ∀ {h : Heap}, HandSPX.FlyingZ B (X.env :: X.outer) a (L2N.Zn cls d) h → a ∉ frs (X.env :: X.outer) := fun {h} fl hm => by
    obtain ⟨o, vs, g, _, dd⟩ := fl.there
    obtain ⟨_, o', g', nf⟩ := fl.2.2.1.mem hm
    rw [g] at g'
    cases g'
    exact nf _ dd
  have nS : a ∉ frs X.stack := by rw [hs]; exact nin fl
  have oL : a ≠ X.env.locals := fun z => nin fl (List.mem_filterMap.mpr ⟨X.env, List.mem_cons_self, by rw [hf, z]⟩)
  have oF : a ∉ X.fs := fun hm => by
    obtain ⟨e, he, q⟩ := List.mem_filterMap.mp hm
    exact nin fl (List.mem_filterMap.mpr ⟨e, List.mem_cons_of_mem _ he, q⟩)
  have nI : sI.heap.get? a = none := by
    cases q : sI.heap.get? a with
    | none => rfl
    | some o =>
      have := nb a o q nS
      rw [fl.2.1] at this
      cases this
  have n0 : X.s_0.heap.get? a = none := by
    cases q : X.s_0.heap.get? a with
    | none => rfl
    | some o =>
      obtain ⟨o', z⟩ := J.base.there a o q (by rw [hx]; exact fun z => nomatch z)
      rw [nI] at z
      cases z
  have oP : ∀ p ∈ X.pn ++ pins, p.1 ≠ a := fun p hp z => by
    have q := (J.pin p hp).1
    rw [z, nI] at q
    cases q
  obtain ⟨oe, vs, g3, z3, d3⟩ := fl.there
  have S3 := J3.suite g3 d3 na oL oF
  obtain ⟨eb, yes⟩ := w
  refine wpAny_handleBy_cons (codeAny_handlers_test ?_) (by intro q; cases q)
  have Lt : PySem.W.Looks (model X.prog X.w) h3 (typeOf (.ref a)) cls := fun A Q E s k q => wpAny_typeOf_ref (k _ _ g3) (by rw [z3.1]; exact q)
  have Lm := PySem.W.exm_one (M := model X.prog X.w) J3.kIn Lt eb
  have nm : ∀ {Q E : Value → Shared → Prop}, Q C { s' with heap := h3 } → wpAny (model X.prog X.w) (X.A.mark (some (.ref a))) (eval (.Name x np) X.env) Q E { s' with heap := h3 } := fun {Q E} q => by
    obtain ⟨hg, hd, hm | ⟨hm, hv, hn⟩⟩ := hc
    · exact ld_glob (X := X.suite a ((a, oe) :: (X.pn ++ pins))) S3 hg hm q hd
    · exact ld_blt (X := X.suite a ((a, oe) :: (X.pn ++ pins))) S3 hg hm hv q hn hd
  refine nm (Lm.here ?_)
  refine codeAny_handlers_suite_as (HandSPX.lands_againZ fl fun h4 fl4 up4 => ?_)
  have J4 : Inv X pins σ H { s' with heap := h4 } := J.landed nb fl4.1 (up.trans up4) os ag
  obtain ⟨o4, vs4, g4, z4, d4⟩ := fl4.there
  have S4 := J4.suite g4 d4 na oL oF
  refine store_ok (X := X.suite a ((a, o4) :: (X.pn ++ pins))) (v := .ref a) S4 hN hi (.inl hln) rfl (fun s5 S5 => ?_) (.inr hln)
  refine wpAny_mono ((pss_one (X := X.suite a ((a, o4) :: (X.pn ++ pins))) (ps_ret (pos := rp') (pe_var (i := i) (pos := rp) hi (.inl hln) hd1 hd2))).run [] s5 _ H { nx := fun _ _ => False, rt := fun v H' => v = .ref a ∧ H' = H, bk := fun _ _ => False, ct := fun _ _ => False } S5 ⟨.ref a, by rw [List.getElem?_set_self (by rw [J.len]; exact (List.getElem?_eq_some_iff.mp hi).1)], rfl, rfl⟩) (fun f s6 hsp => ?_) fun _ _ z => False.elim z
  cases f with
  | next => obtain ⟨_, _, _, q6⟩ := hsp; exact q6.elim
  | brk => obtain ⟨_, _, _, q6⟩ := hsp; exact q6.elim
  | cont => obtain ⟨_, _, _, q6⟩ := hsp; exact q6.elim
  | ret u =>
    obtain ⟨v6, σ6, H6, S6, r6, q6, q7⟩ := hsp
    subst q6 q7
    exact gone_ok (X := X.suite a ((a, o4) :: (X.pn ++ pins))) S6 hN hi hln fun s7 S7 => by
      have g7 := (S7.pin (a, o4) (List.mem_append_left _ List.mem_cons_self)).1
      exact ⟨.ref a, _, _, adopt (S7.unsuite ok) g7 d4 na n0 oL oP, r6, yes a o4 na z4.zc ⟨_, d4⟩⟩
theorem j_tryR {body : List Stmt} {pos : Pos} {tb : WX → TS} (hs : X.stack = X.env :: X.outer) (hf : X.env.frame = some X.env.locals) (hx : X.ex = []) (hN : X.N.Nodup) (hi : X.N[i]? = some n) (hln : X.env.kindOf n = some .local) (hd1 : (n == ("__debug__" : Str)) = false) (hd2 : (n == ("__classdict__" : Str)) = false) (hc : Names X x C)
    (hb : ∀ (W : WX) (pn : List (Addr × Obj)) (xe : Value → Shared → Prop), L2N.Takes (X.tr pn xe) W → PSs (X.tr pn xe) body (tb W)) :
    PS X (.Try body [.ExceptHandler (some (.Name x np)) (some n) [.Return (some (.Name n rp)) rp'] pos'] [] [] pos) (fun D σ H => tb (wR X.K C D) D σ H) := by
  refine ⟨fun pins s σ H D I h => wpAny_Try_except ?_⟩
  have ok := I.ok
  have fr : X.A.frames = some (X.env :: X.outer) := by rw [ok.frames, hs]
  refine wpAny_mono ((hb (wR X.K C D) (X.pn ++ pins) (fun e s₁ => wpAny (model X.prog X.w) X.A (noteFrame e X.env) (fun _ s₂ => wpAny (model X.prog X.w) X.A (setFlight e none) (fun _ s₃ =>
    wpAny (model X.prog X.w) X.A (handleBy e X.env [.ExceptHandler (some (.Name x np)) (some n) [.Return (some (.Name n rp)) rp'] pos']) (SP X pins D) X.xe s₃) X.xe s₂) X.xe s₁) fun u s' xx => ?_).run [] s σ H D (I.toTry _) h) (fun f s1 hsp => ?_) fun e s1 he => he
  · obtain ⟨a, B, sI, pins', σ', H', cls, d, rfl, J', nb, up, sky, na, os, ag, w⟩ := xx
    have sky' : Sky B (X.env :: X.outer) a (L2N.Zn cls d) X.env.locals s'.heap := by rw [← hs]; exact sky
    exact L2N.Sky.land L2N.Zn.steady fr hf sky' fun h3 fl up3 => hdR_run hs hf ok hx hN hi hln hd1 hd2 hc (J'.ofTry ok) nb (up.trans up3) fl na os ag w
  · cases f with
    | next => obtain ⟨σ', H', J', q⟩ := hsp; exact wpAny_execs_nil ⟨σ', H', J'.ofTry ok, q⟩
    | brk => obtain ⟨σ', H', J', q⟩ := hsp; exact ⟨σ', H', J'.ofTry ok, q⟩
    | cont => obtain ⟨σ', H', J', q⟩ := hsp; exact ⟨σ', H', J'.ofTry ok, q⟩
    | ret u => obtain ⟨v, σ', H', J', r, q⟩ := hsp; exact ⟨v, σ', H', J'.ofTry ok, r, q⟩
end
end JF
set_option maxHeartbeats 1000000
/-! KM: met(lambda: e). -/
namespace JF
open PySem PySem.Spec PyProof.Rows L2 HotX
def metX (e : Ex) (S : SH) : R IV := if e.cls ∈ exAll then (match e.arg with
  | none => .ok (.exn e.cls) S
  | some v => .ok (.exf e.cls v) S) else .bad
def dMet (d : Ed) : Ed := fun en τ S => match d en τ S with
  | .ok _ S => .ok .non S
  | .exc e S => metX e S
  | .bad => .bad
/-- the def that gives a refusal back -/
structure CalleeRK (P : Program) (w : World) (K : PySem.W.Frag) (mg : Str → Option Value) (base : Heap) (nm : Str) : Prop where
  ek : ExK K
  cls : mg "RoofError" = some (.ref (He.ga K "RoofError"))
  mg : mg nm = some (.ref (He.fAd K (nm, none)))
  tel : ∃ (fd : FuncData) (params : Arguments) (body : List Stmt) (sg : Scope) (pr pe : Str), FunD K nm nm params body sg [] [] (He.fAd K (nm, none)) fd ∧ L2.Binds K fd [pr] [] ∧ FnScope [pr, pe] [pr] sg ∧ Vis sg pr ∧ sg.names.lookup pe = some .local ∧ (pr == ("__debug__" : Str)) = false ∧ (pr == ("__classdict__" : Str)) = false ∧ (pe == ("__debug__" : Str)) = false ∧ (pe == ("__classdict__" : Str)) = false ∧
    sg.names.lookup ("RoofError" : Str) = some .globalImplicit ∧
    ∃ (p1 p2 p3 p4 p5 p6 a1 a2 a3 a4 : Pos) (j : Nat), body = [.Try [.Expr (.Call (.Name pr p1) [] [] p2) p3] [.ExceptHandler (some (.Name "RoofError" a1)) (some pe) [.Return (some (.Name pe a2)) a3] a4] [] [] p4, .Return (some (.Constant .none j p5)) p6]
abbrev CalleeR (X : Cx) (nm : Str) : Prop := CalleeRK X.prog X.w X.K X.mg X.base nm
theorem s_met {X : Cx} {en : En} {W : WX} {k : Nat} {nm : Str} {params : Arguments} {body : Expr} {scope : Scope} {p lpos pos : Pos} {d : Ed} {df : He.Defn × Str} (T : CalleeR X nm) (hg : Gl X nm) (hdb : (nm == ("__debug__" : Str)) = false) (hk : PySem.W.keepIn X.K (.ref (He.fAd X.K (nm, none))) = true)
    (hlam : df ∈ lamDefs) (hq : X.env.qual ++ "<lambda>" = df.2) (ap : tabsApart X.K = true) (hcode : X.env.code = .ref (He.cT X.K df.1).1) (TB : LamX.TabB X.base X.mg (He.cT X.K df.1).1 (He.cT X.K df.1).2) (hr : Room (k + 2) X.A) (L : LamX.LamS X.env.scope scope) (hdef : defaultsOf params X.env = ([], []))
    (hbind : ∀ (q : Str) (cl : List (Str × Addr)) (pm cv ctv : Value), bindArgs (PySem.W.kla_fn "<lambda>" q params body scope cl pm cv ctv) ⟨[], []⟩ = pure [])
    (hbody : ∀ (A : Around) (outer : List Env) (s : Shared) (H : Hp) (E : XK) (f c' : Addr), Room k (A.deeper (LamX.lamEnv X scope s.heap.objs.size f c')) → PE (lamN X A outer s H E scope f c') body (tE X.K en (fun c d _ H => E c d H) d)) :
    PE X (.Call (.Name nm p) [.Lambda params body scope lpos] [] pos) (tE X.K en W (dMet d)) := by
  refine ⟨fun pins s σ H Q I ⟨ρ, S, τ, hr0, sr, h⟩ => wpAny_Call_Name_kw (ld_glob I hg T.mg ?_ hdb)⟩
  refine PySem.W.callWith_K (h₀ := X.base) I.ok.mod.kin hk ?_ (by rfl) (by rfl)
  show wpAny _ _ (spliced ((false, eval (.Lambda params body scope lpos) X.env) :: backTo pos (starEach [] X.env))) _ _ s
  refine Calls.spliced_cons (LamX.lam_make2 (T := Tk X.K) I TB hcode (by rw [hq]; exact tkEq hlam) (by rw [hq]; exact tabsApart_ok ap hlam) hr0.tab hdef (L.has I.ok) fun f c' pm' ctv H1 s' I1 eN T1 hf hfn hfr hco => ?_)
  refine Calls.spliced_nil ⟨I1.kIn, ?_⟩
  obtain ⟨hr1, ex1⟩ := ext_lam hr0 eN T1
  obtain ⟨fd, pg, bg, sg, pr, pe, F, hb, Sg, hva, hle, n1, n2, n3, n4, g1, p1, p2, p3, p4, p5, p6, a1, a2, a3, a4, j, rfl⟩ := T.tel
  obtain ⟨oc, od, dV, kV, doc, pm, an, cdv, ct, osl, rfl, lk, hcd, _, _⟩ := F.ex
  refine wpAny_call (codeAny_mono (LamX.run_ofS (CX := L2N.CX X.prog X.w) (E := fun _ _ _ => False) (Q := Q) (k := k + 1) (N := [pr, pe]) (ps := [pr]) (us := [.ref f]) (vs := [.ref f]) lk hcd Sg hr I1.env0 (hb s' [.ref f] I1.kIn rfl) (.cons rfl .nil) rfl fun hr' => ?_) fun r s2 hq => ?_)
  · refine ⟨_, pss_cons (j_tryR (X := cxOf (L2N.CX X.prog X.w) X.prog X.w X.K X.mg X.base [pr, pe] nm sg (He.fAd X.K (nm, none)) cdv X.A X.stack s' H1 (fun _ _ _ => False)) (n := pe) (i := 1) (C := .ref (He.ga X.K "RoofError"))
      (tb := fun W D σZ HZ => ∃ Ech : XK, (∀ cls d (σ' : L2.St) H', σ'.length = 2 → Ech cls d H' → W cls d σ' H') ∧ σZ[0]? = some (some (.ref f)) ∧ HZ c' = some (LamX.CodeO c' (X.env.qual ++ "<lambda>")) ∧ tE X.K en (fun c d _ H => Ech c d H) d σ HZ (fun _ H' => D.nx σZ H'))
      rfl rfl rfl Sg.nd rfl hle n3 n4 ⟨g1, by decide, .inl T.cls⟩ (fun W pn xe tk => ?_)) (pss_one (ps_ret (pos := p6) (pe_non (j := j) (pos := p5)))), ?_⟩
    · refine ⟨fun pinsZ sZ σZ HZ D IZ ⟨Ech, hW, e0, ec, ht⟩ => ?_⟩
      exact (pss_one (ps_expr (pos := p3) (actN (p1 := p1) (p2 := p2) (i := 0) I1 L hf hfn hfr (hbind _ _ _ _ _) tk hW hr' (fun A outer s H hr2 => hbody A outer s H Ech f c' hr2) rfl hva n1 n2) rfl)).run pinsZ sZ σZ HZ D IZ ⟨e0, ec, ht⟩
    · refine ⟨fun cls d H' => PySem.W.exmOne X.K cls (.ref (He.ga X.K "RoofError")) = some true ∧ ∀ a oe, H' a = none → Zc cls d oe → (∃ vs, oe.data = .fields vs) → Q (.ref a) (upd H' a (fzO a oe)), fun cls d σ' H' hl q => q, rfl, hco, ρ, S, τ, hr1, sr.ext ex1, ?_⟩
      have h := Post.at ex1 h
      revert h
      unfold dMet
      cases d en τ S with
      | ok v S1 => exact fun h ρ' H' x a b c => h ρ' H' .non a b vr_non
      | bad => exact id
      | exc e S1 =>
        intro h ρ' H' cls dd a b c
        unfold metX at h
        dsimp only at h
        obtain ⟨rfl, ra⟩ := c
        by_cases hm : e.cls ∈ exAll
        · rw [if_pos hm] at h
          refine ⟨T.ek.exr _ hm, fun y oe na hz hv => ?_⟩
          obtain ⟨g2, g3⟩ := a.inl na (fzO y oe)
          cases ea : e.arg with
          | none =>
            rw [ea] at h ra
            have ra : dd = none := ra
            subst ra
            exact h ρ' _ _ g2 (b.trans g3) (by
              simp only [relV, VR]
              exact ⟨y, rfl, oe, upd_same, hz, hv⟩)
          | some v =>
            rw [ea] at h ra
            obtain ⟨dx, x, rfl, nd, hx, rv⟩ := ra
            exact h ρ' _ _ g2 (b.trans g3) (by
              simp only [relV, VR]
              exact ⟨y, dx, x, rfl, ⟨oe, upd_same, hz, hv⟩, ⟨nd, g3.keep _ _ hx nd (fun ps z => nomatch z)⟩, rv.ext g3⟩)
        · rw [if_neg hm] at h
          exact h.elim
  · cases r with
    | error e =>
      obtain ⟨_, _, _, _, _, _, _, _, _, _, _, _, z⟩ := (show L2N.CX X.prog X.w X.stack H1 s' (fun _ _ _ => False) e s2 from hq)
      exact z.elim
    | ok fl =>
      cases fl with
      | ret u => exact I1.after hq
      | next => exact False.elim hq
      | brk => exact False.elim hq
      | cont => exact False.elim hq
end JF
set_option maxHeartbeats 1000000
/-! KN: isinstance of a kept exception, its field. -/
namespace JF
open PySem PySem.Spec PyProof.Rows L2
/-- the class of a kept exception -/
def exC : IV → Option Str
  | .exn c => some c
  | .exf c _ => some c
  | _ => none
def dIsE (y : Option Str) (d : Ed) : Ed := fun en τ S => (d en τ S).bind fun u S1 => match exC u with
  | some x => if x ∈ exAll then (match y with
    | some y => .ok (.bl (decide (x = y))) S1
    | none => .ok (.bl true) S1) else .bad
  | none => .bad
def dXf (f : Str) (d : Ed) : Ed := fun en τ S => (d en τ S).bind fun u S1 => match u with
  | .exf c v => if c ∈ exFld ∧ exField c = f then .ok v S1 else .bad
  | _ => .bad
section
variable {K : PySem.W.Frag} {ρ : List Addr} {H : Hp}
theorem exC_rel {u : IV} {v : V} {x : Str} (r : VR K ρ H u v) (e : exC u = some x) : ∃ a d, v = .ref a ∧ ExV K H a x d ∧ ∀ dx, d = some dx → ∃ fs, H dx = some (.xd fs) := by
  cases u with
  | exn c =>
    simp only [exC] at e
    cases e
    simp only [VR] at r
    obtain ⟨a, rfl, q⟩ := r
    exact ⟨a, none, rfl, q, fun dx z => nomatch z⟩
  | exf c u =>
    simp only [exC] at e
    cases e
    simp only [VR] at r
    obtain ⟨a, dx, x, rfl, q, q2, _⟩ := r
    exact ⟨a, some dx, rfl, q, fun dx' z => by cases z; exact ⟨_, q2.2⟩⟩
  | _ => simp only [exC] at e; cases e
end
section
variable {X : Cx} {pins : List (Addr × Obj)} {σ : L2.St} {H : Hp} {s : Shared}
theorem exV_inst {a : Addr} {x : Str} {d : Option Addr} (I : Inv X pins σ H s) (h : ExV X.K H a x d) (hd : ∀ dx, d = some dx → ∃ fs, H dx = some (.xd fs)) : ∃ ox od, PySem.W.InstAt s.heap a ox (He.ga X.K x) od := by
  obtain ⟨oe, h1, ⟨z1, z2⟩, vs, hv⟩ := h
  obtain ⟨hget, _⟩ := I.hok a _ h1
  cases d with
  | none => exact ⟨oe, none, hget, z1, by unfold PySem.W.notCls; rw [hv] <;> rfl, by rw [z2]; exact True.intro⟩
  | some dx =>
    obtain ⟨fs, g⟩ := hd dx rfl
    obtain ⟨mA, ⟨o, es, ep, g2, _⟩, _⟩ : ObjOk X.prog X.w H s.heap dx (.xd fs) := I.hok dx _ g
    exact ⟨oe, some o, hget, z1, by unfold PySem.W.notCls; rw [hv] <;> rfl, by rw [z2]; exact g2⟩
def rIsE (K : PySem.W.Frag) : List V → Hp → VK → Prop := fun xs H Q => ∃ (a : Addr) (x : Str) (d : Option Addr) (c : V) (cv : Value) (b : Bool), xs = [.ref a, c] ∧ x ∈ exAll ∧ ExV K H a x d ∧ (∀ dx, d = some dx → ∃ fs, H dx = some (.xd fs)) ∧ (∀ u, RelV c u → u = cv) ∧ PySem.W.kitOne K (.ref (He.ga K x)) cv = some b ∧ Q (.bl b) H
theorem call_isE (k : ExK X.K) : CallR X (.builtin "isinstance") (rIsE X.K) := fun pins s σ H xs us Q I r q => by
  obtain ⟨a, x, d, c, cv, b, rfl, hx, he, hd, hcv, e, q⟩ := q
  cases r with
  | cons r1 r2 =>
    cases r2 with
    | cons r2 r3 =>
      cases r3
      cases r1
      obtain rfl := hcv _ r2
      exact PySem.W.kia_one (kitE (k.isc x hx) k.g1 k.g2) I.kIn (exV_inst I he hd) e (fun z => nomatch z) fun tk => ⟨.bl b, H, I.tok _, rfl, q⟩
theorem s_isE {en : En} {W : WX} {y : Str} {pos q1 q2 : Pos} {e : Expr} {d : Ed} (k : ExK X.K) (hy : y ∈ exAll) (hg : Gl X "isinstance") (hm : X.mg "isinstance" = none) (hgT : Gl X y) (hmT : X.mg y = some (.ref (He.ga X.K y))) (hdT : (y == ("__debug__" : Str)) = false)
    (hs : notStar e = true) (h : PE X e (tE X.K en W d)) : PE X (.Call (.Name "isinstance" q1) [e, .Name y q2] [] pos) (tE X.K en W (dIsE (some y) d)) := by
  refine (pe_callB (call_isE k) hg hm (by decide +kernel) (pa_cons h (pa_cons (pe_glob (v := .ref (He.ga X.K y)) hgT hmT rfl hdT) pa_nil) (star_cons hs)) (by decide) (by decide) (star_cons hs) rfl).jimp fun σ H Q ⟨ρ, S, τ, hr, sr, h⟩ => ⟨ρ, S, τ, hr, sr, ?_⟩
  refine Post.seq h fun ρ1 H1 S1 u v hr1 e1 r1 h1 => ?_
  cases ec : exC u with
  | none => rw [ec] at h1; exact h1.elim
  | some x =>
    rw [ec] at h1
    by_cases hx : x ∈ exAll
    · simp only [if_pos hx] at h1
      obtain ⟨a, dd, rfl, g1, g2⟩ := exC_rel r1 ec
      exact ⟨a, x, dd, .ref (He.ga X.K y), .ref (He.ga X.K y), _, rfl, hx, g1, g2, fun u r => r, k.kit x hx y hy, h1 ρ1 H1 _ hr1 (Ext.refl _ _) vr_bl⟩
    · simp only [if_neg hx] at h1
      exact h1.elim
theorem s_isEV {en : En} {W : WX} {pos q1 q2 : Pos} {e : Expr} {d : Ed} (k : ExK X.K) (hg : Gl X "isinstance") (hm : X.mg "isinstance" = none) (hgT : Gl X "ValueError") (hmT : X.mg "ValueError" = none)
    (hs : notStar e = true) (h : PE X e (tE X.K en W d)) : PE X (.Call (.Name "isinstance" q1) [e, .Name "ValueError" q2] [] pos) (tE X.K en W (dIsE none d)) := by
  refine (pe_callB (call_isE k) hg hm (by decide +kernel) (pa_cons h (pa_cons (pe_bltn (v := .ty "ValueError") hgT hmT PyProof.Rows.Boot.«ValueError» rfl (by decide) (by decide)) pa_nil) (star_cons hs)) (by decide) (by decide) (star_cons hs) rfl).jimp fun σ H Q ⟨ρ, S, τ, hr, sr, h⟩ => ⟨ρ, S, τ, hr, sr, ?_⟩
  refine Post.seq h fun ρ1 H1 S1 u v hr1 e1 r1 h1 => ?_
  cases ec : exC u with
  | none => rw [ec] at h1; exact h1.elim
  | some x =>
    rw [ec] at h1
    by_cases hx : x ∈ exAll
    · simp only [if_pos hx] at h1
      obtain ⟨a, dd, rfl, g1, g2⟩ := exC_rel r1 ec
      exact ⟨a, x, dd, .ty "ValueError", .type "ValueError", _, rfl, hx, g1, g2, fun u r => r, k.kve x hx, h1 ρ1 H1 _ hr1 (Ext.refl _ _) vr_bl⟩
    · simp only [if_neg hx] at h1
      exact h1.elim
/-- e.f, e a kept exception -/
theorem s_xf {en : En} {W : WX} {f : Str} {pos : Pos} {e : Expr} {d : Ed} (k : ExK X.K) (h : PE X e (tE X.K en W d)) (hb : attributeBase e f X.env (eval e X.env) = eval e X.env) : PE X (.Attribute e f pos) (tE X.K en W (dXf f d)) := by
  refine ⟨fun pins s σ H Q I ⟨ρ, S, τ, hr, sr, hp⟩ => ?_⟩
  have hp2 : tE X.K en W d σ H (fun x H1 => ∃ (a dd : Addr) (c : Str) (v : V), x = .ref a ∧ c ∈ exFld ∧ exField c = f ∧ ExV X.K H1 a c (some dd) ∧ H1 dd = some (.xd [(exField c, v)]) ∧ Q v H1) := by
    refine ⟨ρ, S, τ, hr, sr, Post.seq hp fun ρ1 H1 S1 u x hr1 e1 r1 h1 => ?_⟩
    cases u with
    | exf c u =>
      by_cases hc : c ∈ exFld ∧ exField c = f
      · simp only [if_pos hc] at h1
        simp only [relV, VR] at r1
        obtain ⟨a, dx, y, rfl, q, q2, r⟩ := r1
        exact ⟨a, dx, c, y, rfl, hc.1, hc.2, q, q2.2, h1 ρ1 H1 _ hr1 (Ext.refl _ _) r⟩
      · simp only [if_neg hc] at h1
        exact h1.elim
    | _ => exact h1.elim
  refine attr_of hb (thn (h.run pins s σ H _ I hp2) fun u s1 hh => ?_)
  obtain ⟨x, H1, I1, rx, a, dd, c, v, rfl, hc, ef, hE, ea, q⟩ := hh
  subst ef
  obtain rfl : u = Value.ref a := rx
  have C := k.isc c (fld_mem hc)
  obtain ⟨oe, h1, ⟨z1, z2⟩, vs, hv⟩ := hE
  obtain ⟨ha, _⟩ := I1.hok a _ h1
  have hx : ObjOk X.prog X.w H1 s1.heap dd (.xd [(exField c, v)]) := I1.hok dd _ ea
  obtain ⟨mA, hns, hr2⟩ := hx
  obtain ⟨od, ho, hl⟩ := lookIn_ns hns
  obtain ⟨u, hu, ru⟩ := RelO.some_of (v := v) (o := mA (exField c)) (by have := hr2 (exField c); simpa [List.lookup] using this)
  have J : PySem.W.InstAt s1.heap a oe (He.ga X.K c) (some od) := ⟨ha, z1, by unfold PySem.W.notCls; rw [hv] <;> rfl, by rw [z2]; exact ho⟩
  exact HandSPX.exc_get I1.kIn J C.ga C.gg C.be (PySem.W.findObj_own C.hd (k.fld c hc) rfl (by rw [hl, hu])) (handed_of ru) ⟨v, H1, I1.tok _, ru, q⟩
end
end JF
set_option maxHeartbeats 1000000
/-! KO: a table of the module with text keys and values; a text repeated. -/
namespace JF
open PySem PySem.Spec PyProof.Rows L2
/-! ### the table -/
def SZ : List (Str × Str) := [("found", "w"), ("come", "kww"), ("go", "n"), ("put_in", "nn"), ("take_out", "nn"), ("call", "nw"), ("move", "nwo"), ("merge", "ww"), ("trust", "ww"), ("mistrust", "ww")]
def szLk (z : Str) : Option Str := (SZ.find? fun p => decide (p.1 = z)).map (·.2)
def keyS : Value → Option Str
  | .str x _ => some x
  | _ => none
def szB (K : PySem.W.Frag) : Bool := match K.lookup (He.ga K "SIZES") with
  | some ⟨_, _, .dict es _, _⟩ => decide (es.toList.map (fun e => (keyS e.key, keyS e.val)) = SZ.map fun p => (some p.1, some p.2))
  | _ => false
theorem keyS_str {v : Value} {x : Str} (h : keyS v = some x) : ∃ t, v = .str x t := by
  cases v <;> simp only [keyS] at h <;> first | cases h | skip
  exact ⟨_, rfl⟩
theorem sz_aux (z : Str) : ∀ (l : List DictEntry) (tb : List (Str × Str)), l.map (fun e => (keyS e.key, keyS e.val)) = tb.map (fun p => (some p.1, some p.2)) →
    ((tb.find? fun p => decide (p.1 = z)) = none ∧ l.find? (·.key.isStr z) = none ∧ l.any (·.refKey) = false) ∨ ∃ p e t, (tb.find? fun p => decide (p.1 = z)) = some p ∧ l.find? (·.key.isStr z) = some e ∧ e.val = .str p.2 t
  | [], [], _ => .inl ⟨rfl, rfl, rfl⟩
  | [], _ :: _, h => by cases h
  | _ :: _, [], h => by cases h
  | e :: l, p :: tb, h => by
    simp only [List.map_cons, List.cons.injEq, Prod.mk.injEq] at h
    obtain ⟨⟨h1, h2⟩, h3⟩ := h
    obtain ⟨t1, e1⟩ := keyS_str h1
    obtain ⟨t2, e2⟩ := keyS_str h2
    rw [List.find?_cons, List.find?_cons]
    by_cases c : p.1 = z
    · refine .inr ⟨p, e, t2, by rw [decide_eq_true c], ?_, e2⟩
      have : e.key.isStr z = true := by rw [e1, c]; exact (PySem.W.isStr_of z _).trans (keyIs_str z t1)
      rw [this]
    · have nk : e.key.isStr z = false := by
        cases q : e.key.isStr z with
        | false => rfl
        | true =>
          rw [PySem.W.isStr_of] at q
          obtain ⟨t, e3⟩ := Value.isStrOf_shape q
          rw [e1] at e3
          cases e3
          exact (c rfl).elim
      rw [decide_eq_false c, nk]
      rcases sz_aux z l tb h3 with ⟨a, b, d⟩ | ⟨p', e', t', a, b, d⟩
      · refine .inl ⟨a, b, ?_⟩
        rw [List.any_cons, d, Bool.or_false]
        unfold DictEntry.refKey
        rw [e1]
      · exact .inr ⟨p', e', t', a, b, d⟩
structure SzK (K : PySem.W.Frag) (w : World) : Prop where
  d : ∃ es n, KDict K w (He.ga K "SIZES") es n
  at_ : ∀ z, (szLk z = none ∧ PySem.W.nsIn K (He.ga K "SIZES") z = some none) ∨ ∃ y t, szLk z = some y ∧ PySem.W.nsIn K (He.ga K "SIZES") z = some (some (.str y t))
theorem szK_of {K : PySem.W.Frag} {w : World} (d : ∃ es n, KDict K w (He.ga K "SIZES") es n) (b : szB K = true) : SzK K w := by
  refine ⟨d, fun z => ?_⟩
  obtain ⟨es, n, D⟩ := d
  unfold szB at b
  rw [D.at_] at b
  have b := of_decide_eq_true b
  unfold PySem.W.nsIn szLk
  rw [D.at_]
  rcases sz_aux z _ _ b with ⟨h1, h2, h3⟩ | ⟨p, e, t, h1, h2, h3⟩
  · refine .inl ⟨by rw [h1]; rfl, ?_⟩
    simp only [h2, h3]
    rfl
  · refine .inr ⟨p.2, t, by rw [h1]; rfl, ?_⟩
    simp only [h2, h3]
def dSzIn (neg : Bool) (d : Ed) : Ed := fun en τ S => (d en τ S).bind fun u S1 => match u with
  | .str z => .ok (.bl (if neg = true then !(szLk z).isSome else (szLk z).isSome)) S1
  | _ => .bad
def dSzAt (d : Ed) : Ed := fun en τ S => (d en τ S).bind fun u S1 => match u with
  | .str z => match szLk z with
    | some y => .ok (.str y) S1
    | none => .bad
  | _ => .bad
def dSzGet (d d2 : Ed) : Ed := fun en τ S => (d en τ S).bind fun u S1 => (d2 en τ S1).bind fun v S2 => match u with
  | .str z => match szLk z with
    | some y => .ok (.str y) S2
    | none => .ok v S2
  | _ => .bad
section
variable {X : Cx} {en : En} {W : WX} {pos p apos : Pos} {a b f : Expr} {d d2 : Ed}
theorem op_szNotIn (Z : SzK X.K X.w) : OpR X (compareOp .NotIn) (fun x y H Q => ∃ z, x = .str z ∧ y = .ref (He.ga X.K "SIZES") ∧ Q (.bl (!(szLk z).isSome)) H) := by
  obtain ⟨⟨es, n, D⟩, at_⟩ := Z
  refine (op_notIn_kd D).jimp fun x y H Q ⟨z, e1, e2, q⟩ => ?_
  rcases at_ z with ⟨h1, h2⟩ | ⟨v, t, h1, h2⟩
  · exact ⟨z, none, e1, e2, h2, by rw [h1] at q; exact q⟩
  · exact ⟨z, _, e1, e2, h2, by rw [h1] at q; exact q⟩
theorem t_szNotIn (Z : SzK X.K X.w) (hg : Gl X "SIZES") (hm : X.mg "SIZES" = some (.ref (He.ga X.K "SIZES"))) (ha : PE X a (tE X.K en W d)) : PT X (.Compare a [.NotIn] [.Name "SIZES" p] pos) (tT X.K en W (dTst (dSzIn true d))) := by
  refine (pt_cmpR (op_szNotIn Z) ha (pe_glob (v := .ref (He.ga X.K "SIZES")) hg hm rfl (by decide)) (by rfl)).jimp fun σ H Q ⟨ρ, S, τ, hr, sr, h⟩ => ⟨ρ, S, τ, hr, sr, ?_⟩
  have h0 : Post X.K W σ ρ H relB ((d en τ S).bind fun u S1 => match u with
    | .str z => .ok (!(szLk z).isSome) S1
    | _ => .bad) Q := by
    revert h
    unfold dTst dSzIn
    cases d en τ S with
    | ok u S1 =>
      show Post _ _ _ _ _ _ (R.bind _ _) _ → Post _ _ _ _ _ _ _ _
      cases u <;> exact id
    | exc _ _ => exact id
    | bad => exact id
  refine Post.seq h0 fun ρ1 H1 S1 u x hr1 e1 r1 h1 => ?_
  cases u with
  | str z =>
    have r1 : x = V.str z := by simpa only [relV, VR] using r1
    exact ⟨z, r1, rfl, _, rfl, h1 ρ1 H1 _ hr1 (Ext.refl _ _) rfl⟩
  | _ => exact h1.elim
theorem ix_sz (Z : SzK X.K X.w) : IxR X (fun x y H Q => ∃ z v, x = .ref (He.ga X.K "SIZES") ∧ y = .str z ∧ szLk z = some v ∧ Q (.str v) H) := by
  intro value slice pins s σ H x y v u Q I rx ry h hs
  obtain ⟨⟨es, n, D⟩, at_⟩ := Z
  obtain ⟨z, y, rfl, rfl, e, q⟩ := h
  cases rx
  obtain ⟨t, rfl⟩ := ry
  rcases at_ z with ⟨h1, h2⟩ | ⟨v, t2, h1, h2⟩
  · rw [h1] at e
    cases e
  · rw [h1] at e
    cases e
    exact tail_any (kd_type D I) PySem.F.slot_dict_getitem.lookup (wpAny_getItem_of (PySem.strKind_is X.prog X.w z t) (PySem.W.mapOf_K (prog := X.prog) I.kIn D.at_ D.lit) (PySem.W.find_K D.at_ h2) ⟨.str _, H, I.tok _, ⟨_, rfl⟩, q⟩) hs
theorem s_szAt (Z : SzK X.K X.w) (hg : Gl X "SIZES") (hm : X.mg "SIZES" = some (.ref (He.ga X.K "SIZES"))) (hb : PE X b (tE X.K en W d)) (hs : PlainIx b) : PE X (.Subscript (.Name "SIZES" p) b pos) (tE X.K en W (dSzAt d)) := by
  refine (pe_ix (ix_sz Z) (pe_glob (v := .ref (He.ga X.K "SIZES")) hg hm rfl (by decide)) hb hs).jimp fun σ H Q ⟨ρ, S, τ, hr, sr, h⟩ => ⟨ρ, S, τ, hr, sr, ?_⟩
  refine Post.seq h fun ρ1 H1 S1 u x hr1 e1 r1 h1 => ?_
  cases u with
  | str z =>
    have r1 : x = V.str z := by simpa only [relV, VR] using r1
    cases e : szLk z with
    | none => simp only [e] at h1; exact h1.elim
    | some y =>
      simp only [e] at h1
      exact ⟨z, y, rfl, r1, e, h1 ρ1 H1 _ hr1 (Ext.refl _ _) vr_str⟩
  | _ => exact h1.elim
theorem s_szGet (Z : SzK X.K X.w) (hg : Gl X "SIZES") (hm : X.mg "SIZES" = some (.ref (He.ga X.K "SIZES"))) (ha : PE X a (tE X.K en W d)) (hf : PE X f (tE X.K en W d2)) (m : M2 X (.Name "SIZES" p) "get" apos a f pos) : PE X (.Call (.Attribute (.Name "SIZES" p) "get" apos) [a, f] [] pos) (tE X.K en W (dSzGet d d2)) := by
  refine ⟨fun pins s σ H Q I ⟨ρ, S, τ, hr, sr, h⟩ => ?_⟩
  obtain ⟨⟨es, n, D⟩, at_⟩ := Z
  have ho := (pe_glob (v := .ref (He.ga X.K "SIZES")) (pos := p) hg hm rfl (by decide)).run pins s σ H (fun x H1 => x = .ref (He.ga X.K "SIZES") ∧ H1 = H) I ⟨rfl, rfl⟩
  refine wpAny_Call_method m.base m.few m.line PySem.F.plainAttrs_dict PySem.F.slot_dict_get PySem.F.type_dict_get (thn ho fun u s1 ⟨x, H1, I1, rx, ex, eH⟩ => ?_)
  subst ex eH
  obtain rfl : u = Value.ref (He.ga X.K "SIZES") := rx
  refine ⟨kd_type D I1, fun b e => ?_, ?_⟩
  · injection e with e
    subst e
    exact ⟨_, I1.kIn _ _ D.at_, rfl⟩
  rw [m.trees]
  have h2 : tE X.K en W d σ H1 (fun y H2 => tE X.K en W d2 σ H2 fun x H3 => ∃ z, y = .str z ∧ (∀ v, szLk z = some v → Q (.str v) H3) ∧ (szLk z = none → Q x H3)) := by
    refine ⟨ρ, S, τ, hr, sr, Post.seq h fun ρ1 H1 S1 u x hr1 e1 r1 h1 => ⟨ρ1, S1, τ, hr1, sr.ext e1, Post.seq h1 fun ρ2 H2 S2 v y hr2 e2 r2 h2 => ?_⟩⟩
    cases u with
    | str z =>
      have r1 : x = V.str z := by simpa only [relV, VR] using r1
      refine ⟨z, r1, fun v e => ?_, fun e => ?_⟩
      · simp only [e] at h2
        exact h2 ρ2 H2 _ hr2 (Ext.refl _ _) vr_str
      · simp only [e] at h2
        exact h2 ρ2 H2 _ hr2 (Ext.refl _ _) r2
    | _ => exact h2.elim
  refine Calls.callWith_builtin rfl (Calls.evalArgs_plain (Calls.spliced_cons (thn (ha.run pins s1 σ H1 _ I1 h2) fun iv s2 ⟨y, H2, I2, ry, q2⟩ =>
    Calls.spliced_cons (thn (hf.run pins s2 σ H2 _ I2 q2) fun fv s3 ⟨z, H3, I3, rz, zz, e, q3, q4⟩ => Calls.spliced_nil ?_))))
  subst e
  obtain ⟨t, rfl⟩ := ry
  refine call_meetsIn PySem.F.slot_dict_get (kd_type D I3) PySem.F.entry_dict_get (PySem.F.args_dict_get_3 _ _ _) (meets_dict_get_default (strKind X.prog X.w) (He.ga X.K "SIZES") (PySem.strKind_is X.prog X.w zz t) D.low fv) ⟨_, PySem.W.mapOf_K (prog := X.prog) I3.kIn D.at_ D.lit, ?_⟩
  rcases at_ zz with ⟨h1, h2⟩ | ⟨v, t2, h1, h2⟩
  · rw [PySem.W.find_K D.at_ h2]
    exact ⟨z, H3, I3.tok _, rz, q4 h1⟩
  · rw [PySem.W.find_K D.at_ h2]
    exact ⟨.str v, H3, I3.tok _, ⟨_, rfl⟩, q3 v h1⟩
/-! ### a text repeated -/
def repS (x : Str) (n : Int) : Str := if (n == 1 || x.length == 0) = true then x else ⟨(List.replicate n.toNat x.cps).foldl (· ++ ·) #[]⟩
theorem fold_size (c : Array Nat) : ∀ (k : Nat) (a : Array Nat), ((List.replicate k c).foldl (· ++ ·) a).size = a.size + k * c.size
  | 0, a => by simp
  | k + 1, a => by
    rw [List.replicate_succ, List.foldl_cons, fold_size c k, Array.size_append]
    rw [Nat.add_mul]
    omega
theorem op_repS : OpR X (binaryOp .Mult) (fun x y H Q => ∃ z n, x = .str z ∧ y = .int n ∧ 1 ≤ n ∧ n ≤ 100 ∧ z.length ≤ 100 ∧ Q (.str (repS z n)) H) := by
  intro pins s σ H x y v u Q I rx ry h
  obtain ⟨z, n, rfl, rfl, h1, h2, h3, q⟩ := h
  obtain ⟨t, rfl⟩ := rx
  obtain ⟨t', rfl⟩ := ry
  have hn : n.toNat ≤ 100 := by omega
  have hp : z.length * n.toNat ≤ 10000 := Nat.le_trans (Nat.mul_le_mul h3 hn) (by decide)
  refine P.mul_str (by
    rw [decide_eq_false (show ¬ n < -(2 ^ 63 : Int) by omega), decide_eq_false (show ¬ n ≥ 2 ^ 63 by omega)]
    rfl) (fun _ _ => ?_) (fun _ _ => ?_) ?_
  · have h4 : (z.length : Int) * n ≤ 10000 := by
      have e : (n.toNat : Int) = n := Int.toNat_of_nonneg (by omega)
      rw [← e, ← Int.natCast_mul]
      omega
    have : (z.length : Int) ≤ (2 ^ 63 - 1) / n := by
      rw [Int.le_ediv_iff_mul_le (by omega)]
      omega
    omega
  · unfold Builtin.Str.tooLong
    simp only [decide_eq_false_iff_not, Nat.not_lt, gt_iff_lt]
    rw [sizeLine_eq]
    omega
  · rw [if_neg (by omega)]
    unfold repS at q
    by_cases c : (n == 1 || z.length == 0) = true
    · rw [if_pos c] at q ⊢
      exact ⟨.str z, H, I, ⟨_, rfl⟩, q⟩
    · rw [if_neg c] at q ⊢
      refine ⟨?_, ⟨.str _, H, I.tok _, ⟨_, rfl⟩, q⟩⟩
      show ((List.replicate n.toNat z.cps).foldl (· ++ ·) #[]).size ≤ sizeLine
      rw [fold_size, sizeLine_eq]
      have : n.toNat * z.cps.size = z.length * n.toNat := Nat.mul_comm _ _
      simp only [List.size_toArray, List.length_nil, Nat.zero_add]
      omega
def mulF2 : IV → IV → SH → Option (IV × SH) := fun u v S => match u, v with
  | .str z, .int n => if 1 ≤ n ∧ n ≤ 100 ∧ z.length ≤ 100 then some (.str (repS z n), S) else none
  | _, _ => mulF u v S
theorem o_mul2 : OpR X (binaryOp .Mult) (rI2 X.K mulF2) := (op_repS.or o_mul).jimp fun x y H Q ⟨ρ, S, u, v, hr, ru, rv, p⟩ => by
  have other : PostO X.K ρ H (mulF u v S) Q → rI2 X.K mulF x y H Q := fun p => ⟨ρ, S, u, v, hr, ru, rv, p⟩
  cases u with
  | str z => cases v with
    | int n =>
      simp only [VR] at ru rv
      subst ru rv
      unfold mulF2 at p
      by_cases c : 1 ≤ n ∧ n ≤ 100 ∧ z.length ≤ 100
      · simp only [if_pos c] at p
        exact .inl ⟨z, n, rfl, rfl, c.1, c.2.1, c.2.2, p.same hr vr_str⟩
      · simp only [if_neg c] at p
        exact p.none.elim
    | _ => exact .inr (other p)
  | _ => exact .inr (other p)
end
end JF
set_option maxHeartbeats 1000000
/-! KP: a, *b = e. -/
namespace JF
open PySem PySem.Spec PyProof.Rows L2
section
variable {prog : Program} {w : World} {A : Around} {E : Value → Shared → Prop} {s : Shared} {I : Addr} {fp wr : List Addr} {G : Array GenState → Array GenState → Prop} {n : Nat} {P : Nat → Value → Prop} {St : Nat → Shared → Prop}
/-- the walk from its second item on -/
theorem shiftS (W : WalksS prog w A I fp wr G (n + 1) P St) : WalksS prog w A I fp wr G n (fun i => P (i + 1)) (fun i => St (i + 1)) where
  sub := W.sub
  grefl := W.grefl
  gtrans := W.gtrans
  frame := fun i => W.frame (i + 1)
  item := fun i s Q E hi st hQ => W.item (i + 1) s Q E (by omega) st hQ
  done := fun s Q E st hQ => W.done s Q E st hQ
  self := fun i => W.self (i + 1)
/-- the first item, the others in a new list -/
theorem star_tail {T : String} {x : Value} {r : List Value} {Q : List Value → Shared → Prop} (hh : A.handled = none) (hTm : T = "str_ascii_iterator" ∨ T = "str_iterator" ∨ T = "list_iterator" ∨ T = "tuple_iterator")
    (W : ∀ A' : Around, A'.handled = none → WalksS prog w A' I fp [I] (fun a b => b = a) (r.length + 1) P St) (hP : ∀ i u, P i u → (x :: r)[i]? = some u) (hT : ∀ i s', St i s' → s'.TypeIs (.ref I) T)
    (st : St 0 s) (hfp : ∀ (s' : Shared) i, St i s' → ∀ b ∈ fp, b < s'.heap.objs.size) (hI : I ∈ fp) (hn : r.length ≤ sizeLine)
    (hQ : ∀ s' : Shared, (∀ b o, b ≠ I → s.heap.get? b = some o → s'.heap.get? b = some o) → s'.gens = s.gens → s'.os = s.os → Q [x, .ref s'.heap.objs.size] { s' with heap := s'.heap.push (seqObj "list" r.toArray 0) }) :
    wpAny (model prog w) A (do
      let first ← holding [Value.ref I] (draw (.ref I) 1)
      if first.length < 1 then
        rule "unpack.star.too-few-before"
        raiseError "ValueError" s!"not enough values to unpack (expected at least {2 - 1}, got {first.length})"
      let rest ← holding first (collect (.ref I))
      let after := 2 - 1 - 1
      if rest.length < after then
        rule "unpack.star.too-few"
        raiseError "ValueError" s!"not enough values to unpack (expected at least {2 - 1}, got {1 + rest.length})"
      let mid := rest.length - after
      return first ++ [← newList (rest.take mid)] ++ rest.drop mid) Q E s := by
  refine wpAny_bind (wpAny_holding ?_)
  show wpAny _ _ (pyNext (.ref I) >>= _) _ _ s
  refine wpAny_bind ((W A hh).item 0 s _ _ (Nat.succ_pos _) st fun v s1 hp st1 m1 => ?_)
  have ev : v = x := (Option.some.inj (hP 0 v hp)).symm
  subst ev
  refine wpAny_bind (wpAny_holding (wpAny_pure (wpAny_pure ?_)))
  rw [if_neg (show ¬ [v].length < 1 by simp)]
  refine wpAny_bind (wpAny_holding ?_)
  have hh1 : A.in1.handled = none := by simp [hh]
  refine wpAny_collect_iter hTm (shiftS (W A.in1 hh1)) (fun i s' => hT (i + 1) s') st1 (hfp s1 1 st1) hI (fun s2 acc m2 ha => ?_) hn
  have ea : acc.toList = r := items_out (out := r) ha fun j u hu => by
    have := hP (j + 1) u hu
    simpa using this
  rw [ea, if_neg (show ¬ r.length < 2 - 1 - 1 by omega)]
  show wpAny _ _ (newList (r.take (r.length - 0)) >>= _) _ _ _
  rw [Nat.sub_zero, List.take_length]
  refine wpAny_bind (wpAny_newList (wpAny_pure ?_) hn)
  rw [show r.drop r.length = [] by simp]
  show Q ([v] ++ [Value.ref s2.heap.objs.size] ++ []) _
  exact hQ s2 (fun b o hb e => m2.heap b o (by simpa using hb) (m1.heap b o (by simpa using hb) e)) (m2.gens.trans m1.gens) (m2.os.trans m1.os)
theorem star_list {l : Addr} {x : Value} {r : List Value} {Q : List Value → Shared → Prop} (hh : A.handled = none) (hl : s.heap.IsList l (x :: r).toArray) (hn : r.length ≤ sizeLine)
    (hQ : ∀ s' : Shared, (∀ b o, s.heap.get? b = some o → s'.heap.get? b = some o) → s'.gens = s.gens → s'.os = s.os → Q [x, .ref s'.heap.objs.size] { s' with heap := s'.heap.push (seqObj "list" r.toArray 0) }) :
    wpAny (model prog w) A (unpackItems (.ref l) 2 (some 1)) Q E s := by
  obtain ⟨ol, hol, hcl, nl, hdl⟩ := id hl
  have hlt : l < s.heap.objs.size := Heap.lt_size hol
  unfold unpackItems
  refine wpAny_bind ?_
  unfold notIterableAtAll
  refine wpAny_bind (wpAny_specialOf ⟨ol, hol, hcl⟩ PySem.F.slot_list_iter.lookup ?_)
  refine wpAny_pure ?_
  simp only [Bool.false_eq_true, if_false]
  refine wpAny_bind (wpAny_holding (wpAny_pyIter_list hl ?_))
  refine star_tail (T := "list_iterator") (I := s.heap.objs.size) (fp := [s.heap.objs.size, l]) (P := fun i v => (x :: r).toArray[i]? = some v) (St := fun i s' => s'.heap.IsListIter s.heap.objs.size l i ∧ s'.heap.IsList l (x :: r).toArray) hh (.inr (.inr (.inl rfl)))
    (fun A' hA => by
      have q := (Walks.list (prog := prog) (w := w) hA s.heap.objs.size l (Nat.ne_of_lt hlt) (x :: r).toArray).toS
      rw [show (x :: r).toArray.size = r.length + 1 by simp] at q
      exact q) (fun i u hu => by simpa using hu) (fun i s' h => let ⟨o, ho, hc, _⟩ := h.1; ⟨o, ho, hc⟩) ⟨⟨_, Heap.get?_push_size _ rfl, rfl, rfl⟩, hl.push _⟩ (fun s' i h b hb => ?_) (by simp) hn (fun s' k g o => hQ s' (fun b u e => k b u (Nat.ne_of_lt (Heap.lt_size e)) (Heap.get?_push_of_some _ e)) g o)
  rcases List.mem_cons.mp hb with rfl | hb
  · obtain ⟨o, ho, _⟩ := h.1
    exact Heap.lt_size ho
  · rw [List.mem_singleton.mp hb]
    obtain ⟨o, ho, _⟩ := h.2
    exact Heap.lt_size ho
theorem star_tuple {l : Addr} {x : Value} {r : List Value} {Q : List Value → Shared → Prop} (hh : A.handled = none) (hl : s.heap.IsTuple l (x :: r).toArray) (hn : r.length ≤ sizeLine)
    (hQ : ∀ s' : Shared, (∀ b o, s.heap.get? b = some o → s'.heap.get? b = some o) → s'.gens = s.gens → s'.os = s.os → Q [x, .ref s'.heap.objs.size] { s' with heap := s'.heap.push (seqObj "list" r.toArray 0) }) :
    wpAny (model prog w) A (unpackItems (.ref l) 2 (some 1)) Q E s := by
  obtain ⟨ol, hol, hcl, nl, hdl⟩ := id hl
  have hlt : l < s.heap.objs.size := Heap.lt_size hol
  unfold unpackItems
  refine wpAny_bind ?_
  unfold notIterableAtAll
  refine wpAny_bind (wpAny_specialOf ⟨ol, hol, hcl⟩ PySem.F.slot_tuple_iter.lookup ?_)
  refine wpAny_pure ?_
  simp only [Bool.false_eq_true, if_false]
  refine wpAny_bind (wpAny_holding (wpAny_pyIter_tuple hl ?_))
  refine star_tail (T := "tuple_iterator") (I := s.heap.objs.size) (fp := [s.heap.objs.size, l]) (P := fun i v => (x :: r).toArray[i]? = some v) (St := fun i s' => s'.heap.IsTupleIter s.heap.objs.size l i ∧ s'.heap.IsTuple l (x :: r).toArray) hh (.inr (.inr (.inr rfl)))
    (fun A' hA => by
      have q := (Walks.tuple (prog := prog) (w := w) hA s.heap.objs.size l (Nat.ne_of_lt hlt) (x :: r).toArray).toS
      rw [show (x :: r).toArray.size = r.length + 1 by simp] at q
      exact q) (fun i u hu => by simpa using hu) (fun i s' h => let ⟨o, ho, hc, _⟩ := h.1; ⟨o, ho, hc⟩) ⟨⟨_, Heap.get?_push_size _ rfl, rfl, rfl⟩, hl.push _⟩ (fun s' i h b hb => ?_) (by simp) hn (fun s' k g o => hQ s' (fun b u e => k b u (Nat.ne_of_lt (Heap.lt_size e)) (Heap.get?_push_of_some _ e)) g o)
  rcases List.mem_cons.mp hb with rfl | hb
  · obtain ⟨o, ho, _⟩ := h.1
    exact Heap.lt_size ho
  · rw [List.mem_singleton.mp hb]
    obtain ⟨o, ho, _⟩ := h.2
    exact Heap.lt_size ho
end
/-! ### as a statement -/
def gStar (K : PySem.W.Frag) (t1 t2 : TG) : TG := fun v σ H Q => ∃ a x r, v = .ref a ∧ (SqL K H a (x :: r) ∨ SqT K H a (x :: r)) ∧ r.length ≤ sizeLine ∧ ∀ p, H p = none → t1 x σ (upd H p (.lst r)) fun σ1 H1 => t2 (.ref p) σ1 H1 Q
section
variable {X : Cx}
theorem pg_star {e1 e2 : Expr} {t1 t2 : TG} {k : Nat} {p2 pos : Pos} (hc : X.calm = true) (h1 : PG X e1 t1) (h2 : PG X e2 t2) (hn : (assignEach [e1, .Starred e2 p2] X.env).length = 2 := by rfl) (hst : (assignEach [e1, .Starred e2 p2] X.env).findIdx? (·.1) = some 1 := by rfl)
    (ha : (assignEach [e1, .Starred e2 p2] X.env).map (·.2) = [assign e1 X.env, assign e2 X.env] := by rfl) : PG X (.Tuple [e1, .Starred e2 p2] k pos) (gStar X.K t1 t2) := by
  refine ⟨fun pins s σ H v u Q I r hw => ?_⟩
  obtain ⟨a, x, rs, e1, hq, hl, hw⟩ := hw
  subst e1
  cases r
  rw [arm_assign_Tuple]
  refine wpAny_bind (wpAny_standAt ?_)
  unfold unpack
  rw [hn, hst, ha]
  have fin : ∀ (u : Value) (us : List Value), RelV x u → Vals rs us → ∀ s' : Shared, (∀ b o, s.heap.get? b = some o → s'.heap.get? b = some o) → s'.gens = s.gens → s'.os = s.os →
      wpAny (model X.prog X.w) X.A (assignInOrder [assign e1 X.env, assign e2 X.env] [u, .ref s'.heap.objs.size]) (fun _ s2 => ∃ σ' H', Inv X pins σ' H' s2 ∧ Q σ' H') X.xe { s' with heap := s'.heap.push (seqObj "list" us.toArray 0) } := fun u us ru rr s' k g o => by
    have J : Inv X pins σ H s' := I.call' (ch := []) o (Un.kept k) (I.hok.kept k) (by rw [g]; exact I.bare) (fun _ z => nomatch z)
    have hn : H s'.heap.objs.size = none := J.hok.fresh (Nat.le_refl _)
    have J2 : Inv X pins σ (upd H s'.heap.objs.size (.lst rs)) { s' with heap := s'.heap.push (seqObj "list" us.toArray 0) } := J.laid (t' := s'.toks) (fun b u e => Heap.get?_push_of_some _ e) (Nat.le_refl _) ⟨hl, us, 0, rr, Heap.get?_push_size _ rfl⟩
    exact assignInOrder_cons (thn (h1.run pins _ σ _ x u _ J2 ru (hw _ hn)) fun _ s2 ⟨σ2, H2, I2, q2⟩ => assignInOrder_cons (thn (h2.run pins s2 σ2 H2 (.ref s'.heap.objs.size) (.ref s'.heap.objs.size) Q I2 rfl q2) fun _ s3 q => assignInOrder_nil q))
  rcases hq with hq | hq
  · obtain ⟨its, rv, pl, hz⟩ := I.list hq
    cases rv with
    | @cons _ u _ us ru rr =>
      exact wpAny_bind (wpAny_holding (star_list (I.ok.hd hc) pl.isList (by rw [← rr.length]; exact hl) fun s' k g o => fin u us ru rr s' k g o))
  · obtain ⟨its, rv, pl, hz⟩ := I.tuple hq
    cases rv with
    | @cons _ u _ us ru rr =>
      exact wpAny_bind (wpAny_holding (star_tuple (I.ok.hd hc) (show s.heap.IsTuple a (u :: us).toArray from pl) (by rw [← rr.length]; exact hl) fun s' k g o => fin u us ru rr s' k g o))
end
/-- a list or a tuple -/
def seqS (S : SH) : IV → Option (List IV)
  | .tup xs => some xs
  | u => rdL S u
def dStar (i j : Nat) (d : Ed) : Sd := fun en τ S => liftS (d en τ S) τ fun v S => match seqS S v with
  | some (x :: r) => if r.length ≤ sizeLine then .nx ((τ.set i (some x)).set j (some (.lst r))) S else .bad
  | _ => .bad
section
variable {X : Cx} {K : PySem.W.Frag} {ρ : List Addr} {H : Hp} {S : SH} {en : En} {W : WX}
theorem seqS_rel {u : IV} {x : V} {xs : List IV} (hr : HR K ρ H S) (r : VR K ρ H u x) (e : seqS S u = some xs) : ∃ a ys, x = .ref a ∧ (SqL K H a ys ∨ SqT K H a ys) ∧ VRs K ρ H xs ys := by
  cases u with
  | tup zs =>
    simp only [seqS] at e
    cases e
    simp only [VR] at r
    obtain ⟨a, ys, rfl, q, r⟩ := r
    exact ⟨a, ys, rfl, .inr (SqT.of q.2), r⟩
  | _ =>
    obtain ⟨a, ys, e1, q, rr⟩ := rdL_sq hr r e
    exact ⟨a, ys, e1, .inl q, rr⟩
theorem j_star {i j : Nat} {y z : Str} {e : Expr} {d : Ed} {k : Nat} {p1 p2 p3 p4 pos : Pos} (hc : X.calm = true) (hN : X.N.Nodup) (hi : X.N[i]? = some y) (hj : X.N[j]? = some z) (ly : X.env.scope.names.lookup y = some .local) (lz : X.env.scope.names.lookup z = some .local) (h : PE X e (tE X.K en W d))
    (hs : swapsWithSole [.Tuple [.Name y p1, .Starred (.Name z p2) p3] k p4] e pos.line X.env = pure false) (hw : swappedStores [.Tuple [.Name y p1, .Starred (.Name z p2) p3] k p4] e X.env = pure none) :
    PS X (.Assign [.Tuple [.Name y p1, .Starred (.Name z p2) p3] k p4] e pos) (tS X.K en W (dStar i j d)) := by
  refine (ps_asg h (pg_star hc (pg_name (pos := p1) hN hi (.inl ly) (.inr ly)) (pg_name (pos := p2) hN hj (.inl lz) (.inr lz))) hs hw rfl).fz.jimp fun D σ H ⟨ρ, S, τ, hr, sr, h⟩ => ⟨ρ, S, τ, hr, sr, ?_⟩
  refine PostS.lift h sr fun ρ1 H1 S1 v x hr1 e1 r1 h1 => ?_
  cases es : seqS S1 v with
  | none => rw [es] at h1; exact h1.elim
  | some xs =>
    rw [es] at h1
    cases xs with
    | nil => exact h1.elim
    | cons u us =>
      have h1 : PostS X.K W ρ1 H1 (if us.length ≤ sizeLine then RS.nx ((τ.set i (some u)).set j (some (.lst us))) S1 else .bad) D := h1
      by_cases hl : us.length ≤ sizeLine
      · rw [if_pos hl] at h1
        obtain ⟨a, ys, rfl, hq, rr⟩ := seqS_rel hr1 r1 es
        simp only [VRs] at rr
        obtain ⟨y0, yr, rfl, ru, rr⟩ := rr
        refine ⟨a, y0, yr, rfl, hq, by rw [← VRs.length rr]; exact hl, fun p hp => ?_⟩
        refine .inr ⟨p, .lst yr, upd_same, True.intro, fun od => ?_⟩
        rw [upd_upd]
        obtain ⟨g1, g2⟩ := hr1.inl hp (.frz od (.lst yr))
        refine h1 ρ1 _ _ g1 g2 (SR.set (SR.set ((sr.ext e1).ext g2) (ru.ext g2) i) ?_ j)
        simp only [VR]
        exact ⟨p, yr, rfl, ⟨od, upd_same⟩, rr.ext g2⟩
      · rw [if_neg hl] at h1
        exact h1.elim
end
end JF
set_option maxHeartbeats 1000000
/-! KQ: zip of a text and a list or a tuple. -/
namespace JF
open PySem PySem.Spec PyProof.Rows L2
section
variable {prog : Program} {w : World} {A : Around}
theorem draws_shift {it : Addr} {fp : List Addr} {n : Nat} {P : Nat → Value → Prop} {St : Nat → Heap → Prop} (D : Draws prog w A it fp n P St) {i : Nat} (hi : i ≤ n) : Draws prog w A it fp (n - i) (fun j => P (i + j)) (fun j => St (i + j)) where
  live := fun j => D.live (i + j)
  frame := fun j => D.frame (i + j)
  item := fun j s Q E hj st hQ => D.item (i + j) s Q E (by omega) st hQ
  done := fun s Q E st hE => D.done s Q E (by rw [show i + (n - i) = n by omega] at st; exact st) hE
theorem draws_text (hh : A.handled = none) (it : Addr) (x : Str) (t : Tok) (i : Nat) : ∃ n P St, Draws prog w A it [it] n P St ∧ (∀ h, Heap.IsStrIter h it (strIterType x) x t i → St 0 h) ∧ (x.cps.size ≤ i → n = 0) := by
  by_cases hi : i ≤ x.cps.size
  · exact ⟨_, _, _, draws_shift (Draws.text hh it x t) hi, fun h q => q, fun q => by omega⟩
  · refine ⟨0, fun _ _ => True, fun _ h => Heap.IsStrIter h it (strIterType x) x t i, ⟨fun _ _ st => let ⟨o, ho, _⟩ := st; ⟨o, ho⟩, fun _ _ _ st hk => let ⟨o, ho, r⟩ := st; ⟨o, hk it (by simp) o ho, r⟩, fun _ _ _ _ hj => absurd hj (Nat.not_lt_zero _), fun s Q E st hE => ?_⟩, fun h q => q, fun _ => rfl⟩
    have hx : x.cps[i]? = none := Array.getElem?_eq_none (by omega)
    cases ha : x.cps.all (· < 128)
    · simp only [strIterType, ha, Bool.false_eq_true, if_false] at st
      exact wpAny_nextOf_wide_end hh st hx hE
    · simp only [strIterType, ha, if_true] at st
      exact wpAny_nextOf_ascii_end hh st hx hE
theorem draws_list (hh : A.handled = none) (it l : Addr) (hne : l ≠ it) (items : Array Value) (i : Nat) : ∃ n P St, Draws prog w A it [it, l] n P St ∧ (∀ h, Heap.IsListIter h it l i → Heap.IsList h l items → St 0 h) ∧ (items.size ≤ i → n = 0) := by
  by_cases hi : i ≤ items.size
  · exact ⟨_, _, _, draws_shift (Draws.list hh it l hne items) hi, fun h q q2 => ⟨q, q2⟩, fun q => by omega⟩
  · exact ⟨0, fun _ _ => True, fun _ h => Heap.IsListIter h it l i ∧ Heap.IsList h l items, ⟨fun _ _ st => let ⟨o, ho, _⟩ := st.1; ⟨o, ho⟩, fun _ _ _ st hk => ⟨st.1.at fun o e => hk it (by simp) o e, st.2.at fun o e => hk l (by simp) o e⟩, fun _ _ _ _ hj => absurd hj (Nat.not_lt_zero _), fun s Q E st hE => wpAny_nextOf_list_end hh st.1 st.2 (Array.getElem?_eq_none (by omega)) hE⟩, fun h q q2 => ⟨q, q2⟩, fun _ => rfl⟩
theorem draws_tuple (hh : A.handled = none) (it l : Addr) (hne : l ≠ it) (items : Array Value) (i : Nat) : ∃ n P St, Draws prog w A it [it, l] n P St ∧ (∀ h, Heap.IsTupleIter h it l i → Heap.IsTuple h l items → St 0 h) ∧ (items.size ≤ i → n = 0) := by
  by_cases hi : i ≤ items.size
  · exact ⟨_, _, _, draws_shift (Draws.tuple hh it l hne items) hi, fun h q q2 => ⟨q, q2⟩, fun q => by omega⟩
  · exact ⟨0, fun _ _ => True, fun _ h => Heap.IsTupleIter h it l i ∧ Heap.IsTuple h l items, ⟨fun _ _ st => let ⟨o, ho, _⟩ := st.1; ⟨o, ho⟩, fun _ _ _ st hk => ⟨st.1.at fun o e => hk it (by simp) o e, st.2.at fun o e => hk l (by simp) o e⟩, fun _ _ _ _ hj => absurd hj (Nat.not_lt_zero _), fun s Q E st hE => wpAny_nextOf_tuple_end hh st.1 st.2 (Array.getElem?_eq_none (by omega)) hE⟩, fun h q q2 => ⟨q, q2⟩, fun _ => rfl⟩
end

def ItzL (K : PySem.W.Frag) (z : Str) (b : Addr) : It :=
  ⟨fun i H => ∃ (ys : List V) (c : Nat) (y : V), SqL K H b ys ∧ z.cps[i]? = some c ∧ ys[i]? = some y,
    fun i H v H' => ∃ T c y, v = .ref T ∧ H T = none ∧ H' = upd H T (.tup [.str ⟨#[c]⟩, y]) ∧ z.cps[i]? = some c ∧ ∀ ys, SqL K H b ys → ys[i]? = some y,
    fun i H => ∃ ys : List V, SqL K H b ys ∧ (z.cps.size ≤ i ∨ ys.length ≤ i)⟩
theorem turn_zL {P : Program} {w : World} {K : PySem.W.Frag} {elts : List Expr} {kk : Nat} {tpos : Pos} {zs : Str} {t : Tok} {b z TI TO i1 i2 : Addr} (D : ZipSep2 z TI TO i1 i2 [i1] [i2, b]) (hbi : b ≠ i2) :
    Turn P w K (.Tuple elts kk tpos) (ItzL K zs b) [z, TI, TO, i1, i2] z (fun i h => IsZip h z TI TO .none ∧ IsTupOf2 h TI (.ref i1) (.ref i2) ∧ (∃ x y, IsTupOf2 h TO x y) ∧ h.IsStrIter i1 (strIterType zs) zs t i ∧ h.IsListIter i2 b i) where
  mem := by simp
  obj := fun i h st c hc => by
    obtain ⟨hz, hTI, ⟨x, y, hTO⟩, ⟨o1, e1, _, d1⟩, ⟨o2, e2, _, d2⟩⟩ := st
    have e' : c = z ∨ c = TI ∨ c = TO ∨ c = i1 ∨ c = i2 := by simpa using hc
    rcases e' with q | q | q | q | q
    · rw [q]; exact ⟨_, hz, fun v q => nomatch q⟩
    · rw [q]; exact ⟨_, hTI, fun v q => nomatch q⟩
    · rw [q]; exact ⟨_, hTO, fun v q => nomatch q⟩
    · rw [q]; exact ⟨o1, e1, fun v q => by rw [d1] at q; cases q⟩
    · rw [q]; exact ⟨o2, e2, fun v q => by rw [d2] at q; cases q⟩
  keep := fun i h h' st k => by
    obtain ⟨hz, hTI, ⟨x, y, hTO⟩, ⟨o1, e1, r1⟩, h2⟩ := st
    exact ⟨k z (by simp) _ hz, k TI (by simp) _ hTI, ⟨x, y, k TO (by simp) _ hTO⟩, ⟨o1, k i1 (by simp) _ e1, r1⟩, h2.at fun o q => k i2 (by simp) o q⟩
  item := by
    intro X hP hw hK hc i pins s σ H E I hf st hg
    subst hP hw hK
    obtain ⟨hz, hTI, ⟨x0, y0, hTO⟩, h1, h2⟩ := st
    obtain ⟨ys, c, y, hqy, hx, hy⟩ := hg
    obtain ⟨its2, rv2, p2, _⟩ := I.list hqy
    obtain ⟨u2, hu2, ru2⟩ := rv2.get hy
    have hzl : z < s.heap.objs.size := Heap.lt_size hz
    have hlt1 : i < zs.cps.size := by
      rcases Nat.lt_or_ge i zs.cps.size with q | q
      · exact q
      · rw [Array.getElem?_eq_none q] at hx; cases hx
    have hlt2 : i < its2.toArray.size := by
      rw [List.size_toArray]
      exact (List.getElem?_eq_some_iff.mp hu2).1
    refine wpAny_pyNext_zipD2_item D (Draws.text (A := X.A.in1) (I.ok.hd hc) i1 zs t) (Draws.list (A := X.A.in1) (I.ok.hd hc) i2 b hbi its2.toArray) hz hTI hTO h1 ⟨h2, p2.isList⟩ hlt1 hlt2 fun x1 x2 h' tk hp1 hp2 z' TO' h1' h2' hT hsz hk => ?_
    obtain ⟨c', tc, hc', rfl⟩ := hp1
    have hcc : c' = c := by rw [hx] at hc'; cases hc'; rfl
    subst hcc
    have hx2 : x2 = u2 := by
      have hp2' : its2[i]? = some x2 := by simpa using hp2
      rw [hu2] at hp2'; cases hp2'; rfl
    subst hx2
    refine ⟨_, rfl, wpAny_letOwnedTupleGo_zip (s := { s with heap := h', toks := tk }) z' fun h'' z'' sb => ?_⟩
    have hT2 : h''.get? s.heap.objs.size = some { cls := .type "tuple", data := .seq #[.str ⟨#[c']⟩ tc, x2] } := (sb.2 _ (Nat.ne_of_gt hzl)).trans hT
    have new : ObjOk X.prog X.w (upd H s.heap.objs.size (.tup [.str ⟨#[c']⟩, y])) h'' s.heap.objs.size (.tup [.str ⟨#[c']⟩, y]) :=
      ⟨by show 2 ≤ sizeLine; decide, [.str ⟨#[c']⟩ tc, x2], .cons ⟨tc, rfl⟩ (.cons ru2 .nil), ⟨_, hT2, rfl, _, rfl⟩⟩
    have I1 : Inv X pins σ (upd H s.heap.objs.size (.tup [.str ⟨#[c']⟩, y])) { s with heap := h'', toks := tk } :=
      I.turnedNew (t' := tk) (ch := [z, TI, TO, i1, i2]) (fun c o hb q => (sb.2 c (fun q' => hb (by simp [q']))).trans (hk c o (fun q' => hb (by simp [q'])) (fun q' => hb (by simp [q'])) (fun q' => hb (by simp [q'])) (fun q' => hb (by simp [q'])) q)) hf (Nat.le_refl _) new
    refine ⟨.ref s.heap.objs.size, _, I1, rfl, ⟨_, c', y, rfl, I.hok.fresh (Nat.le_refl _), rfl, hx, fun l hl => by rw [I.list_inj hl hqy]; exact hy⟩, ⟨z'', ?_, ⟨.str ⟨#[c']⟩ tc, x2, ?_⟩, ?_, ?_⟩, fun c hcm => ?_⟩
    · exact (sb.2 _ D.TIz).trans (hk _ _ D.TIz D.TITO D.TIi1 D.TIi2 hTI)
    · exact (sb.2 _ D.TOz).trans TO'
    · obtain ⟨o1, e1, r1⟩ := h1'
      exact ⟨o1, (sb.2 _ D.zi1.symm).trans e1, r1⟩
    · exact h2'.1.at fun o q => (sb.2 _ D.zi2.symm).trans q
    · have hlt : c < s.heap.objs.size := by
        have e' : c = z ∨ c = TI ∨ c = TO ∨ c = i1 ∨ c = i2 := by simpa using hcm
        rcases e' with q | q | q | q | q
        · rw [q]; exact hzl
        · rw [q]; exact Heap.lt_size hTI
        · rw [q]; exact Heap.lt_size hTO
        · rw [q]; obtain ⟨_, e1, _⟩ := h1; exact Heap.lt_size e1
        · rw [q]; obtain ⟨_, e2, _⟩ := h2; exact Heap.lt_size e2
      rw [upd_ne (Nat.ne_of_lt hlt)]
      exact (hf c hcm).1
  done := by
    intro X hP hw hK hc i pins s σ H E I hf st hg
    subst hP hw hK
    obtain ⟨hz, hTI, ⟨x0, y0, hTO⟩, h1, h2⟩ := st
    obtain ⟨ys, hqy, hend⟩ := hg
    obtain ⟨its2, rv2, p2, _⟩ := I.list hqy
    obtain ⟨n1, P1, St1, D1, s1, z1⟩ := draws_text (prog := X.prog) (w := X.w) (A := X.A.in1) (I.ok.hd hc) i1 zs t i
    obtain ⟨n2, P2, St2, D2, s2, z2⟩ := draws_list (prog := X.prog) (w := X.w) (A := X.A.in1) (I.ok.hd hc) i2 b hbi its2.toArray i
    refine wpAny_pyNext_zipD2_end D D1 D2 hz hTI hTO (i := 0) (s1 _ h1) (s2 _ h2 p2.isList) (Nat.zero_le _) (Nat.zero_le _) ?_ fun h' tk hk => ⟨rfl, I.turnedL (t' := tk) (ch := [z, TI, TO, i1, i2]) (fun c o hb q =>
      hk c o (fun q' => hb (by simp [q'])) (fun q' => hb (by simp [q'])) (fun q' => hb (by simp [q'])) (fun q' => hb (by simp [q'])) q) hf⟩
    rcases hend with q | q
    · exact .inl (z1 q).symm
    · exact .inr (z2 (by rw [List.size_toArray, ← rv2.length]; exact q)).symm
  self := fun A i s Q E st h => wpAny_pyIter_zip st.1 h

def ItzT (K : PySem.W.Frag) (z : Str) (b : Addr) : It :=
  ⟨fun i H => ∃ (ys : List V) (c : Nat) (y : V), SqT K H b ys ∧ z.cps[i]? = some c ∧ ys[i]? = some y,
    fun i H v H' => ∃ T c y, v = .ref T ∧ H T = none ∧ H' = upd H T (.tup [.str ⟨#[c]⟩, y]) ∧ z.cps[i]? = some c ∧ ∀ ys, SqT K H b ys → ys[i]? = some y,
    fun i H => ∃ ys : List V, SqT K H b ys ∧ (z.cps.size ≤ i ∨ ys.length ≤ i)⟩
theorem turn_zT {P : Program} {w : World} {K : PySem.W.Frag} {elts : List Expr} {kk : Nat} {tpos : Pos} {zs : Str} {t : Tok} {b z TI TO i1 i2 : Addr} (D : ZipSep2 z TI TO i1 i2 [i1] [i2, b]) (hbi : b ≠ i2) :
    Turn P w K (.Tuple elts kk tpos) (ItzT K zs b) [z, TI, TO, i1, i2] z (fun i h => IsZip h z TI TO .none ∧ IsTupOf2 h TI (.ref i1) (.ref i2) ∧ (∃ x y, IsTupOf2 h TO x y) ∧ h.IsStrIter i1 (strIterType zs) zs t i ∧ h.IsTupleIter i2 b i) where
  mem := by simp
  obj := fun i h st c hc => by
    obtain ⟨hz, hTI, ⟨x, y, hTO⟩, ⟨o1, e1, _, d1⟩, ⟨o2, e2, _, d2⟩⟩ := st
    have e' : c = z ∨ c = TI ∨ c = TO ∨ c = i1 ∨ c = i2 := by simpa using hc
    rcases e' with q | q | q | q | q
    · rw [q]; exact ⟨_, hz, fun v q => nomatch q⟩
    · rw [q]; exact ⟨_, hTI, fun v q => nomatch q⟩
    · rw [q]; exact ⟨_, hTO, fun v q => nomatch q⟩
    · rw [q]; exact ⟨o1, e1, fun v q => by rw [d1] at q; cases q⟩
    · rw [q]; exact ⟨o2, e2, fun v q => by rw [d2] at q; cases q⟩
  keep := fun i h h' st k => by
    obtain ⟨hz, hTI, ⟨x, y, hTO⟩, ⟨o1, e1, r1⟩, h2⟩ := st
    exact ⟨k z (by simp) _ hz, k TI (by simp) _ hTI, ⟨x, y, k TO (by simp) _ hTO⟩, ⟨o1, k i1 (by simp) _ e1, r1⟩, h2.at fun o q => k i2 (by simp) o q⟩
  item := by
    intro X hP hw hK hc i pins s σ H E I hf st hg
    subst hP hw hK
    obtain ⟨hz, hTI, ⟨x0, y0, hTO⟩, h1, h2⟩ := st
    obtain ⟨ys, c, y, hqy, hx, hy⟩ := hg
    obtain ⟨its2, rv2, p2, _⟩ := I.tuple hqy
    obtain ⟨u2, hu2, ru2⟩ := rv2.get hy
    have hzl : z < s.heap.objs.size := Heap.lt_size hz
    have hlt1 : i < zs.cps.size := by
      rcases Nat.lt_or_ge i zs.cps.size with q | q
      · exact q
      · rw [Array.getElem?_eq_none q] at hx; cases hx
    have hlt2 : i < its2.toArray.size := by
      rw [List.size_toArray]
      exact (List.getElem?_eq_some_iff.mp hu2).1
    refine wpAny_pyNext_zipD2_item D (Draws.text (A := X.A.in1) (I.ok.hd hc) i1 zs t) (Draws.tuple (A := X.A.in1) (I.ok.hd hc) i2 b hbi its2.toArray) hz hTI hTO h1 ⟨h2, p2⟩ hlt1 hlt2 fun x1 x2 h' tk hp1 hp2 z' TO' h1' h2' hT hsz hk => ?_
    obtain ⟨c', tc, hc', rfl⟩ := hp1
    have hcc : c' = c := by rw [hx] at hc'; cases hc'; rfl
    subst hcc
    have hx2 : x2 = u2 := by
      have hp2' : its2[i]? = some x2 := by simpa using hp2
      rw [hu2] at hp2'; cases hp2'; rfl
    subst hx2
    refine ⟨_, rfl, wpAny_letOwnedTupleGo_zip (s := { s with heap := h', toks := tk }) z' fun h'' z'' sb => ?_⟩
    have hT2 : h''.get? s.heap.objs.size = some { cls := .type "tuple", data := .seq #[.str ⟨#[c']⟩ tc, x2] } := (sb.2 _ (Nat.ne_of_gt hzl)).trans hT
    have new : ObjOk X.prog X.w (upd H s.heap.objs.size (.tup [.str ⟨#[c']⟩, y])) h'' s.heap.objs.size (.tup [.str ⟨#[c']⟩, y]) :=
      ⟨by show 2 ≤ sizeLine; decide, [.str ⟨#[c']⟩ tc, x2], .cons ⟨tc, rfl⟩ (.cons ru2 .nil), ⟨_, hT2, rfl, _, rfl⟩⟩
    have I1 : Inv X pins σ (upd H s.heap.objs.size (.tup [.str ⟨#[c']⟩, y])) { s with heap := h'', toks := tk } :=
      I.turnedNew (t' := tk) (ch := [z, TI, TO, i1, i2]) (fun c o hb q => (sb.2 c (fun q' => hb (by simp [q']))).trans (hk c o (fun q' => hb (by simp [q'])) (fun q' => hb (by simp [q'])) (fun q' => hb (by simp [q'])) (fun q' => hb (by simp [q'])) q)) hf (Nat.le_refl _) new
    refine ⟨.ref s.heap.objs.size, _, I1, rfl, ⟨_, c', y, rfl, I.hok.fresh (Nat.le_refl _), rfl, hx, fun l hl => by rw [I.tuple_inj hl hqy]; exact hy⟩, ⟨z'', ?_, ⟨.str ⟨#[c']⟩ tc, x2, ?_⟩, ?_, ?_⟩, fun c hcm => ?_⟩
    · exact (sb.2 _ D.TIz).trans (hk _ _ D.TIz D.TITO D.TIi1 D.TIi2 hTI)
    · exact (sb.2 _ D.TOz).trans TO'
    · obtain ⟨o1, e1, r1⟩ := h1'
      exact ⟨o1, (sb.2 _ D.zi1.symm).trans e1, r1⟩
    · exact h2'.1.at fun o q => (sb.2 _ D.zi2.symm).trans q
    · have hlt : c < s.heap.objs.size := by
        have e' : c = z ∨ c = TI ∨ c = TO ∨ c = i1 ∨ c = i2 := by simpa using hcm
        rcases e' with q | q | q | q | q
        · rw [q]; exact hzl
        · rw [q]; exact Heap.lt_size hTI
        · rw [q]; exact Heap.lt_size hTO
        · rw [q]; obtain ⟨_, e1, _⟩ := h1; exact Heap.lt_size e1
        · rw [q]; obtain ⟨_, e2, _⟩ := h2; exact Heap.lt_size e2
      rw [upd_ne (Nat.ne_of_lt hlt)]
      exact (hf c hcm).1
  done := by
    intro X hP hw hK hc i pins s σ H E I hf st hg
    subst hP hw hK
    obtain ⟨hz, hTI, ⟨x0, y0, hTO⟩, h1, h2⟩ := st
    obtain ⟨ys, hqy, hend⟩ := hg
    obtain ⟨its2, rv2, p2, _⟩ := I.tuple hqy
    obtain ⟨n1, P1, St1, D1, s1, z1⟩ := draws_text (prog := X.prog) (w := X.w) (A := X.A.in1) (I.ok.hd hc) i1 zs t i
    obtain ⟨n2, P2, St2, D2, s2, z2⟩ := draws_tuple (prog := X.prog) (w := X.w) (A := X.A.in1) (I.ok.hd hc) i2 b hbi its2.toArray i
    refine wpAny_pyNext_zipD2_end D D1 D2 hz hTI hTO (i := 0) (s1 _ h1) (s2 _ h2 p2) (Nat.zero_le _) (Nat.zero_le _) ?_ fun h' tk hk => ⟨rfl, I.turnedL (t' := tk) (ch := [z, TI, TO, i1, i2]) (fun c o hb q =>
      hk c o (fun q' => hb (by simp [q'])) (fun q' => hb (by simp [q'])) (fun q' => hb (by simp [q'])) (fun q' => hb (by simp [q'])) q) hf⟩
    rcases hend with q | q
    · exact .inl (z1 q).symm
    · exact .inr (z2 (by rw [List.size_toArray, ← rv2.length]; exact q)).symm
  self := fun A i s Q E st h => wpAny_pyIter_zip st.1 h

def iZipS (K : PySem.W.Frag) (ta : TA) : TI := fun σ H R => ta σ H fun vs H1 => ∃ z b ys, vs = [.str z, .ref b] ∧ ((SqL K H1 b ys ∧ R (ItzL K z b) H1) ∨ (SqT K H1 b ys ∧ R (ItzT K z b) H1))
theorem zsep {n b : Nat} (hb : b < n) : ZipSep2 (n + 4) (n + 2) (n + 3) n (n + 1) [n] [n + 1, b] where
  TIz := show (n + 2 : Nat) ≠ n + 4 by omega
  TOz := show (n + 3 : Nat) ≠ n + 4 by omega
  TITO := show (n + 2 : Nat) ≠ n + 3 by omega
  TIi1 := show (n + 2 : Nat) ≠ n by omega
  mem1 := List.mem_cons_self ..
  zf1 := show (n + 4 : Nat) ∉ ([n] : List Nat) by simp
  Tf1 := show (n + 3 : Nat) ∉ ([n] : List Nat) by simp
  TIi2 := show (n + 2 : Nat) ≠ n + 1 by omega
  mem2 := List.mem_cons_self ..
  zf2 := show (n + 4 : Nat) ∉ ([n + 1, b] : List Nat) by simp; omega
  Tf2 := show (n + 3 : Nat) ∉ ([n + 1, b] : List Nat) by simp; omega
  sep1_2 := show (n : Nat) ∉ ([n + 1, b] : List Nat) by simp; omega
  sep2_1 := show (n + 1 : Nat) ∉ ([n] : List Nat) by simp
theorem iter_chars (x : Str) (t : Tok) (h : Heap) (a : Addr) (q : h.get? a = some { cls := .type (strIterType x), data := .fields #[.str x t, .int 0 0] }) : h.IsStrIter a (strIterType x) x t 0 := ⟨_, q, rfl, rfl⟩
theorem pi_zipS {X : Cx} {e e2 : Expr} {ta : TA} {p pos tpos : Pos} {elts : List Expr} {kk : Nat} (hg : Gl X "zip") (hm : X.mg "zip" = none) (ha : PA X [e, e2] ta)
    (hs : starEach [e, e2] X.env = (false, eval e X.env) :: starEach [e2] X.env := by rfl) (hpl : (backTo pos (starEach [e2] X.env)).any (·.1) = false := by rfl) :
    PI X (.Tuple elts kk tpos) (.Call (.Name "zip" p) [e, e2] [] pos) (iZipS X.K ta) := by
  refine ⟨fun pins s σ H R I h => ?_⟩
  refine Call_ (ld_blt I hg hm PyProof.Rows.boot_zip (PyProof.Rows.callWith_type1 (thn (ha.run pos pins s σ H _ I h) fun us s1 ⟨vs, H1, I1, r1, q1⟩ => ?_) hs hpl))
  obtain ⟨zs, b, ys, ex, q1⟩ := q1
  subst ex
  cases r1 with
  | cons r rr =>
    cases rr with
    | cons r' rr =>
      cases rr
      cases r'
      obtain ⟨t, rfl⟩ := r
      have fresh5 : ∀ c, c ∈ [s1.heap.objs.size + 4, s1.heap.objs.size + 2, s1.heap.objs.size + 3, s1.heap.objs.size, s1.heap.objs.size + 1] → FpOk X pins H1 c := fun c hcm => by
        have e' : c = s1.heap.objs.size + 4 ∨ c = s1.heap.objs.size + 2 ∨ c = s1.heap.objs.size + 3 ∨ c = s1.heap.objs.size ∨ c = s1.heap.objs.size + 1 := by simpa using hcm
        have hle : s1.heap.objs.size ≤ c := by
          rcases e' with z | z | z | z | z
          · rw [z]; exact Nat.le_add_right _ _
          · rw [z]; exact Nat.le_add_right _ _
          · rw [z]; exact Nat.le_add_right _ _
          · rw [z]; exact Nat.le_refl _
          · rw [z]; exact Nat.le_add_right _ _
        exact I1.fpOk hle (I1.hok.fresh hle)
      rcases q1 with ⟨hqy, q⟩ | ⟨hqy, q⟩
      · obtain ⟨its2, rv2, p2, _⟩ := I1.list hqy
        refine zip_begins2 (begins_text zs t) (begins_list b its2.toArray) trivial p2.isList fun h' hz hTI hTO h1 h2 hsz hk => wpAny_pyIter_zip hz ?_
        have I2 : Inv X pins σ H1 { s1 with heap := h' } := I1.kept (t' := s1.toks) hk
        exact ⟨s1.heap.objs.size + 4, [s1.heap.objs.size + 4, s1.heap.objs.size + 2, s1.heap.objs.size + 3, s1.heap.objs.size, s1.heap.objs.size + 1], _, _, H1, rfl, I2, turn_zL (zs := zs) (t := t) (zsep p2.lt) (Nat.ne_of_lt (Nat.lt_succ_of_lt p2.lt)), ⟨hz, hTI, ⟨_, _, hTO⟩, iter_chars zs t _ _ h1, ⟨_, h2, rfl, rfl⟩⟩, fresh5, q⟩
      · obtain ⟨its2, rv2, p2, _⟩ := I1.tuple hqy
        have hlt : b < s1.heap.objs.size := let ⟨_, ho, _⟩ := p2; Heap.lt_size ho
        refine zip_begins2 (begins_text zs t) (begins_tuple b its2.toArray) trivial p2 fun h' hz hTI hTO h1 h2 hsz hk => wpAny_pyIter_zip hz ?_
        have I2 : Inv X pins σ H1 { s1 with heap := h' } := I1.kept (t' := s1.toks) hk
        exact ⟨s1.heap.objs.size + 4, [s1.heap.objs.size + 4, s1.heap.objs.size + 2, s1.heap.objs.size + 3, s1.heap.objs.size, s1.heap.objs.size + 1], _, _, H1, rfl, I2, turn_zT (zs := zs) (t := t) (zsep hlt) (Nat.ne_of_lt (Nat.lt_succ_of_lt hlt)), ⟨hz, hTI, ⟨_, _, hTO⟩, iter_chars zs t _ _ h1, ⟨_, h2, rfl, rfl⟩⟩, fresh5, q⟩
def zipSrcS : IV → IV → Option Src
  | .str z, .lst ys => some (.vs (zipI (charsI z) ys))
  | .str z, .tup ys => some (.vs (zipI (charsI z) ys))
  | _, _ => none
def zZipS (a b : Ed) : Zd := fun en τ S => (a en τ S).bind fun u S => (b en τ S).bind fun v S => okS (zipSrcS u v) S
theorem chars_get {z : Str} {i : Nat} {v : IV} (h : (charsI z)[i]? = some v) : ∃ c, z.cps[i]? = some c ∧ v = .str ⟨#[c]⟩ := by
  unfold charsI at h
  rw [List.getElem?_map, Array.getElem?_toList] at h
  cases e : z.cps[i]? with
  | none => rw [e] at h; cases h
  | some c => rw [e] at h; cases h; exact ⟨c, rfl, rfl⟩
theorem chars_len (z : Str) : (charsI z).length = z.cps.size := by simp [charsI]
section
variable {X : Cx} {K : PySem.W.Frag} {ρ : List Addr} {H : Hp} {S : SH} {en : En} {W : WX} {pos : Pos} {tg : Expr}
theorem i_zipS {a b : Expr} {p tpos : Pos} {elts : List Expr} {kk : Nat} {da db : Ed} (hg : Gl X "zip") (hm : X.mg "zip" = none) (hs : notStar a = true) (hs2 : notStar b = true) (ha : PE X a (tE X.K en W da)) (hb : PE X b (tE X.K en W db)) :
    PI X (.Tuple elts kk tpos) (.Call (.Name "zip" p) [a, b] [] pos) (tZ X.K en W (zZipS da db)) := by
  refine (pi_zipS hg hm (a_cons hs ha (args1 hs2 hb)) (star_cons hs) (star_any (by simp [hs2]))).jimp fun σ H R ⟨ρ, S, τ, hr, sr, h⟩ => ⟨ρ, S, τ, hr, sr, ?_⟩
  refine bind2 h fun ρ1 H1 S1 u v x y hr1 e1 r1 r2 h1 => ?_
  cases es : zipSrcS u v with
  | none => rw [es] at h1; exact h1.elim
  | some src =>
    rw [es] at h1
    unfold zipSrcS at es
    split at es
    · rename_i z ys
      cases es
      simp only [VR] at r1 r2
      subst r1
      obtain ⟨b, ws, rfl, q2, rr2⟩ := r2
      refine ⟨z, b, ws, rfl, .inl ⟨.inl q2.rd, h1 ρ1 H1 _ hr1 (Ext.refl _ _) fun ρ' H' S' hr' e' i o eo => ?_⟩⟩
      have k2 : SqL X.K H' b ws := .inl (q2.tr e'.tr).rd
      simp only [Src.get] at eo
      cases eo
      cases ei : (zipI (charsI z) ys)[i]? with
      | none =>
        refine ⟨ws, k2, ?_⟩
        rw [← VRs.length rr2, ← chars_len z]
        exact zip_none ei
      | some v =>
        obtain ⟨p, q, ep, eq, rfl⟩ := zip_some ei
        obtain ⟨c, ec, rfl⟩ := chars_get ep
        obtain ⟨y2, ey2, ry2⟩ := (VRs.ext e' rr2).get eq
        refine ⟨⟨ws, c, y2, k2, ec, ey2⟩, fun z2 H2 hz => ?_⟩
        obtain ⟨T, w1, w2, rfl, hT, rfl, hz1, hz2⟩ := hz
        have t2 := hz2 ws k2
        rw [ey2] at t2
        rw [ec] at hz1
        cases hz1
        cases t2
        obtain ⟨h1, h2, h3⟩ := new_tup (us := [.str ⟨#[c]⟩, q]) (xs := [.str ⟨#[c]⟩, y2]) hr' (by simp only [VRs, VR]; exact ⟨_, _, rfl, rfl, _, _, rfl, ry2, rfl⟩) hT
        exact ⟨ρ', h1, h2, h3⟩
    · rename_i z ys
      cases es
      simp only [VR] at r1 r2
      subst r1
      obtain ⟨b, ws, rfl, q2, rr2⟩ := r2
      refine ⟨z, b, ws, rfl, .inr ⟨SqT.of q2.2, h1 ρ1 H1 _ hr1 (Ext.refl _ _) fun ρ' H' S' hr' e' i o eo => ?_⟩⟩
      have k2 : SqT X.K H' b ws := SqT.of (e'.rd q2).2
      simp only [Src.get] at eo
      cases eo
      cases ei : (zipI (charsI z) ys)[i]? with
      | none =>
        refine ⟨ws, k2, ?_⟩
        rw [← VRs.length rr2, ← chars_len z]
        exact zip_none ei
      | some v =>
        obtain ⟨p, q, ep, eq, rfl⟩ := zip_some ei
        obtain ⟨c, ec, rfl⟩ := chars_get ep
        obtain ⟨y2, ey2, ry2⟩ := (VRs.ext e' rr2).get eq
        refine ⟨⟨ws, c, y2, k2, ec, ey2⟩, fun z2 H2 hz => ?_⟩
        obtain ⟨T, w1, w2, rfl, hT, rfl, hz1, hz2⟩ := hz
        have t2 := hz2 ws k2
        rw [ey2] at t2
        rw [ec] at hz1
        cases hz1
        cases t2
        obtain ⟨h1, h2, h3⟩ := new_tup (us := [.str ⟨#[c]⟩, q]) (xs := [.str ⟨#[c]⟩, y2]) hr' (by simp only [VRs, VR]; exact ⟨_, _, rfl, rfl, _, _, rfl, ry2, rfl⟩) hT
        exact ⟨ρ', h1, h2, h3⟩
    · cases es
end
end JF
set_option maxHeartbeats 0
namespace HT
open PySem PySem.Spec PyProof.Rows L2
abbrev PP : Program := PySem.Challenge.pw_joinedfolk_k61_refusals_apart
def top (i : Nat) : Stmt := PP.main.body.getD i (.Pass ⟨0, 0, 0, 0⟩)
def dd (a : Str × Option Str) (q : Str) (n : Str) (s : Stmt) (d : List He.Dv := []) (k : List (Str × He.Dv) := []) : He.DefD := ⟨a, n, q, defArgs s, defBody s, defScope s, d, k⟩
def fn_0 : List He.DefD := [dd ("_wall", none) "_wall" "_wall" (top 0),
  dd ("NoOne", some "__init__") "NoOne.__init__" "__init__" (inClass (top 3) 0) [] [],
  dd ("Taken", some "__init__") "Taken.__init__" "__init__" (inClass (top 4) 0) [] [],
  dd ("BadJournal", some "__init__") "BadJournal.__init__" "__init__" (inClass (top 5) 0) [] [],
  dd ("is_word", none) "is_word" "is_word" (top 16),
  dd ("is_kind", none) "is_kind" "is_kind" (top 17),
  dd ("is_name", none) "is_name" "is_name" (top 18),
  dd ("need_word", none) "need_word" "need_word" (top 19),
  dd ("need_name", none) "need_name" "need_name" (top 20),
  dd ("with_number", none) "with_number" "with_number" (top 21),
  dd ("is_whole", none) "is_whole" "is_whole" (top 25),
  dd ("Roof", some "__init__") "Roof.__init__" "__init__" (inClass (top 26) 0) [] [],
  dd ("Roof", some "__eq__") "Roof.__eq__" "__eq__" (inClass (top 26) 1) [] [],
  dd ("Roof", some "state") "Roof.state" "state" (inClass (top 26) 2) [] [],
  dd ("Roof", some "begin") "Roof.begin" "begin" (inClass (top 26) 3) [] [],
  dd ("Roof", some "need_house") "Roof.need_house" "need_house" (inClass (top 26) 4) [] [],
  dd ("Roof", some "need_two") "Roof.need_two" "need_two" (inClass (top 26) 5) [] [],
  dd ("Roof", some "need_one") "Roof.need_one" "need_one" (inClass (top 26) 6) [] [],
  dd ("Roof", some "need_group") "Roof.need_group" "need_group" (inClass (top 26) 7) [] [],
  dd ("Roof", some "one_of") "Roof.one_of" "one_of" (inClass (top 26) 8) [] [],
  dd ("Roof", some "need_free") "Roof.need_free" "need_free" (inClass (top 26) 9) [] [],
  dd ("Roof", some "new_span") "Roof.new_span" "new_span" (inClass (top 26) 10) [] [],
  dd ("Roof", some "found") "Roof.found" "found" (inClass (top 26) 11) [] [],
  dd ("Roof", some "come") "Roof.come" "come" (inClass (top 26) 12) [] [],
  dd ("Roof", some "go") "Roof.go" "go" (inClass (top 26) 13) [] [],
  dd ("Roof", some "put_in") "Roof.put_in" "put_in" (inClass (top 26) 14) [] [],
  dd ("Roof", some "take_out") "Roof.take_out" "take_out" (inClass (top 26) 15) [] [],
  dd ("Roof", some "call") "Roof.call" "call" (inClass (top 26) 16) [] [],
  dd ("Roof", some "move") "Roof.move" "move" (inClass (top 26) 17) [] [("word", .non)],
  dd ("Roof", some "free_word") "Roof.free_word" "free_word" (inClass (top 26) 18) [] []]
def fn_1 : List He.DefD := [dd ("Roof", some "merge") "Roof.merge" "merge" (inClass (top 26) 19) [] [],
  dd ("Roof", some "trust") "Roof.trust" "trust" (inClass (top 26) 20) [] [],
  dd ("Roof", some "mistrust") "Roof.mistrust" "mistrust" (inClass (top 26) 21) [] [],
  dd ("Roof", some "take_back") "Roof.take_back" "take_back" (inClass (top 26) 22) [] [],
  dd ("Roof", some "time") "Roof.time" "time" (inClass (top 26) 23) [] [],
  dd ("Roof", some "all_deeds") "Roof.all_deeds" "all_deeds" (inClass (top 26) 24) [] [],
  dd ("Roof", some "houses") "Roof.houses" "houses" (inClass (top 26) 25) [] [],
  dd ("Roof", some "ranges") "Roof.ranges" "ranges" (inClass (top 26) 26) [] [],
  dd ("Roof", some "everyone") "Roof.everyone" "everyone" (inClass (top 26) 27) [] [],
  dd ("Roof", some "all_numbers") "Roof.all_numbers" "all_numbers" (inClass (top 26) 28) [] [],
  dd ("Roof", some "is_group") "Roof.is_group" "is_group" (inClass (top 26) 29) [] [],
  dd ("Roof", some "name") "Roof.name" "name" (inClass (top 26) 30) [] [],
  dd ("Roof", some "number") "Roof.number" "number" (inClass (top 26) 31) [] [],
  dd ("Roof", some "members") "Roof.members" "members" (inClass (top 26) 32) [] [],
  dd ("Roof", some "trusted") "Roof.trusted" "trusted" (inClass (top 26) 33) [] [],
  dd ("Roof", some "counts") "Roof.counts" "counts" (inClass (top 26) 34) [] [],
  dd ("next_groups", none) "next_groups" "next_groups" (top 28),
  dd ("closed", none) "closed" "closed" (top 29),
  dd ("is_rule", none) "is_rule" "is_rule" (top 33),
  dd ("need_rules", none) "need_rules" "need_rules" (top 34),
  dd ("place", none) "place" "place" (top 35),
  dd ("lets", none) "lets" "lets" (top 36),
  dd ("about_of", none) "about_of" "about_of" (top 37),
  dd ("all_lets", none) "all_lets" "all_lets" (top 38),
  dd ("needless", none) "needless" "needless" (top 39),
  dd ("is_part", none) "is_part" "is_part" (top 42),
  dd ("is_row", none) "is_row" "is_row" (top 43),
  dd ("do_more", none) "do_more" "do_more" (top 44),
  dd ("do", none) "do" "do" (top 45),
  dd ("played", none) "played" "played" (top 46)]
def fn_2 : List He.DefD := [dd ("need_time", none) "need_time" "need_time" (top 47),
  dd ("as_of", none) "as_of" "as_of" (top 48),
  dd ("part_of", none) "part_of" "part_of" (top 50),
  dd ("row_of", none) "row_of" "row_of" (top 51),
  dd ("read_journal", none) "read_journal" "read_journal" (top 52),
  dd ("_law_cell", none) "_law_cell" "_law_cell" (top 54),
  dd ("_law_drawn", none) "_law_drawn" "_law_drawn" (top 55),
  dd ("_law_roll", none) "_law_roll" "_law_roll" (top 56),
  dd ("_law_rounds", none) "_law_rounds" "_law_rounds" (top 57),
  dd ("_law_word", none) "_law_word" "_law_word" (top 58),
  dd ("_law_told", none) "_law_told" "_law_told" (top 59),
  dd ("_law_do", none) "_law_do" "_law_do" (top 60),
  dd ("_law_met", none) "_law_met" "_law_met" (top 61),
  dd ("_law_alone", none) "_law_alone" "_law_alone" (top 62),
  dd ("law", none) "law" "law" (top 63)]
def fn : List He.DefD := fn_0 ++ fn_1 ++ fn_2
def fa_0 : List He.Fa := [.glo "_wall",
  .glo "RoofError",
  .keep "RoofError",
  .glo "NoOne",
  .keep "NoOne",
  .glo "Taken",
  .keep "Taken",
  .glo "BadJournal",
  .keep "BadJournal",
  .glo "BadName",
  .keep "BadName",
  .glo "NoHouse",
  .keep "NoHouse",
  .glo "BadRule",
  .keep "BadRule",
  .glo "BadTime",
  .keep "BadTime",
  .glo "Nothing",
  .keep "Nothing",
  .glo "is_word",
  .glo "is_kind",
  .glo "is_name",
  .glo "need_word",
  .glo "need_name",
  .glo "with_number",
  .glo "is_whole",
  .glo "Roof",
  .keep "Roof",
  .meth "Roof" "__init__",
  .meth "Roof" "__eq__"]
def fa_1 : List He.Fa := [.meth "Roof" "state",
  .meth "Roof" "begin",
  .meth "Roof" "need_house",
  .meth "Roof" "need_two",
  .meth "Roof" "need_one",
  .meth "Roof" "need_group",
  .meth "Roof" "one_of",
  .meth "Roof" "need_free",
  .meth "Roof" "new_span",
  .meth "Roof" "found",
  .meth "Roof" "come",
  .meth "Roof" "go",
  .meth "Roof" "put_in",
  .meth "Roof" "take_out",
  .meth "Roof" "call",
  .meth "Roof" "move",
  .meth "Roof" "free_word",
  .meth "Roof" "merge",
  .meth "Roof" "trust",
  .meth "Roof" "mistrust",
  .meth "Roof" "take_back",
  .meth "Roof" "time",
  .meth "Roof" "all_deeds",
  .meth "Roof" "houses",
  .meth "Roof" "ranges",
  .meth "Roof" "everyone",
  .meth "Roof" "all_numbers",
  .meth "Roof" "is_group",
  .meth "Roof" "name",
  .meth "Roof" "number"]
def fa_2 : List He.Fa := [.meth "Roof" "members",
  .meth "Roof" "trusted",
  .meth "Roof" "counts",
  .cls "Roof",
  .mkr "Roof",
  .noat "Roof" "kinds",
  .noat "Roof" "homes",
  .noat "Roof" "inside",
  .noat "Roof" "trusts",
  .noat "Roof" "spans",
  .noat "Roof" "given",
  .noat "Roof" "next",
  .noat "Roof" "deeds",
  .noat "Roof" "past",
  .glo "next_groups",
  .glo "closed",
  .glo "is_rule",
  .glo "need_rules",
  .glo "place",
  .glo "lets",
  .glo "about_of",
  .glo "all_lets",
  .glo "needless",
  .glo "is_part",
  .glo "is_row",
  .glo "do_more",
  .glo "do",
  .glo "played",
  .glo "need_time",
  .glo "as_of"]
def fa_3 : List He.Fa := [.glo "part_of",
  .glo "row_of",
  .glo "read_journal",
  .glo "_law_cell",
  .glo "_law_drawn",
  .glo "_law_roll",
  .glo "_law_rounds",
  .glo "_law_word",
  .glo "_law_told",
  .glo "_law_do",
  .glo "_law_met",
  .glo "_law_alone",
  .glo "law",
  .exc "BadName",
  .exc "NoHouse",
  .exc "BadRule",
  .exc "BadTime",
  .exc "Nothing",
  .free "isinstance",
  .free "len",
  .free "all",
  .free "list",
  .free "tuple",
  .free "dict",
  .free "set",
  .free "sorted",
  .free "str",
  .free "int",
  .free "sum",
  .free "min"]
def fa_4 : List He.Fa := [.free "max",
  .free "range",
  .free "enumerate",
  .free "zip",
  .free "bool",
  .free "ValueError",
  .str "SIGNS" "abcdefghijklmnopqrstuvwxyz0123456789",
  .int "LONGEST" 8,
  .str "ONE" "one",
  .str "GROUP" "group",
  .int "FIRST" 100,
  .int "WIDTH" 100,
  .str "LET" "let",
  .str "BAR" "bar",
  .glo "SIZES"]
def fa : List He.Fa := fa_0 ++ fa_1 ++ fa_2 ++ fa_3 ++ fa_4
def loose_0 : List PySem.Str := ["_wall",
  "RoofError",
  "NoOne",
  "Taken",
  "BadJournal",
  "BadName",
  "NoHouse",
  "BadRule",
  "BadTime",
  "Nothing",
  "SIGNS",
  "LONGEST",
  "ONE",
  "GROUP",
  "is_word",
  "is_kind",
  "is_name",
  "need_word",
  "need_name",
  "with_number",
  "FIRST",
  "WIDTH",
  "is_whole",
  "Roof",
  "next_groups",
  "closed",
  "LET",
  "BAR",
  "is_rule",
  "need_rules"]
def loose_1 : List PySem.Str := ["place",
  "lets",
  "about_of",
  "all_lets",
  "needless",
  "SIZES",
  "is_part",
  "is_row",
  "do_more",
  "do",
  "played",
  "need_time",
  "as_of",
  "part_of",
  "row_of",
  "read_journal",
  "_law_cell",
  "_law_drawn",
  "_law_roll",
  "_law_rounds",
  "_law_word",
  "_law_told",
  "_law_do",
  "_law_met",
  "_law_alone"]
def loose : List PySem.Str := loose_0 ++ loose_1
def tf : List He.Defn := [("_law_do", none), ("law", none)]
def ts : List He.Tab := [(fun K => He.ga K "SIZES", ["found", "come", "go", "put_in", "take_out", "call", "move", "merge", "trust", "mistrust"])]
abbrev R : PySem.W.OpenRow := PySem.W.OpenLaw.row PySem.Challenge.rw_joinedfolk_k61_refusals_apart
def qv : Program := PySem.W.view R.prog [63]
def ex (K : PySem.W.Frag) : Bool := JF.exKB K && (JF.exFB K && (JF.tabsApart K && (JF.roofErrB K && ((JF.exFld.all fun x => JF.fldB K x) && JF.szB K))))
abbrev hk : PySem.W.Hook := JF.hookY 4 fa fn ts tf ex
def ob (s : PySem.W.SharedT) : He.AlX := JF.obsY 4 fa fn ts tf ex (HandSHeadRun.getT s)
theorem ob_eq (s : PySem.W.SharedT) : ob s = hk.obs s.abs := JF.obsY_eq (HandSHeadRun.getT_eq s)
theorem runF (w : World) : HandSHeadRun.RunEq R qv hk ob 20000 loose (w.withFollow "special-get-raises" false) := by
  intro os
  kernel_rfl
theorem runT (w : World) : HandSHeadRun.RunEq R qv hk ob 20000 loose (w.withFollow "special-get-raises" true) := by
  intro os
  kernel_rfl
theorem run (w : World) : HandSHeadRun.RunEq R qv hk ob 20000 loose w := PySem.W.byRow2 "special-get-raises" runF runT w
end HT
set_option maxHeartbeats 0
namespace WK
open PySem PySem.Spec PyProof.Rows L2 HotX JF HT
structure Fx (K : PySem.W.Frag) (mg : Str → Option Value) : Prop where
  f_ValueError : mg "ValueError" = none
  f_all : mg "all" = none
  f_bool : mg "bool" = none
  f_dict : mg "dict" = none
  f_enumerate : mg "enumerate" = none
  f_int : mg "int" = none
  f_isinstance : mg "isinstance" = none
  f_len : mg "len" = none
  f_list : mg "list" = none
  f_max : mg "max" = none
  f_min : mg "min" = none
  f_range : mg "range" = none
  f_set : mg "set" = none
  f_sorted : mg "sorted" = none
  f_str : mg "str" = none
  f_sum : mg "sum" = none
  f_tuple : mg "tuple" = none
  f_zip : mg "zip" = none
  i_LONGEST : ∃ t, mg "LONGEST" = some (.int 8 t)
  i_FIRST : ∃ t, mg "FIRST" = some (.int 100 t)
  i_WIDTH : ∃ t, mg "WIDTH" = some (.int 100 t)
  s_SIGNS : ∃ t, mg "SIGNS" = some (.str "abcdefghijklmnopqrstuvwxyz0123456789" t)
  s_ONE : ∃ t, mg "ONE" = some (.str "one" t)
  s_GROUP : ∃ t, mg "GROUP" = some (.str "group" t)
  s_LET : ∃ t, mg "LET" = some (.str "let" t)
  s_BAR : ∃ t, mg "BAR" = some (.str "bar" t)
  g_RoofError : mg "RoofError" = some (.ref (He.ga K "RoofError"))
  g_NoOne : mg "NoOne" = some (.ref (He.ga K "NoOne"))
  g_Taken : mg "Taken" = some (.ref (He.ga K "Taken"))
  g_BadJournal : mg "BadJournal" = some (.ref (He.ga K "BadJournal"))
  g_BadName : mg "BadName" = some (.ref (He.ga K "BadName"))
  g_NoHouse : mg "NoHouse" = some (.ref (He.ga K "NoHouse"))
  g_BadRule : mg "BadRule" = some (.ref (He.ga K "BadRule"))
  g_BadTime : mg "BadTime" = some (.ref (He.ga K "BadTime"))
  g_Nothing : mg "Nothing" = some (.ref (He.ga K "Nothing"))
  g_Roof : mg "Roof" = some (.ref (He.ga K "Roof"))
  e_BadName : PySem.W.excIn K (He.ga K "BadName") He.veBase "ValueError.__new__" = true ∧ PySem.W.keepIn K (.ref (He.ga K "BadName")) = true ∧ PySem.W.subIn K (.ref (He.ga K "BadName")) (.type "BaseException") = some true ∧ PySem.W.typeIn K (.ref (He.ga K "BadName")) = some (.type "type")
  e_NoHouse : PySem.W.excIn K (He.ga K "NoHouse") He.veBase "ValueError.__new__" = true ∧ PySem.W.keepIn K (.ref (He.ga K "NoHouse")) = true ∧ PySem.W.subIn K (.ref (He.ga K "NoHouse")) (.type "BaseException") = some true ∧ PySem.W.typeIn K (.ref (He.ga K "NoHouse")) = some (.type "type")
  e_BadRule : PySem.W.excIn K (He.ga K "BadRule") He.veBase "ValueError.__new__" = true ∧ PySem.W.keepIn K (.ref (He.ga K "BadRule")) = true ∧ PySem.W.subIn K (.ref (He.ga K "BadRule")) (.type "BaseException") = some true ∧ PySem.W.typeIn K (.ref (He.ga K "BadRule")) = some (.type "type")
  e_BadTime : PySem.W.excIn K (He.ga K "BadTime") He.veBase "ValueError.__new__" = true ∧ PySem.W.keepIn K (.ref (He.ga K "BadTime")) = true ∧ PySem.W.subIn K (.ref (He.ga K "BadTime")) (.type "BaseException") = some true ∧ PySem.W.typeIn K (.ref (He.ga K "BadTime")) = some (.type "type")
  e_Nothing : PySem.W.excIn K (He.ga K "Nothing") He.veBase "ValueError.__new__" = true ∧ PySem.W.keepIn K (.ref (He.ga K "Nothing")) = true ∧ PySem.W.subIn K (.ref (He.ga K "Nothing")) (.type "BaseException") = some true ∧ PySem.W.typeIn K (.ref (He.ga K "Nothing")) = some (.type "type")
  cls : Cls K (He.ga K "Roof")
  n_kinds : NoAttr K (He.ga K "Roof") "kinds"
  n_homes : NoAttr K (He.ga K "Roof") "homes"
  n_inside : NoAttr K (He.ga K "Roof") "inside"
  n_trusts : NoAttr K (He.ga K "Roof") "trusts"
  n_spans : NoAttr K (He.ga K "Roof") "spans"
  n_given : NoAttr K (He.ga K "Roof") "given"
  n_next : NoAttr K (He.ga K "Roof") "next"
  n_deeds : NoAttr K (He.ga K "Roof") "deeds"
  n_past : NoAttr K (He.ga K "Roof") "past"
  k_told : PySem.W.keepIn K (.ref (He.fAd K ("_law_told", none))) = true
  rf : RoofErr K
  fl : ∀ x ∈ exFld, FldC K x
  k_met : PySem.W.keepIn K (.ref (He.fAd K ("_law_met", none))) = true
  g_SIZES : mg "SIZES" = some (.ref (He.ga K "SIZES"))
theorem fx_of {w : World} {K : PySem.W.Frag} {h : Heap} {mg : Str → Option Value} (X : K.In h) (G : h.Ns mainGlobals mg) (c : He.SaysX fa fn ts tf ex w h K) (r : RoofErr K ∧ (exFld.all fun x => fldB K x) = true) : Fx K mg where
  f_ValueError := He.free_ok X G (c.t.d.fact 125 (f := .free "ValueError") rfl)
  f_all := He.free_ok X G (c.t.d.fact 110 (f := .free "all") rfl)
  f_bool := He.free_ok X G (c.t.d.fact 124 (f := .free "bool") rfl)
  f_dict := He.free_ok X G (c.t.d.fact 113 (f := .free "dict") rfl)
  f_enumerate := He.free_ok X G (c.t.d.fact 122 (f := .free "enumerate") rfl)
  f_int := He.free_ok X G (c.t.d.fact 117 (f := .free "int") rfl)
  f_isinstance := He.free_ok X G (c.t.d.fact 108 (f := .free "isinstance") rfl)
  f_len := He.free_ok X G (c.t.d.fact 109 (f := .free "len") rfl)
  f_list := He.free_ok X G (c.t.d.fact 111 (f := .free "list") rfl)
  f_max := He.free_ok X G (c.t.d.fact 120 (f := .free "max") rfl)
  f_min := He.free_ok X G (c.t.d.fact 119 (f := .free "min") rfl)
  f_range := He.free_ok X G (c.t.d.fact 121 (f := .free "range") rfl)
  f_set := He.free_ok X G (c.t.d.fact 114 (f := .free "set") rfl)
  f_sorted := He.free_ok X G (c.t.d.fact 115 (f := .free "sorted") rfl)
  f_str := He.free_ok X G (c.t.d.fact 116 (f := .free "str") rfl)
  f_sum := He.free_ok X G (c.t.d.fact 118 (f := .free "sum") rfl)
  f_tuple := He.free_ok X G (c.t.d.fact 112 (f := .free "tuple") rfl)
  f_zip := He.free_ok X G (c.t.d.fact 123 (f := .free "zip") rfl)
  i_LONGEST := He.int_ok X G (c.t.d.fact 127 (f := .int "LONGEST" 8) rfl)
  i_FIRST := He.int_ok X G (c.t.d.fact 130 (f := .int "FIRST" 100) rfl)
  i_WIDTH := He.int_ok X G (c.t.d.fact 131 (f := .int "WIDTH" 100) rfl)
  s_SIGNS := He.str_ok X G (c.t.d.fact 126 (f := .str "SIGNS" "abcdefghijklmnopqrstuvwxyz0123456789") rfl)
  s_ONE := He.str_ok X G (c.t.d.fact 128 (f := .str "ONE" "one") rfl)
  s_GROUP := He.str_ok X G (c.t.d.fact 129 (f := .str "GROUP" "group") rfl)
  s_LET := He.str_ok X G (c.t.d.fact 132 (f := .str "LET" "let") rfl)
  s_BAR := He.str_ok X G (c.t.d.fact 133 (f := .str "BAR" "bar") rfl)
  g_RoofError := He.glo_ok X G (c.t.d.fact 1 (f := .glo "RoofError") rfl)
  g_NoOne := He.glo_ok X G (c.t.d.fact 3 (f := .glo "NoOne") rfl)
  g_Taken := He.glo_ok X G (c.t.d.fact 5 (f := .glo "Taken") rfl)
  g_BadJournal := He.glo_ok X G (c.t.d.fact 7 (f := .glo "BadJournal") rfl)
  g_BadName := He.glo_ok X G (c.t.d.fact 9 (f := .glo "BadName") rfl)
  g_NoHouse := He.glo_ok X G (c.t.d.fact 11 (f := .glo "NoHouse") rfl)
  g_BadRule := He.glo_ok X G (c.t.d.fact 13 (f := .glo "BadRule") rfl)
  g_BadTime := He.glo_ok X G (c.t.d.fact 15 (f := .glo "BadTime") rfl)
  g_Nothing := He.glo_ok X G (c.t.d.fact 17 (f := .glo "Nothing") rfl)
  g_Roof := He.glo_ok X G (c.t.d.fact 26 (f := .glo "Roof") rfl)
  e_BadName := He.exc_ok (c.t.d.fact 103 (f := .exc "BadName") rfl)
  e_NoHouse := He.exc_ok (c.t.d.fact 104 (f := .exc "NoHouse") rfl)
  e_BadRule := He.exc_ok (c.t.d.fact 105 (f := .exc "BadRule") rfl)
  e_BadTime := He.exc_ok (c.t.d.fact 106 (f := .exc "BadTime") rfl)
  e_Nothing := He.exc_ok (c.t.d.fact 107 (f := .exc "Nothing") rfl)
  cls := He.cls_ok (c.t.d.fact 63 (f := .cls "Roof") rfl)
  n_kinds := He.noat_ok (c.t.d.fact 65 (f := .noat "Roof" "kinds") rfl)
  n_homes := He.noat_ok (c.t.d.fact 66 (f := .noat "Roof" "homes") rfl)
  n_inside := He.noat_ok (c.t.d.fact 67 (f := .noat "Roof" "inside") rfl)
  n_trusts := He.noat_ok (c.t.d.fact 68 (f := .noat "Roof" "trusts") rfl)
  n_spans := He.noat_ok (c.t.d.fact 69 (f := .noat "Roof" "spans") rfl)
  n_given := He.noat_ok (c.t.d.fact 70 (f := .noat "Roof" "given") rfl)
  n_next := He.noat_ok (c.t.d.fact 71 (f := .noat "Roof" "next") rfl)
  n_deeds := He.noat_ok (c.t.d.fact 72 (f := .noat "Roof" "deeds") rfl)
  n_past := He.noat_ok (c.t.d.fact 73 (f := .noat "Roof" "past") rfl)
  k_told := (c.t.d.def_ 70 (d := dd ("_law_told", none) "_law_told" "_law_told" (top 59)) rfl).choose_spec.kp
  rf := r.1
  fl := fun x hx => fldB_ok (List.all_eq_true.mp r.2 x hx)
  k_met := (c.t.d.def_ 72 (d := dd ("_law_met", none) "_law_met" "_law_met" (top 61)) rfl).choose_spec.kp
  g_SIZES := He.glo_ok X G (c.t.d.fact 134 (f := .glo "SIZES") rfl)
def d_wall : Sd := dWhile (dTst (dCst (.bl true))) (dNx)
def d_is_word : Sd := dRet (dAndV (dCall (isiF "str") (dCons (dVar 0) dNil)) (dAndV (dTv (dChain leF leF (dCst (.int 1)) (dCall lenF (dCons (dVar 0) (dNil))) (dCst (.int 8)))) (dCall allF (dCons (dLc false (zSeq (dVar 0)) (.nm 1) (dYes) (dBin inF (dVar 1) (dCst (.str "abcdefghijklmnopqrstuvwxyz0123456789"))) [1]) (dNil)))))
def d_is_kind : Sd := dRet (dAndV (dCall (isiF "str") (dCons (dVar 0) dNil)) (dBin inF (dVar 0) (dTup (dCons (dCst (.str "one")) (dCons (dCst (.str "group")) (dNil))))))
def d_is_name : Sd := dSeq (dIfS (dOr (dNot (dTst (dCall (isiF "tuple") (dCons (dVar 0) dNil)))) (dTst (dBin neF (dCall lenF (dCons (dVar 0) (dNil))) (dCst (.int 3))))) (dRet (dCst (.bl false))) (dNx)) (dRet (dAndV (dFn 2 1 (dCons (dBin idxF (dVar 0) (dCst (.int 0))) (dNil))) (dAndV (dFn 1 1 (dCons (dBin idxF (dVar 0) (dCst (.int 1))) (dNil))) (dFn 1 1 (dCons (dBin idxF (dVar 0) (dCst (.int 2))) (dNil))))))
def d_need_word : Sd := dIfS (dNot (dTst (dFn 1 1 (dCons (dVar 0) (dNil))))) (dRaise "BadName") (dNx)
def d_need_name : Sd := dIfS (dNot (dTst (dFn 3 1 (dCons (dVar 0) (dNil))))) (dRaise "BadName") (dNx)
def d_with_number : Sd := dSeq (dSet 2 (dCall strF (dCons (dVar 1) (dNil)))) (dRet (dBin (addF false) (dSl false (dVar 0) (pNo) (pYes (dBin subF (dCst (.int 8)) (dCall lenF (dCons (dVar 2) (dNil)))))) (dVar 2)))
def d_is_whole : Sd := dRet (dAndV (dCall (isiF "int") (dCons (dVar 0) dNil)) (dNotV (dCall (isiF "bool") (dCons (dVar 0) dNil))))
def d_Roof_init : Sd := dSeq (dSetF "kinds" (dVar 0) (dNewD false)) (dSeq (dSetF "homes" (dVar 0) (dNewD false)) (dSeq (dSetF "inside" (dVar 0) (dNewD false)) (dSeq (dSetF "trusts" (dVar 0) (dNewD false)) (dSeq (dSetF "spans" (dVar 0) (dNewD false)) (dSeq (dSetF "given" (dVar 0) (dNewD false)) (dSeq (dSetF "next" (dVar 0) (dCst (.int 100))) (dSeq (dSetF "deeds" (dVar 0) (dLst true (dNil))) (dSetF "past" (dVar 0) (dLst true (dNil))))))))))
def d_Roof_eq : Sd := dRet (dAndV (dBadE) (dBin eqF (dMe 10 1 "state" (dVar 0) dNil) (dMe 10 1 "state" (dVar 1) dNil)))
def d_Roof_state : Sd := dSeq (dSet 1 (dTup (dCons (dCall dictF (dCons (dUn (fldF "kinds") (dVar 0)) (dNil))) (dCons (dCall dictF (dCons (dUn (fldF "homes") (dVar 0)) (dNil))) (dCons (dLkE (dUn (fldF "inside") (dVar 0)) (dDc (zKey (dUn (fldF "inside") (dVar 0))) (.nm 4) (dYes) (dVar 4) (dCall (listF false) (dCons (dBin idxF (dUn (fldF "inside") (dVar 0)) (dVar 4)) (dNil))) [4])) (dNil)))))) (dSeq (dLk (dUn (fldF "trusts") (dVar 0)) (dSet 2 (dDc (zKey (dUn (fldF "trusts") (dVar 0))) (.nm 4) (dYes) (dVar 4) (dCall (listF false) (dCons (dBin idxF (dUn (fldF "trusts") (dVar 0)) (dVar 4)) (dNil))) [4]))) (dSeq (dLk (dUn (fldF "spans") (dVar 0)) (dSet 3 (dDc (zKey (dUn (fldF "spans") (dVar 0))) (.nm 4) (dYes) (dVar 4) (dCall (listF false) (dCons (dBin idxF (dUn (fldF "spans") (dVar 0)) (dVar 4)) (dNil))) [4]))) (dRet (dBin (addF false) (dVar 1) (dTup (dCons (dVar 2) (dCons (dVar 3) (dCons (dCall dictF (dCons (dUn (fldF "given") (dVar 0)) (dNil))) (dCons (dUn (fldF "next") (dVar 0)) (dNil))))))))))
def d_Roof_begin : Sd := dSeq (dExp (dMt tyL appendF (dUn (fldF "past") (dVar 0)) (dCons (dMe 10 1 "state" (dVar 0) dNil) (dNil)))) (dExp (dMt tyL appendF (dUn (fldF "deeds") (dVar 0)) (dCons (dVar 1) (dNil))))
def d_Roof_need_house : Sd := dIfS (dOr (dNot (dTst (dCall (isiF "str") (dCons (dVar 1) dNil)))) (dTst (dBin notInF (dVar 1) (dUn (fldF "spans") (dVar 0))))) (dRaise "NoHouse") (dNx)
def d_Roof_need_two : Sd := dSeq (dExp (dMe 12 2 "need_house" (dVar 0) (dCons (dVar 1) (dNil)))) (dSeq (dExp (dMe 12 2 "need_house" (dVar 0) (dCons (dVar 2) (dNil)))) (dIfS (dTst (dBin eqF (dVar 1) (dVar 2))) (dRaise "NoHouse") (dNx)))
def d_Roof_need_one : Sd := dIfS (dOr (dNot (dTst (dFn 7 1 (dCons (dVar 1) (dNil))))) (dTst (dBin notInF (dVar 1) (dUn (fldF "kinds") (dVar 0))))) (dRaiseF "NoOne" (dVar 1)) (dNx)
def d_Roof_need_group : Sd := dSeq (dExp (dMe 14 2 "need_one" (dVar 0) (dCons (dVar 1) (dNil)))) (dIfS (dTst (dBin neF (dBin idxF (dUn (fldF "kinds") (dVar 0)) (dVar 1)) (dCst (.str "group")))) (dRaiseF "NoOne" (dVar 1)) (dNx))
def d_Roof_one_of : Sd := dSeq (dLk (dUn (fldF "kinds") (dVar 0)) (dSet 2 (dLc false (zKey (dUn (fldF "kinds") (dVar 0))) (.nm 3) (dTst (dBin eqF (dBin (addF false) (dTup (dCons (dBin idxF (dUn (fldF "kinds") (dVar 0)) (dVar 3)) (dNil))) (dBin idxF (dUn (fldF "homes") (dVar 0)) (dVar 3))) (dVar 1))) (dVar 3) [3]))) (dRet (dIf (dTst (dBin neF (dVar 2) (dLst false (dNil)))) (dBin idxF (dVar 2) (dCst (.int 0))) (dCst .non)))
def d_Roof_need_free : Sd := dIfS (dTst (dBin isNotF (dMe 16 2 "one_of" (dVar 0) (dCons (dVar 1) (dNil))) (dCst .non))) (dRaiseF "Taken" (dVar 1)) (dNx)
def d_Roof_new_span : Sd := dSeq (dSetI (dUn (fldF "spans") (dVar 0)) (dVar 1) (dBin (addF false) (dBin idxF (dUn (fldF "spans") (dVar 0)) (dVar 1)) (dLst false (dCons (dUn (fldF "next") (dVar 0)) (dNil))))) (dSeq (dSetI (dUn (fldF "given") (dVar 0)) (dUn (fldF "next") (dVar 0)) (dCst (.int 0))) (dSetF "next" (dVar 0) (dBin (addF false) (dUn (fldF "next") (dVar 0)) (dCst (.int 100)))))
def d_Roof_found : Sd := dSeq (dExp (dFn 4 1 (dCons (dVar 1) (dNil)))) (dSeq (dIfS (dTst (dBin inF (dVar 1) (dUn (fldF "spans") (dVar 0)))) (dRaiseF "Taken" (dVar 1)) (dNx)) (dSeq (dExp (dMe 11 2 "begin" (dVar 0) (dCons (dTup (dCons (dCst (.str "found")) (dCons (dVar 1) (dNil)))) (dNil)))) (dSeq (dSetI (dUn (fldF "spans") (dVar 0)) (dVar 1) (dLst false (dNil))) (dSeq (dSetI (dUn (fldF "trusts") (dVar 0)) (dVar 1) (dLst false (dNil))) (dExp (dMe 18 2 "new_span" (dVar 0) (dCons (dVar 1) (dNil))))))))
def d_Roof_come : Sd := dSeq (dIfS (dNot (dTst (dFn 2 1 (dCons (dVar 1) (dNil))))) (dRaise "BadName") (dNx)) (dSeq (dExp (dFn 4 1 (dCons (dVar 2) (dNil)))) (dSeq (dExp (dMe 12 2 "need_house" (dVar 0) (dCons (dVar 3) (dNil)))) (dSeq (dExp (dMe 17 2 "need_free" (dVar 0) (dCons (dTup (dCons (dVar 1) (dCons (dVar 2) (dCons (dVar 3) (dNil))))) (dNil)))) (dSeq (dExp (dMe 11 2 "begin" (dVar 0) (dCons (dTup (dCons (dCst (.str "come")) (dCons (dVar 1) (dCons (dVar 2) (dCons (dVar 3) (dNil)))))) (dNil)))) (dSeq (dIfS (dTst (dBin eqF (dBin idxF (dUn (fldF "given") (dVar 0)) (dBin idxF (dBin idxF (dUn (fldF "spans") (dVar 0)) (dVar 3)) (dUn negF (dCst (.int 1))))) (dCst (.int 100)))) (dExp (dMe 18 2 "new_span" (dVar 0) (dCons (dVar 3) (dNil)))) (dNx)) (dSeq (dSet 4 (dBin idxF (dBin idxF (dUn (fldF "spans") (dVar 0)) (dVar 3)) (dUn negF (dCst (.int 1))))) (dSeq (dSet 5 (dBin (addF false) (dVar 4) (dBin idxF (dUn (fldF "given") (dVar 0)) (dVar 4)))) (dSeq (dSetI (dUn (fldF "given") (dVar 0)) (dVar 4) (dBin (addF false) (dBin idxF (dUn (fldF "given") (dVar 0)) (dVar 4)) (dCst (.int 1)))) (dSeq (dSetI (dUn (fldF "kinds") (dVar 0)) (dVar 5) (dVar 1)) (dSeq (dSetI (dUn (fldF "homes") (dVar 0)) (dVar 5) (dTup (dCons (dVar 2) (dCons (dVar 3) (dNil))))) (dSeq (dIfS (dTst (dBin eqF (dVar 1) (dCst (.str "group")))) (dSetI (dUn (fldF "inside") (dVar 0)) (dVar 5) (dLst false (dNil))) (dNx)) (dRet (dVar 5)))))))))))))
def d_Roof_go : Sd := dSeq (dExp (dMe 14 2 "need_one" (dVar 0) (dCons (dVar 1) (dNil)))) (dSeq (dExp (dMe 11 2 "begin" (dVar 0) (dCons (dTup (dCons (dCst (.str "go")) (dCons (dVar 1) (dNil)))) (dNil)))) (dSeq (dExp (dDpop1 (dUn (fldF "kinds") (dVar 0)) (dVar 1))) (dSeq (dExp (dDpop1 (dUn (fldF "homes") (dVar 0)) (dVar 1))) (dSetF "inside" (dVar 0) (dLkE (dUn (fldF "inside") (dVar 0)) (dDc (zKey (dUn (fldF "inside") (dVar 0))) (.nm 2) (dTst (dBin neF (dVar 2) (dVar 1))) (dVar 2) (dLc false (zSeq (dBin idxF (dUn (fldF "inside") (dVar 0)) (dVar 2))) (.nm 3) (dTst (dBin neF (dVar 3) (dVar 1))) (dVar 3) [3]) [2]))))))
def d_Roof_put_in : Sd := dSeq (dExp (dMe 14 2 "need_one" (dVar 0) (dCons (dVar 1) (dNil)))) (dSeq (dExp (dMe 15 2 "need_group" (dVar 0) (dCons (dVar 2) (dNil)))) (dSeq (dExp (dMe 11 2 "begin" (dVar 0) (dCons (dTup (dCons (dCst (.str "put_in")) (dCons (dVar 1) (dCons (dVar 2) (dNil))))) (dNil)))) (dSetI (dUn (fldF "inside") (dVar 0)) (dVar 2) (dSortG false (gOr1 (dVar 1) (gSet (dBin idxF (dUn (fldF "inside") (dVar 0)) (dVar 2))))))))
def d_Roof_take_out : Sd := dSeq (dExp (dMe 14 2 "need_one" (dVar 0) (dCons (dVar 1) (dNil)))) (dSeq (dExp (dMe 15 2 "need_group" (dVar 0) (dCons (dVar 2) (dNil)))) (dSeq (dExp (dMe 11 2 "begin" (dVar 0) (dCons (dTup (dCons (dCst (.str "take_out")) (dCons (dVar 1) (dCons (dVar 2) (dNil))))) (dNil)))) (dSetI (dUn (fldF "inside") (dVar 0)) (dVar 2) (dLc false (zSeq (dBin idxF (dUn (fldF "inside") (dVar 0)) (dVar 2))) (.nm 3) (dTst (dBin neF (dVar 3) (dVar 1))) (dVar 3) [3]))))
def d_Roof_call : Sd := dSeq (dExp (dMe 14 2 "need_one" (dVar 0) (dCons (dVar 1) (dNil)))) (dSeq (dExp (dFn 4 1 (dCons (dVar 2) (dNil)))) (dSeq (dExp (dMe 17 2 "need_free" (dVar 0) (dCons (dTup (dCons (dBin idxF (dUn (fldF "kinds") (dVar 0)) (dVar 1)) (dCons (dVar 2) (dCons (dBin idxF (dBin idxF (dUn (fldF "homes") (dVar 0)) (dVar 1)) (dCst (.int 1))) (dNil))))) (dNil)))) (dSeq (dExp (dMe 11 2 "begin" (dVar 0) (dCons (dTup (dCons (dCst (.str "call")) (dCons (dVar 1) (dCons (dVar 2) (dNil))))) (dNil)))) (dSeq (dSetI (dUn (fldF "homes") (dVar 0)) (dVar 1) (dTup (dCons (dVar 2) (dCons (dBin idxF (dBin idxF (dUn (fldF "homes") (dVar 0)) (dVar 1)) (dCst (.int 1))) (dNil))))) (dRet (dMe 38 2 "name" (dVar 0) (dCons (dVar 1) (dNil))))))))
def d_Roof_move : Sd := dSeq (dExp (dMe 14 2 "need_one" (dVar 0) (dCons (dVar 1) (dNil)))) (dSeq (dExp (dMe 12 2 "need_house" (dVar 0) (dCons (dVar 2) (dNil)))) (dSeq (dIfS (dAnd (dTst (dBin isNotF (dVar 3) (dCst .non))) (dNot (dTst (dFn 1 1 (dCons (dVar 3) (dNil)))))) (dRaise "BadName") (dNx)) (dSeq (dSet 4 (dTup (dCons (dIf (dTst (dBin isF (dVar 3) (dCst .non))) (dBin idxF (dBin idxF (dUn (fldF "homes") (dVar 0)) (dVar 1)) (dCst (.int 0))) (dVar 3)) (dCons (dVar 2) (dNil))))) (dSeq (dIfS (dTst (dBin notInF (dMe 16 2 "one_of" (dVar 0) (dCons (dBin (addF false) (dTup (dCons (dBin idxF (dUn (fldF "kinds") (dVar 0)) (dVar 1)) (dNil))) (dVar 4)) (dNil))) (dTup (dCons (dCst .non) (dCons (dVar 1) (dNil)))))) (dRaiseF "Taken" (dBin (addF false) (dTup (dCons (dBin idxF (dUn (fldF "kinds") (dVar 0)) (dVar 1)) (dNil))) (dVar 4))) (dNx)) (dSeq (dExp (dMe 11 2 "begin" (dVar 0) (dCons (dTup (dCons (dCst (.str "move")) (dCons (dVar 1) (dCons (dVar 2) (dCons (dVar 3) (dNil)))))) (dNil)))) (dSeq (dSetI (dUn (fldF "homes") (dVar 0)) (dVar 1) (dVar 4)) (dRet (dMe 38 2 "name" (dVar 0) (dCons (dVar 1) (dNil))))))))))
def d_Roof_free_word : Sd := dSeq (dPar2 4 5 (dCons (dVar 2) (dCons (dCst (.int 1)) (dNil)))) (dSeq (dWhile (dTst (dBin isNotF (dMe 16 2 "one_of" (dVar 0) (dCons (dTup (dCons (dVar 1) (dCons (dVar 4) (dCons (dVar 3) (dNil))))) (dNil))) (dCst .non))) (dSeq (dSet 5 (dBin (addF false) (dVar 5) (dCst (.int 1)))) (dSet 4 (dFn 6 2 (dCons (dVar 2) (dCons (dVar 5) (dNil))))))) (dRet (dVar 4)))
def d_Roof_merge : Sd := dSeq (dExp (dMe 13 3 "need_two" (dVar 0) (dCons (dVar 1) (dCons (dVar 2) (dNil))))) (dSeq (dExp (dMe 11 2 "begin" (dVar 0) (dCons (dTup (dCons (dCst (.str "merge")) (dCons (dVar 1) (dCons (dVar 2) (dNil))))) (dNil)))) (dSeq (dSet 3 (dLst true (dNil))) (dSeq (dFor (zSeq (dMe 35 2 "everyone" (dVar 0) (dCons (dVar 1) (dNil)))) (.nm 4) (dSeq (dSetI (dUn (fldF "homes") (dVar 0)) (dVar 4) (dTup (dCons (dMe 26 4 "free_word" (dVar 0) (dCons (dBin idxF (dUn (fldF "kinds") (dVar 0)) (dVar 4)) (dCons (dBin idxF (dBin idxF (dUn (fldF "homes") (dVar 0)) (dVar 4)) (dCst (.int 0))) (dCons (dVar 2) (dNil))))) (dCons (dVar 2) (dNil))))) (dExp (dMt tyL appendF (dVar 3) (dCons (dTup (dCons (dVar 4) (dCons (dMe 38 2 "name" (dVar 0) (dCons (dVar 4) (dNil))) (dNil)))) (dNil)))))) (dSeq (dSetI (dUn (fldF "spans") (dVar 0)) (dVar 2) (dBin (addF false) (dDpop1 (dUn (fldF "spans") (dVar 0)) (dVar 1)) (dBin idxF (dUn (fldF "spans") (dVar 0)) (dVar 2)))) (dSeq (dSet 5 (dDpop1 (dUn (fldF "trusts") (dVar 0)) (dVar 1))) (dSeq (dFor (zSeq (dCall (listF false) (dCons (dUn (fldF "trusts") (dVar 0)) (dNil)))) (.nm 6) (dSeq (dSet 7 (dLc false (zSeq (dBin (addF false) (dBin idxF (dUn (fldF "trusts") (dVar 0)) (dVar 6)) (dIf (dTst (dBin eqF (dVar 6) (dVar 2))) (dVar 5) (dLst false (dNil))))) (.nm 8) (dYes) (dIf (dTst (dBin eqF (dVar 8) (dVar 1))) (dVar 2) (dVar 8)) [8])) (dSetI (dUn (fldF "trusts") (dVar 0)) (dVar 6) (dSortG false (gSet (dLc false (zSeq (dVar 7)) (.nm 8) (dTst (dBin neF (dVar 8) (dVar 6))) (dVar 8) [8])))))) (dRet (dVar 3))))))))
def d_Roof_trust : Sd := dSeq (dExp (dMe 13 3 "need_two" (dVar 0) (dCons (dVar 1) (dCons (dVar 2) (dNil))))) (dSeq (dExp (dMe 11 2 "begin" (dVar 0) (dCons (dTup (dCons (dCst (.str "trust")) (dCons (dVar 1) (dCons (dVar 2) (dNil))))) (dNil)))) (dSetI (dUn (fldF "trusts") (dVar 0)) (dVar 1) (dSortG false (gSet (dBin (addF false) (dBin idxF (dUn (fldF "trusts") (dVar 0)) (dVar 1)) (dLst false (dCons (dVar 2) (dNil))))))))
def d_Roof_mistrust : Sd := dSeq (dExp (dMe 13 3 "need_two" (dVar 0) (dCons (dVar 1) (dCons (dVar 2) (dNil))))) (dSeq (dExp (dMe 11 2 "begin" (dVar 0) (dCons (dTup (dCons (dCst (.str "mistrust")) (dCons (dVar 1) (dCons (dVar 2) (dNil))))) (dNil)))) (dSetI (dUn (fldF "trusts") (dVar 0)) (dVar 1) (dLc false (zSeq (dBin idxF (dUn (fldF "trusts") (dVar 0)) (dVar 1))) (.nm 3) (dTst (dBin neF (dVar 3) (dVar 2))) (dVar 3) [3])))
def d_Roof_take_back : Sd := dSeq (dIfS (dTst (dBin eqF (dUn (fldF "past") (dVar 0)) (dLst false (dNil)))) (dRaise "Nothing") (dNx)) (dSeq (dExp (dMt tyL popF (dUn (fldF "deeds") (dVar 0)) dNil)) (dBadS))
def d_Roof_time : Sd := dRet (dCall lenF (dCons (dUn (fldF "deeds") (dVar 0)) (dNil)))
def d_Roof_all_deeds : Sd := dRet (dCall (listF false) (dCons (dUn (fldF "deeds") (dVar 0)) (dNil)))
def d_Roof_houses : Sd := dRet (dCall (sortedF false) (dCons (dUn (fldF "spans") (dVar 0)) (dNil)))
def d_Roof_ranges : Sd := dSeq (dExp (dMe 12 2 "need_house" (dVar 0) (dCons (dVar 1) (dNil)))) (dRet (dCall (listF false) (dCons (dBin idxF (dUn (fldF "spans") (dVar 0)) (dVar 1)) (dNil))))
def d_Roof_everyone : Sd := dSeq (dExp (dMe 12 2 "need_house" (dVar 0) (dCons (dVar 1) (dNil)))) (dRet (dCall (sortedF false) (dCons (dLkE (dUn (fldF "homes") (dVar 0)) (dLc false (zKey (dUn (fldF "homes") (dVar 0))) (.nm 2) (dTst (dBin eqF (dBin idxF (dBin idxF (dUn (fldF "homes") (dVar 0)) (dVar 2)) (dCst (.int 1))) (dVar 1))) (dVar 2) [2])) (dNil))))
def d_Roof_all_numbers : Sd := dRet (dCall (sortedF false) (dCons (dUn (fldF "kinds") (dVar 0)) (dNil)))
def d_Roof_is_group : Sd := dRet (dAndV (dFn 7 1 (dCons (dVar 1) (dNil))) (dBin eqF (dGet1 (dUn (fldF "kinds") (dVar 0)) (dVar 1)) (dCst (.str "group"))))
def d_Roof_name : Sd := dSeq (dExp (dMe 14 2 "need_one" (dVar 0) (dCons (dVar 1) (dNil)))) (dRet (dBin (addF false) (dTup (dCons (dBin idxF (dUn (fldF "kinds") (dVar 0)) (dVar 1)) (dNil))) (dBin idxF (dUn (fldF "homes") (dVar 0)) (dVar 1))))
def d_Roof_number : Sd := dSeq (dExp (dFn 5 1 (dCons (dVar 1) (dNil)))) (dSeq (dSet 2 (dMe 16 2 "one_of" (dVar 0) (dCons (dVar 1) (dNil)))) (dSeq (dIfS (dTst (dBin isF (dVar 2) (dCst .non))) (dRaiseF "NoOne" (dVar 1)) (dNx)) (dRet (dVar 2))))
def d_Roof_members : Sd := dSeq (dExp (dMe 15 2 "need_group" (dVar 0) (dCons (dVar 1) (dNil)))) (dRet (dCall (listF false) (dCons (dBin idxF (dUn (fldF "inside") (dVar 0)) (dVar 1)) (dNil))))
def d_Roof_trusted : Sd := dExp (dFn 0 1 (dCons (dCst (.int 0)) (dNil)))
def d_Roof_counts : Sd := dSeq (dIfS (dTst (dBin notInF (dVar 1) (dBin idxF (dUn (fldF "inside") (dVar 0)) (dVar 2)))) (dRet (dCst (.bl false))) (dNx)) (dSeq (dPar2 3 4 (dCons (dBin idxF (dBin idxF (dUn (fldF "homes") (dVar 0)) (dVar 1)) (dCst (.int 1))) (dCons (dBin idxF (dBin idxF (dUn (fldF "homes") (dVar 0)) (dVar 2)) (dCst (.int 1))) (dNil)))) (dRet (dOrV (dBin eqF (dVar 3) (dVar 4)) (dBin inF (dVar 3) (dBin idxF (dUn (fldF "trusts") (dVar 0)) (dVar 4))))))
def d_next_groups : Sd := dRet (dLc true (zSeq (dMe 36 1 "all_numbers" (dVar 0) dNil)) (.nm 2) (dAnd (dTst (dMe 37 2 "is_group" (dVar 0) (dCons (dVar 2) (dNil)))) (dTst (dMe 42 3 "counts" (dVar 0) (dCons (dVar 1) (dCons (dVar 2) (dNil)))))) (dVar 2) [2])
def d_closed : Sd := dSeq (dPar2 2 3 (dCons (dLst true (dNil)) (dCons (dFn 43 2 (dCons (dVar 0) (dCons (dVar 1) (dNil)))) (dNil)))) (dSeq (dWhile (dTst (dBin neF (dVar 3) (dLst false (dNil)))) (dSeq (dSet 4 (dMt tyL popF (dVar 3) (dCons (dCst (.int 0)) (dNil)))) (dIfS (dAnd (dTst (dBin notInF (dVar 4) (dVar 2))) (dTst (dBin neF (dVar 4) (dVar 1)))) (dSeq (dExp (dMt tyL appendF (dVar 2) (dCons (dVar 4) (dNil)))) (dSet 3 (dBin (addF true) (dVar 3) (dFn 43 2 (dCons (dVar 0) (dCons (dVar 4) (dNil))))))) (dNx)))) (dRet (dCall (sortedF false) (dCons (dVar 2) (dNil)))))
def d_is_rule : Sd := dSeq (dIfS (dOr (dNot (dTst (dCall (isiF "tuple") (dCons (dVar 0) dNil)))) (dOr (dTst (dBin neF (dCall lenF (dCons (dVar 0) (dNil))) (dCst (.int 3)))) (dNot (dTst (dCall (isiF "str") (dCons (dBin idxF (dVar 0) (dCst (.int 0))) dNil)))))) (dRet (dCst (.bl false))) (dNx)) (dRet (dAndV (dBin inF (dBin idxF (dVar 0) (dCst (.int 0))) (dTup (dCons (dCst (.str "let")) (dCons (dCst (.str "bar")) (dNil))))) (dAndV (dFn 7 1 (dCons (dBin idxF (dVar 0) (dCst (.int 1))) (dNil))) (dFn 1 1 (dCons (dBin idxF (dVar 0) (dCst (.int 2))) (dNil))))))
def d_need_rules : Sd := dIfS (dOr (dNot (dTst (dCall (isiF "list") (dCons (dVar 0) dNil)))) (dNot (dTst (dCall allF (dCons (dLc false (zSeq (dVar 0)) (.nm 1) (dYes) (dFn 45 1 (dCons (dVar 1) (dNil))) [1]) (dNil)))))) (dRaise "BadRule") (dNx)
def d_place : Sd := dSeq (dFor (zEnum (dVar 0)) (.tp [.nm 3, .tp [.nm 4, .nm 5, .nm 6]]) (dIfS (dAnd (dTst (dBin inF (dVar 5) (dVar 1))) (dTst (dBin eqF (dVar 6) (dVar 2)))) (dRet (dVar 3)) (dNx))) (dRet (dUn negF (dCst (.int 1))))
def d_lets : Sd := dSeq (dSet 3 (dFn 47 3 (dCons (dVar 0) (dCons (dVar 1) (dCons (dVar 2) (dNil)))))) (dRet (dAndV (dBin geF (dVar 3) (dCst (.int 0))) (dBin eqF (dBin idxF (dBin idxF (dVar 0) (dVar 3)) (dCst (.int 0))) (dCst (.str "let")))))
def d_about_of : Sd := dRet (dBin (addF false) (dLst false (dCons (dVar 1) (dNil))) (dFn 44 2 (dCons (dVar 0) (dCons (dVar 1) (dNil)))))
def d_all_lets : Sd := dSeq (dSet 3 (dNewD false)) (dSeq (dFor (zSeq (dMe 36 1 "all_numbers" (dVar 0) dNil)) (.nm 4) (dIfS (dTst (dBin eqF (dBin idxF (dMe 38 2 "name" (dVar 0) (dCons (dVar 4) (dNil))) (dCst (.int 0))) (dCst (.str "one")))) (dSeq (dSet 5 (dFn 49 2 (dCons (dVar 0) (dCons (dVar 4) (dNil))))) (dFor (zSeq (dVar 2)) (.nm 6) (dSetI (dVar 3) (dTup (dCons (dVar 4) (dCons (dVar 6) (dNil)))) (dFn 48 3 (dCons (dVar 1) (dCons (dVar 5) (dCons (dVar 6) (dNil)))))))) (dNx))) (dRet (dVar 3)))
def d_needless : Sd := dSeq (dExp (dFn 46 1 (dCons (dVar 1) (dNil)))) (dSeq (dSet 2 (dSortG false (gSc (zSeq (dVar 1)) (.nm 6) (dYes) (dBin idxF (dVar 6) (dCst (.int 2))) [6]))) (dSeq (dPar2 3 4 (dCons (dFn 50 3 (dCons (dVar 0) (dCons (dVar 1) (dCons (dVar 2) (dNil))))) (dCons (dLst true (dNil)) (dNil)))) (dSeq (dFor (zRng1 (dCall lenF (dCons (dVar 1) (dNil)))) (.nm 5) (dIfS (dTst (dBin eqF (dFn 50 3 (dCons (dVar 0) (dCons (dBin (addF false) (dSl false (dVar 1) (pNo) (pYes (dVar 5))) (dSl false (dVar 1) (pYes (dBin (addF false) (dVar 5) (dCst (.int 1)))) (pNo))) (dCons (dVar 2) (dNil))))) (dVar 3))) (dExp (dMt tyL appendF (dVar 4) (dCons (dVar 5) (dNil)))) (dNx))) (dRet (dVar 4)))))
def d_is_part : Sd := dSeq (dIfS (dTst (dBin eqF (dVar 0) (dCst (.str "n")))) (dRet (dAndV (dFn 7 1 (dCons (dVar 1) (dNil))) (dBin geF (dVar 1) (dCst (.int 0))))) (dNx)) (dSeq (dIfS (dTst (dBin eqF (dVar 0) (dCst (.str "k")))) (dRet (dAndV (dCall (isiF "str") (dCons (dVar 1) dNil)) (dBin inF (dVar 1) (dTup (dCons (dCst (.str "one")) (dCons (dCst (.str "group")) (dNil))))))) (dNx)) (dRet (dOrV (dFn 1 1 (dCons (dVar 1) (dNil))) (dAndV (dBin eqF (dVar 0) (dCst (.str "o"))) (dBin isF (dVar 1) (dCst .non))))))
def d_is_row : Sd := dSeq (dIfS (dOr (dNot (dTst (dCall (isiF "tuple") (dCons (dVar 0) dNil)))) (dOr (dTst (dBin eqF (dVar 0) (dTup (dNil)))) (dOr (dNot (dTst (dCall (isiF "str") (dCons (dBin idxF (dVar 0) (dCst (.int 0))) dNil)))) (dTst (dSzIn true (dBin idxF (dVar 0) (dCst (.int 0)))))))) (dRet (dCst (.bl false))) (dNx)) (dSeq (dSet 1 (dSzAt (dBin idxF (dVar 0) (dCst (.int 0))))) (dRet (dAndV (dBin eqF (dCall lenF (dCons (dVar 0) (dNil))) (dBin (addF false) (dCall lenF (dCons (dVar 1) (dNil))) (dCst (.int 1)))) (dCall allF (dCons (dLc false (zZipS (dVar 1) (dSl false (dVar 0) (pYes (dCst (.int 1))) (pNo))) (.tp [.nm 2, .nm 3]) (dYes) (dFn 52 2 (dCons (dVar 2) (dCons (dVar 3) (dNil)))) [2, 3]) (dNil))))))
def d_do_more : Sd := dSeq (dStar 2 3 (dVar 1)) (dIfS (dTst (dBin eqF (dVar 2) (dCst (.str "found")))) (dExp (dMe 19 2 "found" (dVar 0) (dCons (dBin idxF (dVar 3) (dCst (.int 0))) (dNil)))) (dIfS (dTst (dBin eqF (dVar 2) (dCst (.str "merge")))) (dExp (dMe 27 3 "merge" (dVar 0) (dCons (dBin idxF (dVar 3) (dCst (.int 0))) (dCons (dBin idxF (dVar 3) (dCst (.int 1))) (dNil))))) (dIfS (dTst (dBin eqF (dVar 2) (dCst (.str "trust")))) (dExp (dMe 28 3 "trust" (dVar 0) (dCons (dBin idxF (dVar 3) (dCst (.int 0))) (dCons (dBin idxF (dVar 3) (dCst (.int 1))) (dNil))))) (dExp (dMe 29 3 "mistrust" (dVar 0) (dCons (dBin idxF (dVar 3) (dCst (.int 0))) (dCons (dBin idxF (dVar 3) (dCst (.int 1))) (dNil))))))))
def d_do : Sd := dSeq (dStar 2 3 (dVar 1)) (dIfS (dTst (dBin eqF (dVar 2) (dCst (.str "come")))) (dExp (dMe 20 4 "come" (dVar 0) (dCons (dBin idxF (dVar 3) (dCst (.int 0))) (dCons (dBin idxF (dVar 3) (dCst (.int 1))) (dCons (dBin idxF (dVar 3) (dCst (.int 2))) (dNil)))))) (dIfS (dTst (dBin eqF (dVar 2) (dCst (.str "go")))) (dExp (dMe 21 2 "go" (dVar 0) (dCons (dBin idxF (dVar 3) (dCst (.int 0))) (dNil)))) (dIfS (dTst (dBin eqF (dVar 2) (dCst (.str "put_in")))) (dExp (dMe 22 3 "put_in" (dVar 0) (dCons (dBin idxF (dVar 3) (dCst (.int 0))) (dCons (dBin idxF (dVar 3) (dCst (.int 1))) (dNil))))) (dIfS (dTst (dBin eqF (dVar 2) (dCst (.str "take_out")))) (dExp (dMe 23 3 "take_out" (dVar 0) (dCons (dBin idxF (dVar 3) (dCst (.int 0))) (dCons (dBin idxF (dVar 3) (dCst (.int 1))) (dNil))))) (dIfS (dTst (dBin eqF (dVar 2) (dCst (.str "call")))) (dExp (dMe 24 3 "call" (dVar 0) (dCons (dBin idxF (dVar 3) (dCst (.int 0))) (dCons (dBin idxF (dVar 3) (dCst (.int 1))) (dNil))))) (dIfS (dTst (dBin eqF (dVar 2) (dCst (.str "move")))) (dExp (dMeK 25 3 "move" (dVar 0) (dCons (dBin idxF (dVar 3) (dCst (.int 0))) (dCons (dBin idxF (dVar 3) (dCst (.int 1))) (dNil))) (dBin idxF (dVar 3) (dCst (.int 2))))) (dExp (dFn 54 2 (dCons (dVar 0) (dCons (dVar 1) (dNil)))))))))))
def d_played : Sd := dSeq (dIfS (dNot (dTst (dCall (isiF "list") (dCons (dVar 0) dNil)))) (dRaiseF "BadJournal" (dCst .non)) (dNx)) (dSeq (dSet 1 (dMk0 8)) (dSeq (dFor (zEnum (dVar 0)) (.tp [.nm 2, .nm 3]) (dSeq (dIfS (dNot (dTst (dFn 53 1 (dCons (dVar 3) (dNil))))) (dRaiseF "BadJournal" (dVar 2)) (dNx)) (dBadS))) (dRet (dVar 1))))
def d_need_time : Sd := dIfS (dOr (dNot (dTst (dFn 7 1 (dCons (dVar 1) (dNil))))) (dNot (dChain leF leF (dCst (.int 0)) (dVar 1) (dMe 31 1 "time" (dVar 0) dNil)))) (dRaise "BadTime") (dNx)
def d_as_of : Sd := dSeq (dExp (dFn 57 2 (dCons (dVar 0) (dCons (dVar 1) (dNil))))) (dRet (dFn 56 1 (dCons (dSl false (dMe 32 1 "all_deeds" (dVar 0) dNil) (pNo) (pYes (dVar 1))) (dNil))))
def d_part_of : Sd := dSeq (dIfS (dAnd (dTst (dBin eqF (dVar 0) (dCst (.str "n")))) (dAnd (dChain ltF ltF (dCst (.int 0)) (dCall lenF (dCons (dVar 1) (dNil))) (dCst (.int 20))) (dAnd (dTst (dCall allF (dCons (dLc false (zSeq (dVar 1)) (.nm 2) (dYes) (dBin inF (dVar 2) (dCst (.str "0123456789"))) [2]) (dNil)))) (dTst (dBin eqF (dCall strF (dCons (dCall intF (dCons (dVar 1) (dNil))) (dNil))) (dVar 1)))))) (dRet (dCall intF (dCons (dVar 1) (dNil)))) (dNx)) (dRet (dIf (dAnd (dTst (dBin eqF (dVar 0) (dCst (.str "o")))) (dTst (dBin eqF (dVar 1) (dCst (.str "-"))))) (dCst .non) (dVar 1)))
def d_row_of : Sd := dSeq (dStar 1 2 (dMt tyStr splitF (dVar 0) (dCons (dCst (.str " ")) (dNil)))) (dSeq (dSet 3 (dSzGet (dVar 1) (dCst (.str "")))) (dRet (dBin (addF false) (dBin (addF false) (dTup (dCons (dVar 1) (dNil))) (dCall tupleF (dCons (dLc false (zZipS (dVar 3) (dVar 2)) (.tp [.nm 4, .nm 5]) (dYes) (dFn 59 2 (dCons (dVar 4) (dCons (dVar 5) (dNil)))) [4, 5]) (dNil)))) (dCall tupleF (dCons (dSl false (dVar 2) (pYes (dCall lenF (dCons (dVar 3) (dNil)))) (pNo)) (dNil))))))
def d_read_journal : Sd := dSeq (dIfS (dNot (dTst (dCall (isiF "str") (dCons (dVar 0) dNil)))) (dRaiseF "BadJournal" (dCst .non)) (dNx)) (dSeq (dSet 1 (dIf (dTst (dBin neF (dVar 0) (dCst (.str "")))) (dLc false (zSeq (dMt tyStr splitF (dVar 0) (dCons (dCst (.str "\n")) (dNil)))) (.nm 4) (dYes) (dFn 60 1 (dCons (dVar 4) (dNil))) [4]) (dLst false (dNil)))) (dSeq (dFor (zEnum (dVar 1)) (.tp [.nm 2, .nm 3]) (dIfS (dNot (dTst (dFn 53 1 (dCons (dVar 3) (dNil))))) (dRaiseF "BadJournal" (dVar 2)) (dNx))) (dRet (dVar 1))))
def d_law_cell : Sd := dSeq (dIfS (dTst (dBin eqF (dVar 0) (dLst false (dNil)))) (dRet (dBin mulF (dVar 1) (dCst (.int 7919)))) (dNx)) (dRet (dBin (addF false) (dBin idxF (dVar 0) (dBin modF (dVar 1) (dCall lenF (dCons (dVar 0) (dNil))))) (dBin mulF (dBin fdivF (dVar 1) (dCall lenF (dCons (dVar 0) (dNil)))) (dCst (.int 104729)))))
def d_law_drawn : Sd := dSeq (dSet 2 (dBin modF (dBin (addF false) (dBin mulF (dVar 0) (dCst (.int 6364136223846793005))) (dBin mulF (dBin (addF false) (dVar 1) (dCst (.int 1))) (dCst (.int 1442695040888963407)))) (dCst (.int 340282366920938463463374607431768211507)))) (dSeq (dSet 2 (dBin modF (dBin mulF (dVar 2) (dVar 2)) (dCst (.int 340282366920938463463374607431768211297)))) (dSeq (dSet 2 (dBin mulF (dBin mulF (dBin (addF false) (dBin modF (dVar 2) (dCst (.int 18446744073709551557))) (dCst (.int 1))) (dBin (addF false) (dBin fdivF (dVar 2) (dCst (.int 18446744073709551557))) (dCst (.int 1)))) (dVar 2))) (dRet (dBin modF (dVar 2) (dCst (.int 340282366920938463463374607431768211507))))))
def d_law_roll : Sd := dSeq (dIfS (dTst (dBin geF (dBin idxF (dVar 0) (dCst (.int 0))) (dBin powF (dCst (.int 10)) (dCst (.int 18))))) (dSeq (dSet 2 (dBin modF (dBin idxF (dVar 0) (dCst (.int 0))) (dVar 1))) (dSeq (dSetI (dVar 0) (dCst (.int 0)) (dBin fdivF (dBin idxF (dVar 0) (dCst (.int 0))) (dVar 1))) (dRet (dVar 2)))) (dNx)) (dSeq (dSetI (dVar 0) (dCst (.int 1)) (dBin (addF false) (dBin idxF (dVar 0) (dCst (.int 1))) (dCst (.int 1)))) (dRet (dBin modF (dBin fdivF (dFn 63 2 (dCons (dBin idxF (dVar 0) (dCst (.int 0))) (dCons (dBin idxF (dVar 0) (dCst (.int 1))) (dNil)))) (dCst (.int 8))) (dVar 1))))
def d_law_rounds : Sd := dRet (dLc false (zRng1 (dCall maxF (dCons (dCst (.int 1)) (dCons (dCall minF (dCons (dVar 1) (dCons (dCall lenF (dCons (dVar 0) (dNil))) (dNil)))) (dNil))))) (.nm 2) (dYes) (dLst true (dCons (dFn 62 2 (dCons (dVar 0) (dCons (dVar 2) (dNil)))) (dCons (dCst (.int 0)) (dNil)))) [2])
def d_law_do : Sd := dSeq (dAsg (.tp [.nm 2, .nm 3, .nm 4]) (dSl false (dBin (addF false) (dVar 1) (dTup (dCons (dCst .non) (dNil)))) (pNo) (pYes (dCst (.int 3))))) (dSeq (dIfS (dTst (dBin inF (dVar 2) (dTup (dCons (dCst (.str "found")) (dCons (dCst (.str "go")) (dNil)))))) (dRet (dTold (dIf (dTst (dBin eqF (dVar 2) (dCst (.str "found")))) (dMe 19 2 "found" (dVar 0) (dCons (dVar 3) (dNil))) (dMe 21 2 "go" (dVar 0) (dCons (dVar 3) (dNil)))))) (dNx)) (dSeq (dIfS (dTst (dBin eqF (dVar 2) (dCst (.str "come")))) (dRet (dTold (dMe 20 4 "come" (dVar 0) (dCons (dVar 3) (dCons (dVar 4) (dCons (dBin idxF (dVar 1) (dCst (.int 3))) (dNil))))))) (dNx)) (dSeq (dIfS (dTst (dBin inF (dVar 2) (dTup (dCons (dCst (.str "put_in")) (dCons (dCst (.str "take_out")) (dNil)))))) (dRet (dTold (dIf (dTst (dBin eqF (dVar 2) (dCst (.str "put_in")))) (dMe 22 3 "put_in" (dVar 0) (dCons (dVar 3) (dCons (dVar 4) (dNil)))) (dMe 23 3 "take_out" (dVar 0) (dCons (dVar 3) (dCons (dVar 4) (dNil))))))) (dNx)) (dSeq (dIfS (dTst (dBin eqF (dVar 2) (dCst (.str "move")))) (dRet (dTold (dMeK 25 3 "move" (dVar 0) (dCons (dVar 3) (dCons (dVar 4) (dNil))) (dBin idxF (dVar 1) (dCst (.int 3)))))) (dNx)) (dSeq (dIfS (dTst (dBin inF (dVar 2) (dTup (dCons (dCst (.str "call")) (dCons (dCst (.str "merge")) (dNil)))))) (dRet (dTold (dIf (dTst (dBin eqF (dVar 2) (dCst (.str "call")))) (dMe 24 3 "call" (dVar 0) (dCons (dVar 3) (dCons (dVar 4) (dNil)))) (dMe 27 3 "merge" (dVar 0) (dCons (dVar 3) (dCons (dVar 4) (dNil))))))) (dNx)) (dRet (dTold (dIf (dTst (dBin eqF (dVar 2) (dCst (.str "trust")))) (dMe 28 3 "trust" (dVar 0) (dCons (dVar 3) (dCons (dVar 4) (dNil)))) (dMe 29 3 "mistrust" (dVar 0) (dCons (dVar 3) (dCons (dVar 4) (dNil))))))))))))
def d_law_alone : Sd := dSeq (dSet 2 (dLst false (dCons (dIsE (some "NoOne") (dVar 0)) (dCons (dIsE (some "Taken") (dVar 0)) (dCons (dIsE (some "BadJournal") (dVar 0)) (dCons (dIsE (some "BadName") (dVar 0)) (dNil))))))) (dSeq (dSet 2 (dBin (addF false) (dVar 2) (dLst false (dCons (dIsE (some "NoHouse") (dVar 0)) (dCons (dIsE (some "BadRule") (dVar 0)) (dCons (dIsE (some "BadTime") (dVar 0)) (dNil))))))) (dSeq (dSet 2 (dBin (addF false) (dVar 2) (dLst false (dCons (dIsE (some "Nothing") (dVar 0)) (dNil))))) (dRet (dAndV (dIsE none (dVar 0)) (dBin eqF (dVar 2) (dLc false (zRng1 (dCst (.int 8))) (.nm 3) (dYes) (dBin eqF (dVar 3) (dVar 1)) [3]))))))
def lawP0 : Sd := dSet 2 (dBin (addF false) (dCst (.int 1)) (dFn 64 2 (dCons (dVar 1) (dCons (dCst (.int 9)) (dNil)))))
def lawP1 : Sd := dSet 3 (dMk0 8)
def lawP2 : Sd := dFor (zSeq (dLst false (dCons (dTup (dCons (dCst (.str "found")) (dCons (dCst (.str "oak")) (dNil)))) (dCons (dTup (dCons (dCst (.str "come")) (dCons (dCst (.str "one")) (dCons (dCst (.str "ann")) (dCons (dCst (.str "oak")) (dNil)))))) (dNil))))) (.nm 4) (dExp (dFn 66 2 (dCons (dVar 3) (dCons (dVar 4) (dNil)))))
def lawP3 : Sd := dSet 5 (dLst true (dCons (dMet (dMe 21 2 "go" (dVar 3) (dCons (dBin (addF false) (dCst (.int 100)) (dVar 2)) (dNil)))) (dNil)))
def lawP4 : Sd := dExp (dMt tyL appendF (dVar 5) (dCons (dMet (dMe 20 4 "come" (dVar 3) (dCons (dCst (.str "one")) (dCons (dCst (.str "ann")) (dCons (dCst (.str "oak")) (dNil)))))) (dNil)))
def lawP5 : Sd := dExp (dMt tyL appendF (dVar 5) (dCons (dMet (dFn 61 1 (dCons (dBin (addF false) (dCst (.str "found oak\ngo ")) (dBin mulF2 (dCst (.str "x")) (dVar 2))) (dNil)))) (dNil)))
def lawP6 : Sd := dExp (dMt tyL appendF (dVar 5) (dCons (dMet (dMe 24 3 "call" (dVar 3) (dCons (dCst (.int 100)) (dCons (dBin mulF2 (dCst (.str "a")) (dBin (addF false) (dCst (.int 8)) (dVar 2))) (dNil))))) (dNil)))
def lawP7 : Sd := dExp (dMt tyL appendF (dVar 5) (dCons (dMet (dMe 34 2 "ranges" (dVar 3) (dCons (dBin (addF false) (dCst (.str "x")) (dCall strF (dCons (dVar 2) (dNil)))) (dNil)))) (dNil)))
def lawP8 : Sd := dExp (dMt tyL appendF (dVar 5) (dCons (dMet (dFn 51 2 (dCons (dVar 3) (dCons (dLst false (dCons (dTup (dCons (dCst (.str "let")) (dCons (dCst (.int 100)) (dCons (dBin mulF2 (dCst (.str "a")) (dBin (addF false) (dCst (.int 8)) (dVar 2))) (dNil))))) (dNil))) (dNil))))) (dNil)))
def lawP9 : Sd := dExp (dMt tyL appendF (dVar 5) (dCons (dMet (dFn 58 2 (dCons (dVar 3) (dCons (dBin (addF false) (dCst (.int 2)) (dVar 2)) (dNil))))) (dNil)))
def lawP10 : Sd := dExp (dMt tyL appendF (dVar 5) (dCons (dMet (dMe 30 1 "take_back" (dMk0 8) dNil)) (dNil)))
def lawP11 : Sd := dIfS (dNot (dTst (dCall allF (dCons (dLc false (zEnum (dVar 5)) (.tp [.nm 6, .nm 7]) (dYes) (dFn 67 2 (dCons (dVar 7) (dCons (dVar 6) (dNil)))) [6, 7]) (dNil))))) (dRet (dCst (.bl false))) (dNx)
def lawP12 : Sd := dIfS (dOr (dTst (dBin neF (dXf "who" (dBin idxF (dVar 5) (dCst (.int 0)))) (dBin (addF false) (dCst (.int 100)) (dVar 2)))) (dOr (dTst (dBin neF (dXf "taken" (dBin idxF (dVar 5) (dCst (.int 1)))) (dTup (dCons (dCst (.str "one")) (dCons (dCst (.str "ann")) (dCons (dCst (.str "oak")) (dNil))))))) (dTst (dBin neF (dXf "row" (dBin idxF (dVar 5) (dCst (.int 2)))) (dCst (.int 1)))))) (dRet (dCst (.bl false))) (dNx)
def lawRest : Sd := dSeq lawP1 (dSeq lawP2 (dSeq lawP3 (dSeq lawP4 (dSeq lawP5 (dSeq lawP6 (dSeq lawP7 (dSeq lawP8 (dSeq lawP9 (dSeq lawP10 (dSeq lawP11 (lawP12)))))))))))
def lawBody : Sd := dSeq lawP0 (dSeq lawP1 (dSeq lawP2 (dSeq lawP3 (dSeq lawP4 (dSeq lawP5 (dSeq lawP6 (dSeq lawP7 (dSeq lawP8 (dSeq lawP9 (dSeq lawP10 (dSeq lawP11 (lawP12))))))))))))
def d_law : Sd := dSeq (dFor (zSeq (dFn 65 2 (dCons (dVar 0) (dCons (dCst (.int 4)) (dNil))))) (.nm 1) (dFrS (lv1 1) lawBody)) (dRet (dCst (.bl true)))
def fs : List FD := [⟨1, 1, d_wall⟩,
  ⟨1, 2, d_is_word⟩,
  ⟨1, 1, d_is_kind⟩,
  ⟨1, 1, d_is_name⟩,
  ⟨1, 1, d_need_word⟩,
  ⟨1, 1, d_need_name⟩,
  ⟨2, 3, d_with_number⟩,
  ⟨1, 1, d_is_whole⟩,
  ⟨1, 1, d_Roof_init⟩,
  ⟨2, 2, d_Roof_eq⟩,
  ⟨1, 5, d_Roof_state⟩,
  ⟨2, 2, d_Roof_begin⟩,
  ⟨2, 2, d_Roof_need_house⟩,
  ⟨3, 3, d_Roof_need_two⟩,
  ⟨2, 2, d_Roof_need_one⟩,
  ⟨2, 2, d_Roof_need_group⟩,
  ⟨2, 4, d_Roof_one_of⟩,
  ⟨2, 2, d_Roof_need_free⟩,
  ⟨2, 2, d_Roof_new_span⟩,
  ⟨2, 2, d_Roof_found⟩,
  ⟨4, 6, d_Roof_come⟩,
  ⟨2, 4, d_Roof_go⟩,
  ⟨3, 3, d_Roof_put_in⟩,
  ⟨3, 4, d_Roof_take_out⟩,
  ⟨3, 3, d_Roof_call⟩,
  ⟨4, 5, d_Roof_move⟩,
  ⟨4, 6, d_Roof_free_word⟩,
  ⟨3, 9, d_Roof_merge⟩,
  ⟨3, 3, d_Roof_trust⟩,
  ⟨3, 4, d_Roof_mistrust⟩,
  ⟨1, 1, d_Roof_take_back⟩,
  ⟨1, 1, d_Roof_time⟩,
  ⟨1, 1, d_Roof_all_deeds⟩,
  ⟨1, 1, d_Roof_houses⟩,
  ⟨2, 2, d_Roof_ranges⟩,
  ⟨2, 3, d_Roof_everyone⟩,
  ⟨1, 1, d_Roof_all_numbers⟩,
  ⟨2, 2, d_Roof_is_group⟩,
  ⟨2, 2, d_Roof_name⟩,
  ⟨2, 3, d_Roof_number⟩,
  ⟨2, 2, d_Roof_members⟩,
  ⟨2, 2, d_Roof_trusted⟩,
  ⟨3, 5, d_Roof_counts⟩,
  ⟨2, 3, d_next_groups⟩,
  ⟨2, 5, d_closed⟩,
  ⟨1, 1, d_is_rule⟩,
  ⟨1, 2, d_need_rules⟩,
  ⟨3, 7, d_place⟩,
  ⟨3, 4, d_lets⟩,
  ⟨2, 2, d_about_of⟩,
  ⟨3, 7, d_all_lets⟩,
  ⟨2, 7, d_needless⟩,
  ⟨2, 2, d_is_part⟩,
  ⟨1, 4, d_is_row⟩,
  ⟨2, 4, d_do_more⟩,
  ⟨2, 4, d_do⟩,
  ⟨1, 4, d_played⟩,
  ⟨2, 2, d_need_time⟩,
  ⟨2, 2, d_as_of⟩,
  ⟨2, 3, d_part_of⟩,
  ⟨1, 6, d_row_of⟩,
  ⟨1, 5, d_read_journal⟩,
  ⟨2, 2, d_law_cell⟩,
  ⟨2, 3, d_law_drawn⟩,
  ⟨2, 3, d_law_roll⟩,
  ⟨2, 3, d_law_rounds⟩,
  ⟨2, 5, d_law_do⟩,
  ⟨2, 4, d_law_alone⟩,
  ⟨1, 8, d_law⟩]
structure Tb (w : World) (K : PySem.W.Frag) (mg : Str → Option Value) (base : Heap) (en : En) (k : Nat) : Prop where
  told : CalleeTK PP w K mg base 1 "_law_told"
  met : CalleeRK PP w K mg base "_law_met"
  sz : SzK K w
  x_NoOne : CalleeXK PP w K mg base 1 "NoOne"
  x_Taken : CalleeXK PP w K mg base 1 "Taken"
  x_BadJournal : CalleeXK PP w K mg base 1 "BadJournal"
  c0 : CalleeK PP w K mg base k en 0 1 "_wall"
  c1 : CalleeK PP w K mg base k en 1 1 "is_word"
  c2 : CalleeK PP w K mg base k en 2 1 "is_kind"
  c3 : CalleeK PP w K mg base k en 3 1 "is_name"
  c4 : CalleeK PP w K mg base k en 4 1 "need_word"
  c5 : CalleeK PP w K mg base k en 5 1 "need_name"
  c6 : CalleeK PP w K mg base k en 6 2 "with_number"
  c7 : CalleeK PP w K mg base k en 7 1 "is_whole"
  c8 : CalleeCK PP w K mg base k en 8
  c9 : CalleeMK PP w K mg base k en 9 2 "__eq__"
  c10 : CalleeMK PP w K mg base k en 10 1 "state"
  c11 : CalleeMK PP w K mg base k en 11 2 "begin"
  c12 : CalleeMK PP w K mg base k en 12 2 "need_house"
  c13 : CalleeMK PP w K mg base k en 13 3 "need_two"
  c14 : CalleeMK PP w K mg base k en 14 2 "need_one"
  c15 : CalleeMK PP w K mg base k en 15 2 "need_group"
  c16 : CalleeMK PP w K mg base k en 16 2 "one_of"
  c17 : CalleeMK PP w K mg base k en 17 2 "need_free"
  c18 : CalleeMK PP w K mg base k en 18 2 "new_span"
  c19 : CalleeMK PP w K mg base k en 19 2 "found"
  c20 : CalleeMK PP w K mg base k en 20 4 "come"
  c21 : CalleeMK PP w K mg base k en 21 2 "go"
  c22 : CalleeMK PP w K mg base k en 22 3 "put_in"
  c23 : CalleeMK PP w K mg base k en 23 3 "take_out"
  c24 : CalleeMK PP w K mg base k en 24 3 "call"
  c25 : CalleeKK PP w K mg base k en 25 3 "move" "word"
  c26 : CalleeMK PP w K mg base k en 26 4 "free_word"
  c27 : CalleeMK PP w K mg base k en 27 3 "merge"
  c28 : CalleeMK PP w K mg base k en 28 3 "trust"
  c29 : CalleeMK PP w K mg base k en 29 3 "mistrust"
  c30 : CalleeMK PP w K mg base k en 30 1 "take_back"
  c31 : CalleeMK PP w K mg base k en 31 1 "time"
  c32 : CalleeMK PP w K mg base k en 32 1 "all_deeds"
  c33 : CalleeMK PP w K mg base k en 33 1 "houses"
  c34 : CalleeMK PP w K mg base k en 34 2 "ranges"
  c35 : CalleeMK PP w K mg base k en 35 2 "everyone"
  c36 : CalleeMK PP w K mg base k en 36 1 "all_numbers"
  c37 : CalleeMK PP w K mg base k en 37 2 "is_group"
  c38 : CalleeMK PP w K mg base k en 38 2 "name"
  c39 : CalleeMK PP w K mg base k en 39 2 "number"
  c40 : CalleeMK PP w K mg base k en 40 2 "members"
  c41 : CalleeMK PP w K mg base k en 41 2 "trusted"
  c42 : CalleeMK PP w K mg base k en 42 3 "counts"
  c43 : CalleeK PP w K mg base k en 43 2 "next_groups"
  c44 : CalleeK PP w K mg base k en 44 2 "closed"
  c45 : CalleeK PP w K mg base k en 45 1 "is_rule"
  c46 : CalleeK PP w K mg base k en 46 1 "need_rules"
  c47 : CalleeK PP w K mg base k en 47 3 "place"
  c48 : CalleeK PP w K mg base k en 48 3 "lets"
  c49 : CalleeK PP w K mg base k en 49 2 "about_of"
  c50 : CalleeK PP w K mg base k en 50 3 "all_lets"
  c51 : CalleeK PP w K mg base k en 51 2 "needless"
  c52 : CalleeK PP w K mg base k en 52 2 "is_part"
  c53 : CalleeK PP w K mg base k en 53 1 "is_row"
  c54 : CalleeK PP w K mg base k en 54 2 "do_more"
  c55 : CalleeK PP w K mg base k en 55 2 "do"
  c56 : CalleeK PP w K mg base k en 56 1 "played"
  c57 : CalleeK PP w K mg base k en 57 2 "need_time"
  c58 : CalleeK PP w K mg base k en 58 2 "as_of"
  c59 : CalleeK PP w K mg base k en 59 2 "part_of"
  c60 : CalleeK PP w K mg base k en 60 1 "row_of"
  c61 : CalleeK PP w K mg base k en 61 1 "read_journal"
  c62 : CalleeK PP w K mg base k en 62 2 "_law_cell"
  c63 : CalleeK PP w K mg base k en 63 2 "_law_drawn"
  c64 : CalleeK PP w K mg base k en 64 2 "_law_roll"
  c65 : CalleeK PP w K mg base k en 65 2 "_law_rounds"
  c66 : CalleeK PP w K mg base k en 66 2 "_law_do"
  c67 : CalleeK PP w K mg base k en 67 2 "_law_alone"
  c68 : CalleeK PP w K mg base k en 68 1 "law"
section
variable {w : World} {K : PySem.W.Frag} {mg : Str → Option Value} {base : Heap} {f : Addr} {cdv : Value} {A : Around} {outer : List Env} {s : Shared} {H : Hp} {E : XK} {en : En} {k : Nat}
def N_wall : List Str := ["k"]
abbrev X_wall (w : World) (K : PySem.W.Frag) (mg : Str → Option Value) (base : Heap) (f : Addr) (cdv : Value) (A : Around) (outer : List Env) (s : Shared) (H : Hp) (E : XK) : Cx := cxOf (L2N.CX PP w) PP w K mg base N_wall "_wall" (defScope (top 0)) f cdv A outer s H E
theorem nd_wall : N_wall.Nodup := by decide +kernel
theorem sc_wall : FnScope N_wall ["k"] (defScope (top 0)) := C8.fnScope_by (by kernel_rfl)
theorem wk_wall (c : Fx K mg) (t : Tb w K mg base en k) (hr2 : Room (k + 3) (X_wall w K mg base f cdv A outer s H E).A) : PSs (X_wall w K mg base f cdv A outer s H E) (defBody (top 0)) (tS K en (fun c d _ H => E c d H) d_wall) := by
  have nd := nd_wall
  have hr := hr2.mono (show k ≤ k + 3 by omega)
  have hr1 := hr2.mono (show k + 1 ≤ k + 3 by omega)
  have hu := room_hu hr
  have hrX : Room (1 + 1) (X_wall w K mg base f cdv A outer s H E).A := hr2.mono (show 1 + 1 ≤ k + 3 by omega)
  have tk : L2N.Takes (X_wall w K mg base f cdv A outer s H E) (fun c d _ H => E c d H) := L2N.takes_of (X := X_wall w K mg base f cdv A outer s H E) (E := E) (E₁ := fun e s' => L2N.CX PP w outer H s E e s') rfl rfl rfl rfl
  have fl : Flat (fun c d (_ : L2.St) H => E c d H) := flatE
  show PSs (X_wall w K mg base f cdv A outer s H E) _ (tS K en (fun c d _ H => E c d H) (dWhile (dTst (dCst (.bl true))) (dNx)))
  exact j_one (j_while (passes_of rfl) (t_val (s_bl) (fun _ => rfl)) (j_one (ps_nx)))
def N_is_word : List Str := ["thing", "sign"]
abbrev X_is_word (w : World) (K : PySem.W.Frag) (mg : Str → Option Value) (base : Heap) (f : Addr) (cdv : Value) (A : Around) (outer : List Env) (s : Shared) (H : Hp) (E : XK) : Cx := cxOf (L2N.CX PP w) PP w K mg base N_is_word "is_word" (defScope (top 16)) f cdv A outer s H E
theorem nd_is_word : N_is_word.Nodup := by decide +kernel
theorem sc_is_word : FnScope N_is_word ["thing"] (defScope (top 16)) := C8.fnScope_by (by kernel_rfl)
theorem wk_is_word (c : Fx K mg) (t : Tb w K mg base en k) (hr2 : Room (k + 3) (X_is_word w K mg base f cdv A outer s H E).A) : PSs (X_is_word w K mg base f cdv A outer s H E) (defBody (top 16)) (tS K en (fun c d _ H => E c d H) d_is_word) := by
  have nd := nd_is_word
  have hr := hr2.mono (show k ≤ k + 3 by omega)
  have hr1 := hr2.mono (show k + 1 ≤ k + 3 by omega)
  have hu := room_hu hr
  have hrX : Room (1 + 1) (X_is_word w K mg base f cdv A outer s H E).A := hr2.mono (show 1 + 1 ≤ k + 3 by omega)
  have tk : L2N.Takes (X_is_word w K mg base f cdv A outer s H E) (fun c d _ H => E c d H) := L2N.takes_of (X := X_is_word w K mg base f cdv A outer s H E) (E := E) (E₁ := fun e s' => L2N.CX PP w outer H s E e s') rfl rfl rfl rfl
  have fl : Flat (fun c d (_ : L2.St) H => E c d H) := flatE
  show PSs (X_is_word w K mg base f cdv A outer s H E) _ (tS K en (fun c d _ H => E c d H) (dRet (dAndV (dCall (isiF "str") (dCons (dVar 0) dNil)) (dAndV (dTv (dChain leF leF (dCst (.int 1)) (dCall lenF (dCons (dVar 0) (dNil))) (dCst (.int 8)))) (dCall allF (dCons (dLc false (zSeq (dVar 0)) (.nm 1) (dYes) (dBin inF (dVar 1) (dCst (.str "abcdefghijklmnopqrstuvwxyz0123456789"))) [1]) (dNil)))))))
  exact j_one (j_ret (v_and (s_isi rfl c.f_isinstance rfl c.f_str PyProof.Rows.Boot.«str» (by decide) rfl rfl (s_var (i := 0) rfl (vis_of rfl) rfl rfl)) (v_and (s_chain o_le o_le (s_int) (s_callB c_len rfl c.f_len PyProof.Rows.Boot.«len» (a_cons rfl (s_var (i := 0) rfl (vis_of rfl) rfl rfl) (a_nil)) rfl (by decide) rfl) (s_gint c.i_LONGEST rfl rfl) rfl) (v_one (s_callB (c_all rfl) rfl c.f_all PyProof.Rows.Boot.«all» (a_cons rfl (s_lc (own := [("sign", 1)]) false rfl nd (i_seq (s_var (i := 0) rfl (vis_of rfl) rfl rfl)) (blkOk_by (by kernel_rfl)) (by decide) (fun _ _ _ _ _ => g_nm (i := 1) nd rfl (loc_of rfl) (.inr rfl)) (fun _ _ _ _ _ => ts_nil) (fun _ _ _ _ _ => s_cmp (o_in hu) (s_var (i := 1) rfl (vis_of rfl) rfl rfl) (s_gstr c.s_SIGNS rfl rfl) rfl) (fun _ => rfl)) (a_nil)) rfl (by decide) rfl)))))
def N_is_kind : List Str := ["thing"]
abbrev X_is_kind (w : World) (K : PySem.W.Frag) (mg : Str → Option Value) (base : Heap) (f : Addr) (cdv : Value) (A : Around) (outer : List Env) (s : Shared) (H : Hp) (E : XK) : Cx := cxOf (L2N.CX PP w) PP w K mg base N_is_kind "is_kind" (defScope (top 17)) f cdv A outer s H E
theorem nd_is_kind : N_is_kind.Nodup := by decide +kernel
theorem sc_is_kind : FnScope N_is_kind ["thing"] (defScope (top 17)) := C8.fnScope_by (by kernel_rfl)
theorem wk_is_kind (c : Fx K mg) (t : Tb w K mg base en k) (hr2 : Room (k + 3) (X_is_kind w K mg base f cdv A outer s H E).A) : PSs (X_is_kind w K mg base f cdv A outer s H E) (defBody (top 17)) (tS K en (fun c d _ H => E c d H) d_is_kind) := by
  have nd := nd_is_kind
  have hr := hr2.mono (show k ≤ k + 3 by omega)
  have hr1 := hr2.mono (show k + 1 ≤ k + 3 by omega)
  have hu := room_hu hr
  have hrX : Room (1 + 1) (X_is_kind w K mg base f cdv A outer s H E).A := hr2.mono (show 1 + 1 ≤ k + 3 by omega)
  have tk : L2N.Takes (X_is_kind w K mg base f cdv A outer s H E) (fun c d _ H => E c d H) := L2N.takes_of (X := X_is_kind w K mg base f cdv A outer s H E) (E := E) (E₁ := fun e s' => L2N.CX PP w outer H s E e s') rfl rfl rfl rfl
  have fl : Flat (fun c d (_ : L2.St) H => E c d H) := flatE
  show PSs (X_is_kind w K mg base f cdv A outer s H E) _ (tS K en (fun c d _ H => E c d H) (dRet (dAndV (dCall (isiF "str") (dCons (dVar 0) dNil)) (dBin inF (dVar 0) (dTup (dCons (dCst (.str "one")) (dCons (dCst (.str "group")) (dNil))))))))
  exact j_one (j_ret (v_and (s_isi rfl c.f_isinstance rfl c.f_str PyProof.Rows.Boot.«str» (by decide) rfl rfl (s_var (i := 0) rfl (vis_of rfl) rfl rfl)) (v_one (s_cmp (o_in hu) (s_var (i := 0) rfl (vis_of rfl) rfl rfl) (s_tup (a_cons rfl (s_gstr c.s_ONE rfl rfl) (a_cons rfl (s_gstr c.s_GROUP rfl rfl) (a_nil)))) rfl))))
def N_is_name : List Str := ["thing"]
abbrev X_is_name (w : World) (K : PySem.W.Frag) (mg : Str → Option Value) (base : Heap) (f : Addr) (cdv : Value) (A : Around) (outer : List Env) (s : Shared) (H : Hp) (E : XK) : Cx := cxOf (L2N.CX PP w) PP w K mg base N_is_name "is_name" (defScope (top 18)) f cdv A outer s H E
theorem nd_is_name : N_is_name.Nodup := by decide +kernel
theorem sc_is_name : FnScope N_is_name ["thing"] (defScope (top 18)) := C8.fnScope_by (by kernel_rfl)
theorem wk_is_name (c : Fx K mg) (t : Tb w K mg base en k) (hr2 : Room (k + 3) (X_is_name w K mg base f cdv A outer s H E).A) : PSs (X_is_name w K mg base f cdv A outer s H E) (defBody (top 18)) (tS K en (fun c d _ H => E c d H) d_is_name) := by
  have nd := nd_is_name
  have hr := hr2.mono (show k ≤ k + 3 by omega)
  have hr1 := hr2.mono (show k + 1 ≤ k + 3 by omega)
  have hu := room_hu hr
  have hrX : Room (1 + 1) (X_is_name w K mg base f cdv A outer s H E).A := hr2.mono (show 1 + 1 ≤ k + 3 by omega)
  have tk : L2N.Takes (X_is_name w K mg base f cdv A outer s H E) (fun c d _ H => E c d H) := L2N.takes_of (X := X_is_name w K mg base f cdv A outer s H E) (E := E) (E₁ := fun e s' => L2N.CX PP w outer H s E e s') rfl rfl rfl rfl
  have fl : Flat (fun c d (_ : L2.St) H => E c d H) := flatE
  show PSs (X_is_name w K mg base f cdv A outer s H E) _ (tS K en (fun c d _ H => E c d H) (dSeq (dIfS (dOr (dNot (dTst (dCall (isiF "tuple") (dCons (dVar 0) dNil)))) (dTst (dBin neF (dCall lenF (dCons (dVar 0) (dNil))) (dCst (.int 3))))) (dRet (dCst (.bl false))) (dNx)) (dRet (dAndV (dFn 2 1 (dCons (dBin idxF (dVar 0) (dCst (.int 0))) (dNil))) (dAndV (dFn 1 1 (dCons (dBin idxF (dVar 0) (dCst (.int 1))) (dNil))) (dFn 1 1 (dCons (dBin idxF (dVar 0) (dCst (.int 2))) (dNil))))))))
  exact j_cons (j_if (PW.pt (w_or (t_not (t_val (s_isi rfl c.f_isinstance rfl c.f_tuple PyProof.Rows.Boot.«tuple» (by decide) rfl rfl (s_var (i := 0) rfl (vis_of rfl) rfl rfl)) (fun _ => rfl))) (w_or1 (t_cmp (o_ne (hu64 hu)) (s_callB c_len rfl c.f_len PyProof.Rows.Boot.«len» (a_cons rfl (s_var (i := 0) rfl (vis_of rfl) rfl rfl) (a_nil)) rfl (by decide) rfl) (s_int) (nomark _))))) (j_one (j_ret (s_bl))) (j_nil)) (j_one (j_ret (v_and (s_fn t.c2 hr tk rfl (a_cons rfl (s_idx (hu1 hu) (s_var (i := 0) rfl (vis_of rfl) rfl rfl) (s_int) (fun _ _ => rfl)) (a_nil)) rfl rfl) (v_and (s_fn t.c1 hr tk rfl (a_cons rfl (s_idx (hu1 hu) (s_var (i := 0) rfl (vis_of rfl) rfl rfl) (s_int) (fun _ _ => rfl)) (a_nil)) rfl rfl) (v_one (s_fn t.c1 hr tk rfl (a_cons rfl (s_idx (hu1 hu) (s_var (i := 0) rfl (vis_of rfl) rfl rfl) (s_int) (fun _ _ => rfl)) (a_nil)) rfl rfl))))))
def N_need_word : List Str := ["thing"]
abbrev X_need_word (w : World) (K : PySem.W.Frag) (mg : Str → Option Value) (base : Heap) (f : Addr) (cdv : Value) (A : Around) (outer : List Env) (s : Shared) (H : Hp) (E : XK) : Cx := cxOf (L2N.CX PP w) PP w K mg base N_need_word "need_word" (defScope (top 19)) f cdv A outer s H E
theorem nd_need_word : N_need_word.Nodup := by decide +kernel
theorem sc_need_word : FnScope N_need_word ["thing"] (defScope (top 19)) := C8.fnScope_by (by kernel_rfl)
theorem wk_need_word (c : Fx K mg) (t : Tb w K mg base en k) (hr2 : Room (k + 3) (X_need_word w K mg base f cdv A outer s H E).A) : PSs (X_need_word w K mg base f cdv A outer s H E) (defBody (top 19)) (tS K en (fun c d _ H => E c d H) d_need_word) := by
  have nd := nd_need_word
  have hr := hr2.mono (show k ≤ k + 3 by omega)
  have hr1 := hr2.mono (show k + 1 ≤ k + 3 by omega)
  have hu := room_hu hr
  have hrX : Room (1 + 1) (X_need_word w K mg base f cdv A outer s H E).A := hr2.mono (show 1 + 1 ≤ k + 3 by omega)
  have tk : L2N.Takes (X_need_word w K mg base f cdv A outer s H E) (fun c d _ H => E c d H) := L2N.takes_of (X := X_need_word w K mg base f cdv A outer s H E) (E := E) (E₁ := fun e s' => L2N.CX PP w outer H s E e s') rfl rfl rfl rfl
  have fl : Flat (fun c d (_ : L2.St) H => E c d H) := flatE
  show PSs (X_need_word w K mg base f cdv A outer s H E) _ (tS K en (fun c d _ H => E c d H) (dIfS (dNot (dTst (dFn 1 1 (dCons (dVar 0) (dNil))))) (dRaise "BadName") (dNx)))
  exact j_one (j_if (t_not (t_val (s_fn t.c1 hr tk rfl (a_cons rfl (s_var (i := 0) rfl (vis_of rfl) rfl rfl) (a_nil)) rfl rfl) (fun _ => rfl))) (j_one (j_raise rfl tk c.e_BadName c.g_BadName rfl rfl)) (j_nil))
def N_need_name : List Str := ["thing"]
abbrev X_need_name (w : World) (K : PySem.W.Frag) (mg : Str → Option Value) (base : Heap) (f : Addr) (cdv : Value) (A : Around) (outer : List Env) (s : Shared) (H : Hp) (E : XK) : Cx := cxOf (L2N.CX PP w) PP w K mg base N_need_name "need_name" (defScope (top 20)) f cdv A outer s H E
theorem nd_need_name : N_need_name.Nodup := by decide +kernel
theorem sc_need_name : FnScope N_need_name ["thing"] (defScope (top 20)) := C8.fnScope_by (by kernel_rfl)
theorem wk_need_name (c : Fx K mg) (t : Tb w K mg base en k) (hr2 : Room (k + 3) (X_need_name w K mg base f cdv A outer s H E).A) : PSs (X_need_name w K mg base f cdv A outer s H E) (defBody (top 20)) (tS K en (fun c d _ H => E c d H) d_need_name) := by
  have nd := nd_need_name
  have hr := hr2.mono (show k ≤ k + 3 by omega)
  have hr1 := hr2.mono (show k + 1 ≤ k + 3 by omega)
  have hu := room_hu hr
  have hrX : Room (1 + 1) (X_need_name w K mg base f cdv A outer s H E).A := hr2.mono (show 1 + 1 ≤ k + 3 by omega)
  have tk : L2N.Takes (X_need_name w K mg base f cdv A outer s H E) (fun c d _ H => E c d H) := L2N.takes_of (X := X_need_name w K mg base f cdv A outer s H E) (E := E) (E₁ := fun e s' => L2N.CX PP w outer H s E e s') rfl rfl rfl rfl
  have fl : Flat (fun c d (_ : L2.St) H => E c d H) := flatE
  show PSs (X_need_name w K mg base f cdv A outer s H E) _ (tS K en (fun c d _ H => E c d H) (dIfS (dNot (dTst (dFn 3 1 (dCons (dVar 0) (dNil))))) (dRaise "BadName") (dNx)))
  exact j_one (j_if (t_not (t_val (s_fn t.c3 hr tk rfl (a_cons rfl (s_var (i := 0) rfl (vis_of rfl) rfl rfl) (a_nil)) rfl rfl) (fun _ => rfl))) (j_one (j_raise rfl tk c.e_BadName c.g_BadName rfl rfl)) (j_nil))
def N_with_number : List Str := ["word", "number", "tail"]
abbrev X_with_number (w : World) (K : PySem.W.Frag) (mg : Str → Option Value) (base : Heap) (f : Addr) (cdv : Value) (A : Around) (outer : List Env) (s : Shared) (H : Hp) (E : XK) : Cx := cxOf (L2N.CX PP w) PP w K mg base N_with_number "with_number" (defScope (top 21)) f cdv A outer s H E
theorem nd_with_number : N_with_number.Nodup := by decide +kernel
theorem sc_with_number : FnScope N_with_number ["word", "number"] (defScope (top 21)) := C8.fnScope_by (by kernel_rfl)
theorem wk_with_number (c : Fx K mg) (t : Tb w K mg base en k) (hr2 : Room (k + 3) (X_with_number w K mg base f cdv A outer s H E).A) : PSs (X_with_number w K mg base f cdv A outer s H E) (defBody (top 21)) (tS K en (fun c d _ H => E c d H) d_with_number) := by
  have nd := nd_with_number
  have hr := hr2.mono (show k ≤ k + 3 by omega)
  have hr1 := hr2.mono (show k + 1 ≤ k + 3 by omega)
  have hu := room_hu hr
  have hrX : Room (1 + 1) (X_with_number w K mg base f cdv A outer s H E).A := hr2.mono (show 1 + 1 ≤ k + 3 by omega)
  have tk : L2N.Takes (X_with_number w K mg base f cdv A outer s H E) (fun c d _ H => E c d H) := L2N.takes_of (X := X_with_number w K mg base f cdv A outer s H E) (E := E) (E₁ := fun e s' => L2N.CX PP w outer H s E e s') rfl rfl rfl rfl
  have fl : Flat (fun c d (_ : L2.St) H => E c d H) := flatE
  show PSs (X_with_number w K mg base f cdv A outer s H E) _ (tS K en (fun c d _ H => E c d H) (dSeq (dSet 2 (dCall strF (dCons (dVar 1) (dNil)))) (dRet (dBin (addF false) (dSl false (dVar 0) (pNo) (pYes (dBin subF (dCst (.int 8)) (dCall lenF (dCons (dVar 2) (dNil)))))) (dVar 2)))))
  exact j_cons (j_set (i := 2) nd rfl (loc_of rfl) (.inl rfl) (s_callTy c_str rfl c.f_str PyProof.Rows.Boot.«str» (a_cons rfl (s_var (i := 1) rfl (vis_of rfl) rfl rfl) (a_nil)) rfl (by decide) rfl) rfl) (j_one (j_ret (s_bin (o_add false) (s_sl false (s_var (i := 0) rfl (vis_of rfl) rfl rfl) (p_no) (p_yes (s_bin o_sub (s_gint c.i_LONGEST rfl rfl) (s_callB c_len rfl c.f_len PyProof.Rows.Boot.«len» (a_cons rfl (s_var (i := 2) rfl (vis_of rfl) rfl rfl) (a_nil)) rfl (by decide) rfl)))) (s_var (i := 2) rfl (vis_of rfl) rfl rfl))))
def N_is_whole : List Str := ["thing"]
abbrev X_is_whole (w : World) (K : PySem.W.Frag) (mg : Str → Option Value) (base : Heap) (f : Addr) (cdv : Value) (A : Around) (outer : List Env) (s : Shared) (H : Hp) (E : XK) : Cx := cxOf (L2N.CX PP w) PP w K mg base N_is_whole "is_whole" (defScope (top 25)) f cdv A outer s H E
theorem nd_is_whole : N_is_whole.Nodup := by decide +kernel
theorem sc_is_whole : FnScope N_is_whole ["thing"] (defScope (top 25)) := C8.fnScope_by (by kernel_rfl)
theorem wk_is_whole (c : Fx K mg) (t : Tb w K mg base en k) (hr2 : Room (k + 3) (X_is_whole w K mg base f cdv A outer s H E).A) : PSs (X_is_whole w K mg base f cdv A outer s H E) (defBody (top 25)) (tS K en (fun c d _ H => E c d H) d_is_whole) := by
  have nd := nd_is_whole
  have hr := hr2.mono (show k ≤ k + 3 by omega)
  have hr1 := hr2.mono (show k + 1 ≤ k + 3 by omega)
  have hu := room_hu hr
  have hrX : Room (1 + 1) (X_is_whole w K mg base f cdv A outer s H E).A := hr2.mono (show 1 + 1 ≤ k + 3 by omega)
  have tk : L2N.Takes (X_is_whole w K mg base f cdv A outer s H E) (fun c d _ H => E c d H) := L2N.takes_of (X := X_is_whole w K mg base f cdv A outer s H E) (E := E) (E₁ := fun e s' => L2N.CX PP w outer H s E e s') rfl rfl rfl rfl
  have fl : Flat (fun c d (_ : L2.St) H => E c d H) := flatE
  show PSs (X_is_whole w K mg base f cdv A outer s H E) _ (tS K en (fun c d _ H => E c d H) (dRet (dAndV (dCall (isiF "int") (dCons (dVar 0) dNil)) (dNotV (dCall (isiF "bool") (dCons (dVar 0) dNil))))))
  exact j_one (j_ret (v_and (s_isi rfl c.f_isinstance rfl c.f_int PyProof.Rows.Boot.«int» (by decide) rfl rfl (s_var (i := 0) rfl (vis_of rfl) rfl rfl)) (v_one (v_not (s_isi rfl c.f_isinstance rfl c.f_bool PyProof.Rows.Boot.«bool» (by decide) rfl rfl (s_var (i := 0) rfl (vis_of rfl) rfl rfl))))))
def N_Roof_init : List Str := ["self"]
abbrev X_Roof_init (w : World) (K : PySem.W.Frag) (mg : Str → Option Value) (base : Heap) (f : Addr) (cdv : Value) (A : Around) (outer : List Env) (s : Shared) (H : Hp) (E : XK) : Cx := cxOf (L2N.CX PP w) PP w K mg base N_Roof_init "Roof.__init__" (defScope (inClass (top 26) 0)) f cdv A outer s H E
theorem nd_Roof_init : N_Roof_init.Nodup := by decide +kernel
theorem sc_Roof_init : FnScope N_Roof_init ["self"] (defScope (inClass (top 26) 0)) := C8.fnScope_by (by kernel_rfl)
theorem wk_Roof_init (c : Fx K mg) (t : Tb w K mg base en k) (hr2 : Room (k + 3) (X_Roof_init w K mg base f cdv A outer s H E).A) : PSs (X_Roof_init w K mg base f cdv A outer s H E) (defBody (inClass (top 26) 0)) (tS K en (fun c d _ H => E c d H) d_Roof_init) := by
  have nd := nd_Roof_init
  have hr := hr2.mono (show k ≤ k + 3 by omega)
  have hr1 := hr2.mono (show k + 1 ≤ k + 3 by omega)
  have hu := room_hu hr
  have hrX : Room (1 + 1) (X_Roof_init w K mg base f cdv A outer s H E).A := hr2.mono (show 1 + 1 ≤ k + 3 by omega)
  have tk : L2N.Takes (X_Roof_init w K mg base f cdv A outer s H E) (fun c d _ H => E c d H) := L2N.takes_of (X := X_Roof_init w K mg base f cdv A outer s H E) (E := E) (E₁ := fun e s' => L2N.CX PP w outer H s E e s') rfl rfl rfl rfl
  have fl : Flat (fun c d (_ : L2.St) H => E c d H) := flatE
  show PSs (X_Roof_init w K mg base f cdv A outer s H E) _ (tS K en (fun c d _ H => E c d H) (dSeq (dSetF "kinds" (dVar 0) (dNewD false)) (dSeq (dSetF "homes" (dVar 0) (dNewD false)) (dSeq (dSetF "inside" (dVar 0) (dNewD false)) (dSeq (dSetF "trusts" (dVar 0) (dNewD false)) (dSeq (dSetF "spans" (dVar 0) (dNewD false)) (dSeq (dSetF "given" (dVar 0) (dNewD false)) (dSeq (dSetF "next" (dVar 0) (dCst (.int 100))) (dSeq (dSetF "deeds" (dVar 0) (dLst true (dNil))) (dSetF "past" (dVar 0) (dLst true (dNil))))))))))))
  exact j_cons (j_setF c.cls c.n_kinds (s_var (i := 0) rfl (vis_of rfl) rfl rfl) (s_dnew false) rfl) (j_cons (j_setF c.cls c.n_homes (s_var (i := 0) rfl (vis_of rfl) rfl rfl) (s_dnew false) rfl) (j_cons (j_setF c.cls c.n_inside (s_var (i := 0) rfl (vis_of rfl) rfl rfl) (s_dnew false) rfl) (j_cons (j_setF c.cls c.n_trusts (s_var (i := 0) rfl (vis_of rfl) rfl rfl) (s_dnew false) rfl) (j_cons (j_setF c.cls c.n_spans (s_var (i := 0) rfl (vis_of rfl) rfl rfl) (s_dnew false) rfl) (j_cons (j_setF c.cls c.n_given (s_var (i := 0) rfl (vis_of rfl) rfl rfl) (s_dnew false) rfl) (j_cons (j_setF c.cls c.n_next (s_var (i := 0) rfl (vis_of rfl) rfl rfl) (s_gint c.i_FIRST rfl rfl) rfl) (j_cons (j_setF c.cls c.n_deeds (s_var (i := 0) rfl (vis_of rfl) rfl rfl) (s_lst (cell := true) (a_nil)) rfl) (j_one (j_setF c.cls c.n_past (s_var (i := 0) rfl (vis_of rfl) rfl rfl) (s_lst (cell := true) (a_nil)) rfl)))))))))
def N_Roof_eq : List Str := ["self", "other"]
abbrev X_Roof_eq (w : World) (K : PySem.W.Frag) (mg : Str → Option Value) (base : Heap) (f : Addr) (cdv : Value) (A : Around) (outer : List Env) (s : Shared) (H : Hp) (E : XK) : Cx := cxOf (L2N.CX PP w) PP w K mg base N_Roof_eq "Roof.__eq__" (defScope (inClass (top 26) 1)) f cdv A outer s H E
theorem nd_Roof_eq : N_Roof_eq.Nodup := by decide +kernel
theorem sc_Roof_eq : FnScope N_Roof_eq ["self", "other"] (defScope (inClass (top 26) 1)) := C8.fnScope_by (by kernel_rfl)
theorem wk_Roof_eq (c : Fx K mg) (t : Tb w K mg base en k) (hr2 : Room (k + 3) (X_Roof_eq w K mg base f cdv A outer s H E).A) : PSs (X_Roof_eq w K mg base f cdv A outer s H E) (defBody (inClass (top 26) 1)) (tS K en (fun c d _ H => E c d H) d_Roof_eq) := by
  have nd := nd_Roof_eq
  have hr := hr2.mono (show k ≤ k + 3 by omega)
  have hr1 := hr2.mono (show k + 1 ≤ k + 3 by omega)
  have hu := room_hu hr
  have hrX : Room (1 + 1) (X_Roof_eq w K mg base f cdv A outer s H E).A := hr2.mono (show 1 + 1 ≤ k + 3 by omega)
  have tk : L2N.Takes (X_Roof_eq w K mg base f cdv A outer s H E) (fun c d _ H => E c d H) := L2N.takes_of (X := X_Roof_eq w K mg base f cdv A outer s H E) (E := E) (E₁ := fun e s' => L2N.CX PP w outer H s E e s') rfl rfl rfl rfl
  have fl : Flat (fun c d (_ : L2.St) H => E c d H) := flatE
  show PSs (X_Roof_eq w K mg base f cdv A outer s H E) _ (tS K en (fun c d _ H => E c d H) (dRet (dAndV (dBadE) (dBin eqF (dMe 10 1 "state" (dVar 0) dNil) (dMe 10 1 "state" (dVar 1) dNil)))))
  exact j_one (j_ret (v_and (s_badE) (v_one (s_cmp (o_eq (hu64 hu)) (s_me0 t.c10 hr tk fl (s_var (i := 0) rfl (vis_of rfl) rfl rfl) rfl) (s_me0 t.c10 hr tk fl (s_var (i := 1) rfl (vis_of rfl) rfl rfl) rfl) (nomark _)))))
def N_Roof_state : List Str := ["self", "kept", "trusts", "spans", "one"]
abbrev X_Roof_state (w : World) (K : PySem.W.Frag) (mg : Str → Option Value) (base : Heap) (f : Addr) (cdv : Value) (A : Around) (outer : List Env) (s : Shared) (H : Hp) (E : XK) : Cx := cxOf (L2N.CX PP w) PP w K mg base N_Roof_state "Roof.state" (defScope (inClass (top 26) 2)) f cdv A outer s H E
theorem nd_Roof_state : N_Roof_state.Nodup := by decide +kernel
theorem sc_Roof_state : FnScope N_Roof_state ["self"] (defScope (inClass (top 26) 2)) := C8.fnScope_by (by kernel_rfl)
theorem wk_Roof_state (c : Fx K mg) (t : Tb w K mg base en k) (hr2 : Room (k + 3) (X_Roof_state w K mg base f cdv A outer s H E).A) : PSs (X_Roof_state w K mg base f cdv A outer s H E) (defBody (inClass (top 26) 2)) (tS K en (fun c d _ H => E c d H) d_Roof_state) := by
  have nd := nd_Roof_state
  have hr := hr2.mono (show k ≤ k + 3 by omega)
  have hr1 := hr2.mono (show k + 1 ≤ k + 3 by omega)
  have hu := room_hu hr
  have hrX : Room (1 + 1) (X_Roof_state w K mg base f cdv A outer s H E).A := hr2.mono (show 1 + 1 ≤ k + 3 by omega)
  have tk : L2N.Takes (X_Roof_state w K mg base f cdv A outer s H E) (fun c d _ H => E c d H) := L2N.takes_of (X := X_Roof_state w K mg base f cdv A outer s H E) (E := E) (E₁ := fun e s' => L2N.CX PP w outer H s E e s') rfl rfl rfl rfl
  have fl : Flat (fun c d (_ : L2.St) H => E c d H) := flatE
  show PSs (X_Roof_state w K mg base f cdv A outer s H E) _ (tS K en (fun c d _ H => E c d H) (dSeq (dSet 1 (dTup (dCons (dCall dictF (dCons (dUn (fldF "kinds") (dVar 0)) (dNil))) (dCons (dCall dictF (dCons (dUn (fldF "homes") (dVar 0)) (dNil))) (dCons (dLkE (dUn (fldF "inside") (dVar 0)) (dDc (zKey (dUn (fldF "inside") (dVar 0))) (.nm 4) (dYes) (dVar 4) (dCall (listF false) (dCons (dBin idxF (dUn (fldF "inside") (dVar 0)) (dVar 4)) (dNil))) [4])) (dNil)))))) (dSeq (dLk (dUn (fldF "trusts") (dVar 0)) (dSet 2 (dDc (zKey (dUn (fldF "trusts") (dVar 0))) (.nm 4) (dYes) (dVar 4) (dCall (listF false) (dCons (dBin idxF (dUn (fldF "trusts") (dVar 0)) (dVar 4)) (dNil))) [4]))) (dSeq (dLk (dUn (fldF "spans") (dVar 0)) (dSet 3 (dDc (zKey (dUn (fldF "spans") (dVar 0))) (.nm 4) (dYes) (dVar 4) (dCall (listF false) (dCons (dBin idxF (dUn (fldF "spans") (dVar 0)) (dVar 4)) (dNil))) [4]))) (dRet (dBin (addF false) (dVar 1) (dTup (dCons (dVar 2) (dCons (dVar 3) (dCons (dCall dictF (dCons (dUn (fldF "given") (dVar 0)) (dNil))) (dCons (dUn (fldF "next") (dVar 0)) (dNil))))))))))))
  exact j_cons (j_set (i := 1) nd rfl (loc_of rfl) (.inl rfl) (s_tup (a_cons rfl (s_callTy c_dict rfl c.f_dict PyProof.Rows.Boot.«dict» (a_cons rfl (s_fld c.cls c.n_kinds (s_var (i := 0) rfl (vis_of rfl) rfl rfl) rfl) (a_nil)) rfl (by decide) rfl) (a_cons rfl (s_callTy c_dict rfl c.f_dict PyProof.Rows.Boot.«dict» (a_cons rfl (s_fld c.cls c.n_homes (s_var (i := 0) rfl (vis_of rfl) rfl rfl) rfl) (a_nil)) rfl (by decide) rfl) (a_cons rfl (s_lk (dUn (fldF "inside") (dVar 0)) (s_dc (own := [("one", 4)]) rfl nd (i_key (s_fld c.cls c.n_inside (s_var (i := 0) rfl (vis_of rfl) rfl rfl) rfl)) (blkOk_by (by kernel_rfl)) (by decide) (fun _ _ _ _ _ => g_nm (i := 4) nd rfl (loc_of rfl) (.inr rfl)) (fun _ _ _ _ _ => ts_nil) (fun _ _ _ _ _ => s_var (i := 4) rfl (vis_of rfl) rfl rfl) (fun _ _ _ _ _ => s_callTy (c_list rfl false) rfl c.f_list PyProof.Rows.Boot.«list» (a_cons rfl (s_idx (hu1 hu) (s_fld c.cls c.n_inside (s_var (i := 0) rfl (vis_of rfl) rfl rfl) rfl) (s_var (i := 4) rfl (vis_of rfl) rfl rfl) (fun _ _ => rfl)) (a_nil)) rfl (by decide) rfl) (fun _ => rfl))) (a_nil))))) rfl) (j_cons (j_lk (dUn (fldF "trusts") (dVar 0)) (j_setDc (i := 2) (own := [("one", 4)]) rfl nd rfl rfl rfl (i_key (s_fld c.cls c.n_trusts (s_var (i := 0) rfl (vis_of rfl) rfl rfl) rfl)) (blkOk_by (by kernel_rfl)) (by decide) (fun _ _ _ _ _ => g_nm (i := 4) nd rfl (loc_of rfl) (.inr rfl)) (fun _ _ _ _ _ => ts_nil) (fun _ _ _ _ _ => s_var (i := 4) rfl (vis_of rfl) rfl rfl) (fun _ _ _ _ _ => s_callTy (c_list rfl false) rfl c.f_list PyProof.Rows.Boot.«list» (a_cons rfl (s_idx (hu1 hu) (s_fld c.cls c.n_trusts (s_var (i := 0) rfl (vis_of rfl) rfl rfl) rfl) (s_var (i := 4) rfl (vis_of rfl) rfl rfl) (fun _ _ => rfl)) (a_nil)) rfl (by decide) rfl) (fun _ => rfl))) (j_cons (j_lk (dUn (fldF "spans") (dVar 0)) (j_setDc (i := 3) (own := [("one", 4)]) rfl nd rfl rfl rfl (i_key (s_fld c.cls c.n_spans (s_var (i := 0) rfl (vis_of rfl) rfl rfl) rfl)) (blkOk_by (by kernel_rfl)) (by decide) (fun _ _ _ _ _ => g_nm (i := 4) nd rfl (loc_of rfl) (.inr rfl)) (fun _ _ _ _ _ => ts_nil) (fun _ _ _ _ _ => s_var (i := 4) rfl (vis_of rfl) rfl rfl) (fun _ _ _ _ _ => s_callTy (c_list rfl false) rfl c.f_list PyProof.Rows.Boot.«list» (a_cons rfl (s_idx (hu1 hu) (s_fld c.cls c.n_spans (s_var (i := 0) rfl (vis_of rfl) rfl rfl) rfl) (s_var (i := 4) rfl (vis_of rfl) rfl rfl) (fun _ _ => rfl)) (a_nil)) rfl (by decide) rfl) (fun _ => rfl))) (j_one (j_ret (s_bin (o_add false) (s_var (i := 1) rfl (vis_of rfl) rfl rfl) (s_tup (a_cons rfl (s_var (i := 2) rfl (vis_of rfl) rfl rfl) (a_cons rfl (s_var (i := 3) rfl (vis_of rfl) rfl rfl) (a_cons rfl (s_callTy c_dict rfl c.f_dict PyProof.Rows.Boot.«dict» (a_cons rfl (s_fld c.cls c.n_given (s_var (i := 0) rfl (vis_of rfl) rfl rfl) rfl) (a_nil)) rfl (by decide) rfl) (a_cons rfl (s_fld c.cls c.n_next (s_var (i := 0) rfl (vis_of rfl) rfl rfl) rfl) (a_nil)))))))))))
def N_Roof_begin : List Str := ["self", "row"]
abbrev X_Roof_begin (w : World) (K : PySem.W.Frag) (mg : Str → Option Value) (base : Heap) (f : Addr) (cdv : Value) (A : Around) (outer : List Env) (s : Shared) (H : Hp) (E : XK) : Cx := cxOf (L2N.CX PP w) PP w K mg base N_Roof_begin "Roof.begin" (defScope (inClass (top 26) 3)) f cdv A outer s H E
theorem nd_Roof_begin : N_Roof_begin.Nodup := by decide +kernel
theorem sc_Roof_begin : FnScope N_Roof_begin ["self", "row"] (defScope (inClass (top 26) 3)) := C8.fnScope_by (by kernel_rfl)
theorem wk_Roof_begin (c : Fx K mg) (t : Tb w K mg base en k) (hr2 : Room (k + 3) (X_Roof_begin w K mg base f cdv A outer s H E).A) : PSs (X_Roof_begin w K mg base f cdv A outer s H E) (defBody (inClass (top 26) 3)) (tS K en (fun c d _ H => E c d H) d_Roof_begin) := by
  have nd := nd_Roof_begin
  have hr := hr2.mono (show k ≤ k + 3 by omega)
  have hr1 := hr2.mono (show k + 1 ≤ k + 3 by omega)
  have hu := room_hu hr
  have hrX : Room (1 + 1) (X_Roof_begin w K mg base f cdv A outer s H E).A := hr2.mono (show 1 + 1 ≤ k + 3 by omega)
  have tk : L2N.Takes (X_Roof_begin w K mg base f cdv A outer s H E) (fun c d _ H => E c d H) := L2N.takes_of (X := X_Roof_begin w K mg base f cdv A outer s H E) (E := E) (E₁ := fun e s' => L2N.CX PP w outer H s E e s') rfl rfl rfl rfl
  have fl : Flat (fun c d (_ : L2.St) H => E c d H) := flatE
  show PSs (X_Roof_begin w K mg base f cdv A outer s H E) _ (tS K en (fun c d _ H => E c d H) (dSeq (dExp (dMt tyL appendF (dUn (fldF "past") (dVar 0)) (dCons (dMe 10 1 "state" (dVar 0) dNil) (dNil)))) (dExp (dMt tyL appendF (dUn (fldF "deeds") (dVar 0)) (dCons (dVar 1) (dNil))))))
  exact j_cons (j_exp (k_append (s_fld c.cls c.n_past (s_var (i := 0) rfl (vis_of rfl) rfl rfl) rfl) (a_cons rfl (s_me0 t.c10 hr tk fl (s_var (i := 0) rfl (vis_of rfl) rfl rfl) rfl) (a_nil)) rfl rfl rfl rfl) rfl) (j_one (j_exp (k_append (s_fld c.cls c.n_deeds (s_var (i := 0) rfl (vis_of rfl) rfl rfl) rfl) (a_cons rfl (s_var (i := 1) rfl (vis_of rfl) rfl rfl) (a_nil)) rfl rfl rfl rfl) rfl))
def N_Roof_need_house : List Str := ["self", "house"]
abbrev X_Roof_need_house (w : World) (K : PySem.W.Frag) (mg : Str → Option Value) (base : Heap) (f : Addr) (cdv : Value) (A : Around) (outer : List Env) (s : Shared) (H : Hp) (E : XK) : Cx := cxOf (L2N.CX PP w) PP w K mg base N_Roof_need_house "Roof.need_house" (defScope (inClass (top 26) 4)) f cdv A outer s H E
theorem nd_Roof_need_house : N_Roof_need_house.Nodup := by decide +kernel
theorem sc_Roof_need_house : FnScope N_Roof_need_house ["self", "house"] (defScope (inClass (top 26) 4)) := C8.fnScope_by (by kernel_rfl)
theorem wk_Roof_need_house (c : Fx K mg) (t : Tb w K mg base en k) (hr2 : Room (k + 3) (X_Roof_need_house w K mg base f cdv A outer s H E).A) : PSs (X_Roof_need_house w K mg base f cdv A outer s H E) (defBody (inClass (top 26) 4)) (tS K en (fun c d _ H => E c d H) d_Roof_need_house) := by
  have nd := nd_Roof_need_house
  have hr := hr2.mono (show k ≤ k + 3 by omega)
  have hr1 := hr2.mono (show k + 1 ≤ k + 3 by omega)
  have hu := room_hu hr
  have hrX : Room (1 + 1) (X_Roof_need_house w K mg base f cdv A outer s H E).A := hr2.mono (show 1 + 1 ≤ k + 3 by omega)
  have tk : L2N.Takes (X_Roof_need_house w K mg base f cdv A outer s H E) (fun c d _ H => E c d H) := L2N.takes_of (X := X_Roof_need_house w K mg base f cdv A outer s H E) (E := E) (E₁ := fun e s' => L2N.CX PP w outer H s E e s') rfl rfl rfl rfl
  have fl : Flat (fun c d (_ : L2.St) H => E c d H) := flatE
  show PSs (X_Roof_need_house w K mg base f cdv A outer s H E) _ (tS K en (fun c d _ H => E c d H) (dIfS (dOr (dNot (dTst (dCall (isiF "str") (dCons (dVar 1) dNil)))) (dTst (dBin notInF (dVar 1) (dUn (fldF "spans") (dVar 0))))) (dRaise "NoHouse") (dNx)))
  exact j_one (j_if (PW.pt (w_or (t_not (t_val (s_isi rfl c.f_isinstance rfl c.f_str PyProof.Rows.Boot.«str» (by decide) rfl rfl (s_var (i := 1) rfl (vis_of rfl) rfl rfl)) (fun _ => rfl))) (w_or1 (t_cmp (o_notIn hu) (s_var (i := 1) rfl (vis_of rfl) rfl rfl) (s_fld c.cls c.n_spans (s_var (i := 0) rfl (vis_of rfl) rfl rfl) rfl) rfl)))) (j_one (j_raise rfl tk c.e_NoHouse c.g_NoHouse rfl rfl)) (j_nil))
def N_Roof_need_two : List Str := ["self", "house", "other"]
abbrev X_Roof_need_two (w : World) (K : PySem.W.Frag) (mg : Str → Option Value) (base : Heap) (f : Addr) (cdv : Value) (A : Around) (outer : List Env) (s : Shared) (H : Hp) (E : XK) : Cx := cxOf (L2N.CX PP w) PP w K mg base N_Roof_need_two "Roof.need_two" (defScope (inClass (top 26) 5)) f cdv A outer s H E
theorem nd_Roof_need_two : N_Roof_need_two.Nodup := by decide +kernel
theorem sc_Roof_need_two : FnScope N_Roof_need_two ["self", "house", "other"] (defScope (inClass (top 26) 5)) := C8.fnScope_by (by kernel_rfl)
theorem wk_Roof_need_two (c : Fx K mg) (t : Tb w K mg base en k) (hr2 : Room (k + 3) (X_Roof_need_two w K mg base f cdv A outer s H E).A) : PSs (X_Roof_need_two w K mg base f cdv A outer s H E) (defBody (inClass (top 26) 5)) (tS K en (fun c d _ H => E c d H) d_Roof_need_two) := by
  have nd := nd_Roof_need_two
  have hr := hr2.mono (show k ≤ k + 3 by omega)
  have hr1 := hr2.mono (show k + 1 ≤ k + 3 by omega)
  have hu := room_hu hr
  have hrX : Room (1 + 1) (X_Roof_need_two w K mg base f cdv A outer s H E).A := hr2.mono (show 1 + 1 ≤ k + 3 by omega)
  have tk : L2N.Takes (X_Roof_need_two w K mg base f cdv A outer s H E) (fun c d _ H => E c d H) := L2N.takes_of (X := X_Roof_need_two w K mg base f cdv A outer s H E) (E := E) (E₁ := fun e s' => L2N.CX PP w outer H s E e s') rfl rfl rfl rfl
  have fl : Flat (fun c d (_ : L2.St) H => E c d H) := flatE
  show PSs (X_Roof_need_two w K mg base f cdv A outer s H E) _ (tS K en (fun c d _ H => E c d H) (dSeq (dExp (dMe 12 2 "need_house" (dVar 0) (dCons (dVar 1) (dNil)))) (dSeq (dExp (dMe 12 2 "need_house" (dVar 0) (dCons (dVar 2) (dNil)))) (dIfS (dTst (dBin eqF (dVar 1) (dVar 2))) (dRaise "NoHouse") (dNx)))))
  exact j_cons (j_exp (s_me t.c12 hr tk fl (s_var (i := 0) rfl (vis_of rfl) rfl rfl) (a_cons rfl (s_var (i := 1) rfl (vis_of rfl) rfl rfl) (a_nil)) rfl rfl) rfl) (j_cons (j_exp (s_me t.c12 hr tk fl (s_var (i := 0) rfl (vis_of rfl) rfl rfl) (a_cons rfl (s_var (i := 2) rfl (vis_of rfl) rfl rfl) (a_nil)) rfl rfl) rfl) (j_one (j_if (t_cmp (o_eq (hu64 hu)) (s_var (i := 1) rfl (vis_of rfl) rfl rfl) (s_var (i := 2) rfl (vis_of rfl) rfl rfl) (nomark _)) (j_one (j_raise rfl tk c.e_NoHouse c.g_NoHouse rfl rfl)) (j_nil))))
def N_Roof_need_one : List Str := ["self", "who"]
abbrev X_Roof_need_one (w : World) (K : PySem.W.Frag) (mg : Str → Option Value) (base : Heap) (f : Addr) (cdv : Value) (A : Around) (outer : List Env) (s : Shared) (H : Hp) (E : XK) : Cx := cxOf (L2N.CX PP w) PP w K mg base N_Roof_need_one "Roof.need_one" (defScope (inClass (top 26) 6)) f cdv A outer s H E
theorem nd_Roof_need_one : N_Roof_need_one.Nodup := by decide +kernel
theorem sc_Roof_need_one : FnScope N_Roof_need_one ["self", "who"] (defScope (inClass (top 26) 6)) := C8.fnScope_by (by kernel_rfl)
theorem wk_Roof_need_one (c : Fx K mg) (t : Tb w K mg base en k) (hr2 : Room (k + 3) (X_Roof_need_one w K mg base f cdv A outer s H E).A) : PSs (X_Roof_need_one w K mg base f cdv A outer s H E) (defBody (inClass (top 26) 6)) (tS K en (fun c d _ H => E c d H) d_Roof_need_one) := by
  have nd := nd_Roof_need_one
  have hr := hr2.mono (show k ≤ k + 3 by omega)
  have hr1 := hr2.mono (show k + 1 ≤ k + 3 by omega)
  have hu := room_hu hr
  have hrX : Room (1 + 1) (X_Roof_need_one w K mg base f cdv A outer s H E).A := hr2.mono (show 1 + 1 ≤ k + 3 by omega)
  have tk : L2N.Takes (X_Roof_need_one w K mg base f cdv A outer s H E) (fun c d _ H => E c d H) := L2N.takes_of (X := X_Roof_need_one w K mg base f cdv A outer s H E) (E := E) (E₁ := fun e s' => L2N.CX PP w outer H s E e s') rfl rfl rfl rfl
  have fl : Flat (fun c d (_ : L2.St) H => E c d H) := flatE
  show PSs (X_Roof_need_one w K mg base f cdv A outer s H E) _ (tS K en (fun c d _ H => E c d H) (dIfS (dOr (dNot (dTst (dFn 7 1 (dCons (dVar 1) (dNil))))) (dTst (dBin notInF (dVar 1) (dUn (fldF "kinds") (dVar 0))))) (dRaiseF "NoOne" (dVar 1)) (dNx)))
  exact j_one (j_if (PW.pt (w_or (t_not (t_val (s_fn t.c7 hr tk rfl (a_cons rfl (s_var (i := 1) rfl (vis_of rfl) rfl rfl) (a_nil)) rfl rfl) (fun _ => rfl))) (w_or1 (t_cmp (o_notIn hu) (s_var (i := 1) rfl (vis_of rfl) rfl rfl) (s_fld c.cls c.n_kinds (s_var (i := 0) rfl (vis_of rfl) rfl rfl) rfl) rfl)))) (j_one (j_raiseF rfl tk t.x_NoOne hrX rfl rfl rfl (s_var (i := 1) rfl (vis_of rfl) rfl rfl))) (j_nil))
def N_Roof_need_group : List Str := ["self", "who"]
abbrev X_Roof_need_group (w : World) (K : PySem.W.Frag) (mg : Str → Option Value) (base : Heap) (f : Addr) (cdv : Value) (A : Around) (outer : List Env) (s : Shared) (H : Hp) (E : XK) : Cx := cxOf (L2N.CX PP w) PP w K mg base N_Roof_need_group "Roof.need_group" (defScope (inClass (top 26) 7)) f cdv A outer s H E
theorem nd_Roof_need_group : N_Roof_need_group.Nodup := by decide +kernel
theorem sc_Roof_need_group : FnScope N_Roof_need_group ["self", "who"] (defScope (inClass (top 26) 7)) := C8.fnScope_by (by kernel_rfl)
theorem wk_Roof_need_group (c : Fx K mg) (t : Tb w K mg base en k) (hr2 : Room (k + 3) (X_Roof_need_group w K mg base f cdv A outer s H E).A) : PSs (X_Roof_need_group w K mg base f cdv A outer s H E) (defBody (inClass (top 26) 7)) (tS K en (fun c d _ H => E c d H) d_Roof_need_group) := by
  have nd := nd_Roof_need_group
  have hr := hr2.mono (show k ≤ k + 3 by omega)
  have hr1 := hr2.mono (show k + 1 ≤ k + 3 by omega)
  have hu := room_hu hr
  have hrX : Room (1 + 1) (X_Roof_need_group w K mg base f cdv A outer s H E).A := hr2.mono (show 1 + 1 ≤ k + 3 by omega)
  have tk : L2N.Takes (X_Roof_need_group w K mg base f cdv A outer s H E) (fun c d _ H => E c d H) := L2N.takes_of (X := X_Roof_need_group w K mg base f cdv A outer s H E) (E := E) (E₁ := fun e s' => L2N.CX PP w outer H s E e s') rfl rfl rfl rfl
  have fl : Flat (fun c d (_ : L2.St) H => E c d H) := flatE
  show PSs (X_Roof_need_group w K mg base f cdv A outer s H E) _ (tS K en (fun c d _ H => E c d H) (dSeq (dExp (dMe 14 2 "need_one" (dVar 0) (dCons (dVar 1) (dNil)))) (dIfS (dTst (dBin neF (dBin idxF (dUn (fldF "kinds") (dVar 0)) (dVar 1)) (dCst (.str "group")))) (dRaiseF "NoOne" (dVar 1)) (dNx))))
  exact j_cons (j_exp (s_me t.c14 hr tk fl (s_var (i := 0) rfl (vis_of rfl) rfl rfl) (a_cons rfl (s_var (i := 1) rfl (vis_of rfl) rfl rfl) (a_nil)) rfl rfl) rfl) (j_one (j_if (t_cmp (o_ne (hu64 hu)) (s_idx (hu1 hu) (s_fld c.cls c.n_kinds (s_var (i := 0) rfl (vis_of rfl) rfl rfl) rfl) (s_var (i := 1) rfl (vis_of rfl) rfl rfl) (fun _ _ => rfl)) (s_gstr c.s_GROUP rfl rfl) (nomark _)) (j_one (j_raiseF rfl tk t.x_NoOne hrX rfl rfl rfl (s_var (i := 1) rfl (vis_of rfl) rfl rfl))) (j_nil)))
def N_Roof_one_of : List Str := ["self", "name", "some", "who"]
abbrev X_Roof_one_of (w : World) (K : PySem.W.Frag) (mg : Str → Option Value) (base : Heap) (f : Addr) (cdv : Value) (A : Around) (outer : List Env) (s : Shared) (H : Hp) (E : XK) : Cx := cxOf (L2N.CX PP w) PP w K mg base N_Roof_one_of "Roof.one_of" (defScope (inClass (top 26) 8)) f cdv A outer s H E
theorem nd_Roof_one_of : N_Roof_one_of.Nodup := by decide +kernel
theorem sc_Roof_one_of : FnScope N_Roof_one_of ["self", "name"] (defScope (inClass (top 26) 8)) := C8.fnScope_by (by kernel_rfl)
theorem wk_Roof_one_of (c : Fx K mg) (t : Tb w K mg base en k) (hr2 : Room (k + 3) (X_Roof_one_of w K mg base f cdv A outer s H E).A) : PSs (X_Roof_one_of w K mg base f cdv A outer s H E) (defBody (inClass (top 26) 8)) (tS K en (fun c d _ H => E c d H) d_Roof_one_of) := by
  have nd := nd_Roof_one_of
  have hr := hr2.mono (show k ≤ k + 3 by omega)
  have hr1 := hr2.mono (show k + 1 ≤ k + 3 by omega)
  have hu := room_hu hr
  have hrX : Room (1 + 1) (X_Roof_one_of w K mg base f cdv A outer s H E).A := hr2.mono (show 1 + 1 ≤ k + 3 by omega)
  have tk : L2N.Takes (X_Roof_one_of w K mg base f cdv A outer s H E) (fun c d _ H => E c d H) := L2N.takes_of (X := X_Roof_one_of w K mg base f cdv A outer s H E) (E := E) (E₁ := fun e s' => L2N.CX PP w outer H s E e s') rfl rfl rfl rfl
  have fl : Flat (fun c d (_ : L2.St) H => E c d H) := flatE
  show PSs (X_Roof_one_of w K mg base f cdv A outer s H E) _ (tS K en (fun c d _ H => E c d H) (dSeq (dLk (dUn (fldF "kinds") (dVar 0)) (dSet 2 (dLc false (zKey (dUn (fldF "kinds") (dVar 0))) (.nm 3) (dTst (dBin eqF (dBin (addF false) (dTup (dCons (dBin idxF (dUn (fldF "kinds") (dVar 0)) (dVar 3)) (dNil))) (dBin idxF (dUn (fldF "homes") (dVar 0)) (dVar 3))) (dVar 1))) (dVar 3) [3]))) (dRet (dIf (dTst (dBin neF (dVar 2) (dLst false (dNil)))) (dBin idxF (dVar 2) (dCst (.int 0))) (dCst .non)))))
  exact j_cons (j_lk (dUn (fldF "kinds") (dVar 0)) (j_setLc (i := 2) (own := [("who", 3)]) false rfl nd rfl rfl rfl (i_key (s_fld c.cls c.n_kinds (s_var (i := 0) rfl (vis_of rfl) rfl rfl) rfl)) (blkOk_by (by kernel_rfl)) (by decide) (fun _ _ _ _ _ => g_nm (i := 3) nd rfl (loc_of rfl) (.inr rfl)) (fun _ _ _ _ _ => ts_one (t_cmp (o_eq (hu64 hu)) (s_bin (o_add false) (s_tup (a_cons rfl (s_idx (hu1 hu) (s_fld c.cls c.n_kinds (s_var (i := 0) rfl (vis_of rfl) rfl rfl) rfl) (s_var (i := 3) rfl (vis_of rfl) rfl rfl) (fun _ _ => rfl)) (a_nil))) (s_idx (hu1 hu) (s_fld c.cls c.n_homes (s_var (i := 0) rfl (vis_of rfl) rfl rfl) rfl) (s_var (i := 3) rfl (vis_of rfl) rfl rfl) (fun _ _ => rfl))) (s_var (i := 1) rfl (vis_of rfl) rfl rfl) (nomark _))) (fun _ _ _ _ _ => s_var (i := 3) rfl (vis_of rfl) rfl rfl) (fun _ => rfl))) (j_one (j_ret (s_if (t_cmp (o_ne (hu64 hu)) (s_var (i := 2) rfl (vis_of rfl) rfl rfl) (s_lst (cell := false) (a_nil)) (nomark _)) (s_idx (hu1 hu) (s_var (i := 2) rfl (vis_of rfl) rfl rfl) (s_int) (fun _ _ => rfl)) (s_non))))
def N_Roof_need_free : List Str := ["self", "name"]
abbrev X_Roof_need_free (w : World) (K : PySem.W.Frag) (mg : Str → Option Value) (base : Heap) (f : Addr) (cdv : Value) (A : Around) (outer : List Env) (s : Shared) (H : Hp) (E : XK) : Cx := cxOf (L2N.CX PP w) PP w K mg base N_Roof_need_free "Roof.need_free" (defScope (inClass (top 26) 9)) f cdv A outer s H E
theorem nd_Roof_need_free : N_Roof_need_free.Nodup := by decide +kernel
theorem sc_Roof_need_free : FnScope N_Roof_need_free ["self", "name"] (defScope (inClass (top 26) 9)) := C8.fnScope_by (by kernel_rfl)
theorem wk_Roof_need_free (c : Fx K mg) (t : Tb w K mg base en k) (hr2 : Room (k + 3) (X_Roof_need_free w K mg base f cdv A outer s H E).A) : PSs (X_Roof_need_free w K mg base f cdv A outer s H E) (defBody (inClass (top 26) 9)) (tS K en (fun c d _ H => E c d H) d_Roof_need_free) := by
  have nd := nd_Roof_need_free
  have hr := hr2.mono (show k ≤ k + 3 by omega)
  have hr1 := hr2.mono (show k + 1 ≤ k + 3 by omega)
  have hu := room_hu hr
  have hrX : Room (1 + 1) (X_Roof_need_free w K mg base f cdv A outer s H E).A := hr2.mono (show 1 + 1 ≤ k + 3 by omega)
  have tk : L2N.Takes (X_Roof_need_free w K mg base f cdv A outer s H E) (fun c d _ H => E c d H) := L2N.takes_of (X := X_Roof_need_free w K mg base f cdv A outer s H E) (E := E) (E₁ := fun e s' => L2N.CX PP w outer H s E e s') rfl rfl rfl rfl
  have fl : Flat (fun c d (_ : L2.St) H => E c d H) := flatE
  show PSs (X_Roof_need_free w K mg base f cdv A outer s H E) _ (tS K en (fun c d _ H => E c d H) (dIfS (dTst (dBin isNotF (dMe 16 2 "one_of" (dVar 0) (dCons (dVar 1) (dNil))) (dCst .non))) (dRaiseF "Taken" (dVar 1)) (dNx)))
  exact j_one (j_if (t_cmp o_isNot (s_me t.c16 hr tk fl (s_var (i := 0) rfl (vis_of rfl) rfl rfl) (a_cons rfl (s_var (i := 1) rfl (vis_of rfl) rfl rfl) (a_nil)) rfl rfl) (s_non) (nomark _)) (j_one (j_raiseF rfl tk t.x_Taken hrX rfl rfl rfl (s_var (i := 1) rfl (vis_of rfl) rfl rfl))) (j_nil))
def N_Roof_new_span : List Str := ["self", "house"]
abbrev X_Roof_new_span (w : World) (K : PySem.W.Frag) (mg : Str → Option Value) (base : Heap) (f : Addr) (cdv : Value) (A : Around) (outer : List Env) (s : Shared) (H : Hp) (E : XK) : Cx := cxOf (L2N.CX PP w) PP w K mg base N_Roof_new_span "Roof.new_span" (defScope (inClass (top 26) 10)) f cdv A outer s H E
theorem nd_Roof_new_span : N_Roof_new_span.Nodup := by decide +kernel
theorem sc_Roof_new_span : FnScope N_Roof_new_span ["self", "house"] (defScope (inClass (top 26) 10)) := C8.fnScope_by (by kernel_rfl)
theorem wk_Roof_new_span (c : Fx K mg) (t : Tb w K mg base en k) (hr2 : Room (k + 3) (X_Roof_new_span w K mg base f cdv A outer s H E).A) : PSs (X_Roof_new_span w K mg base f cdv A outer s H E) (defBody (inClass (top 26) 10)) (tS K en (fun c d _ H => E c d H) d_Roof_new_span) := by
  have nd := nd_Roof_new_span
  have hr := hr2.mono (show k ≤ k + 3 by omega)
  have hr1 := hr2.mono (show k + 1 ≤ k + 3 by omega)
  have hu := room_hu hr
  have hrX : Room (1 + 1) (X_Roof_new_span w K mg base f cdv A outer s H E).A := hr2.mono (show 1 + 1 ≤ k + 3 by omega)
  have tk : L2N.Takes (X_Roof_new_span w K mg base f cdv A outer s H E) (fun c d _ H => E c d H) := L2N.takes_of (X := X_Roof_new_span w K mg base f cdv A outer s H E) (E := E) (E₁ := fun e s' => L2N.CX PP w outer H s E e s') rfl rfl rfl rfl
  have fl : Flat (fun c d (_ : L2.St) H => E c d H) := flatE
  show PSs (X_Roof_new_span w K mg base f cdv A outer s H E) _ (tS K en (fun c d _ H => E c d H) (dSeq (dSetI (dUn (fldF "spans") (dVar 0)) (dVar 1) (dBin (addF false) (dBin idxF (dUn (fldF "spans") (dVar 0)) (dVar 1)) (dLst false (dCons (dUn (fldF "next") (dVar 0)) (dNil))))) (dSeq (dSetI (dUn (fldF "given") (dVar 0)) (dUn (fldF "next") (dVar 0)) (dCst (.int 0))) (dSetF "next" (dVar 0) (dBin (addF false) (dUn (fldF "next") (dVar 0)) (dCst (.int 100)))))))
  exact j_cons (j_setI (hu1 hu) (s_fld c.cls c.n_spans (s_var (i := 0) rfl (vis_of rfl) rfl rfl) rfl) (s_var (i := 1) rfl (vis_of rfl) rfl rfl) (s_bin (o_add false) (s_idx (hu1 hu) (s_fld c.cls c.n_spans (s_var (i := 0) rfl (vis_of rfl) rfl rfl) rfl) (s_var (i := 1) rfl (vis_of rfl) rfl rfl) (fun _ _ => rfl)) (s_lst (cell := false) (a_cons rfl (s_fld c.cls c.n_next (s_var (i := 0) rfl (vis_of rfl) rfl rfl) rfl) (a_nil)))) (fun _ => rfl) rfl rfl rfl) (j_cons (j_setI (hu1 hu) (s_fld c.cls c.n_given (s_var (i := 0) rfl (vis_of rfl) rfl rfl) rfl) (s_fld c.cls c.n_next (s_var (i := 0) rfl (vis_of rfl) rfl rfl) rfl) (s_int) (fun _ => rfl) rfl rfl rfl) (j_one (j_setF c.cls c.n_next (s_var (i := 0) rfl (vis_of rfl) rfl rfl) (s_bin (o_add false) (s_fld c.cls c.n_next (s_var (i := 0) rfl (vis_of rfl) rfl rfl) rfl) (s_gint c.i_WIDTH rfl rfl)) rfl)))
def N_Roof_found : List Str := ["self", "house"]
abbrev X_Roof_found (w : World) (K : PySem.W.Frag) (mg : Str → Option Value) (base : Heap) (f : Addr) (cdv : Value) (A : Around) (outer : List Env) (s : Shared) (H : Hp) (E : XK) : Cx := cxOf (L2N.CX PP w) PP w K mg base N_Roof_found "Roof.found" (defScope (inClass (top 26) 11)) f cdv A outer s H E
theorem nd_Roof_found : N_Roof_found.Nodup := by decide +kernel
theorem sc_Roof_found : FnScope N_Roof_found ["self", "house"] (defScope (inClass (top 26) 11)) := C8.fnScope_by (by kernel_rfl)
theorem wk_Roof_found (c : Fx K mg) (t : Tb w K mg base en k) (hr2 : Room (k + 3) (X_Roof_found w K mg base f cdv A outer s H E).A) : PSs (X_Roof_found w K mg base f cdv A outer s H E) (defBody (inClass (top 26) 11)) (tS K en (fun c d _ H => E c d H) d_Roof_found) := by
  have nd := nd_Roof_found
  have hr := hr2.mono (show k ≤ k + 3 by omega)
  have hr1 := hr2.mono (show k + 1 ≤ k + 3 by omega)
  have hu := room_hu hr
  have hrX : Room (1 + 1) (X_Roof_found w K mg base f cdv A outer s H E).A := hr2.mono (show 1 + 1 ≤ k + 3 by omega)
  have tk : L2N.Takes (X_Roof_found w K mg base f cdv A outer s H E) (fun c d _ H => E c d H) := L2N.takes_of (X := X_Roof_found w K mg base f cdv A outer s H E) (E := E) (E₁ := fun e s' => L2N.CX PP w outer H s E e s') rfl rfl rfl rfl
  have fl : Flat (fun c d (_ : L2.St) H => E c d H) := flatE
  show PSs (X_Roof_found w K mg base f cdv A outer s H E) _ (tS K en (fun c d _ H => E c d H) (dSeq (dExp (dFn 4 1 (dCons (dVar 1) (dNil)))) (dSeq (dIfS (dTst (dBin inF (dVar 1) (dUn (fldF "spans") (dVar 0)))) (dRaiseF "Taken" (dVar 1)) (dNx)) (dSeq (dExp (dMe 11 2 "begin" (dVar 0) (dCons (dTup (dCons (dCst (.str "found")) (dCons (dVar 1) (dNil)))) (dNil)))) (dSeq (dSetI (dUn (fldF "spans") (dVar 0)) (dVar 1) (dLst false (dNil))) (dSeq (dSetI (dUn (fldF "trusts") (dVar 0)) (dVar 1) (dLst false (dNil))) (dExp (dMe 18 2 "new_span" (dVar 0) (dCons (dVar 1) (dNil))))))))))
  exact j_cons (j_exp (s_fn t.c4 hr tk rfl (a_cons rfl (s_var (i := 1) rfl (vis_of rfl) rfl rfl) (a_nil)) rfl rfl) rfl) (j_cons (j_if (t_cmp (o_in hu) (s_var (i := 1) rfl (vis_of rfl) rfl rfl) (s_fld c.cls c.n_spans (s_var (i := 0) rfl (vis_of rfl) rfl rfl) rfl) rfl) (j_one (j_raiseF rfl tk t.x_Taken hrX rfl rfl rfl (s_var (i := 1) rfl (vis_of rfl) rfl rfl))) (j_nil)) (j_cons (j_exp (s_me t.c11 hr tk fl (s_var (i := 0) rfl (vis_of rfl) rfl rfl) (a_cons rfl (s_tup (a_cons rfl (s_str) (a_cons rfl (s_var (i := 1) rfl (vis_of rfl) rfl rfl) (a_nil)))) (a_nil)) rfl rfl) rfl) (j_cons (j_setI (hu1 hu) (s_fld c.cls c.n_spans (s_var (i := 0) rfl (vis_of rfl) rfl rfl) rfl) (s_var (i := 1) rfl (vis_of rfl) rfl rfl) (s_lst (cell := false) (a_nil)) (fun _ => rfl) rfl rfl rfl) (j_cons (j_setI (hu1 hu) (s_fld c.cls c.n_trusts (s_var (i := 0) rfl (vis_of rfl) rfl rfl) rfl) (s_var (i := 1) rfl (vis_of rfl) rfl rfl) (s_lst (cell := false) (a_nil)) (fun _ => rfl) rfl rfl rfl) (j_one (j_exp (s_me t.c18 hr tk fl (s_var (i := 0) rfl (vis_of rfl) rfl rfl) (a_cons rfl (s_var (i := 1) rfl (vis_of rfl) rfl rfl) (a_nil)) rfl rfl) rfl))))))
def N_Roof_come : List Str := ["self", "kind", "word", "house", "span", "number"]
abbrev X_Roof_come (w : World) (K : PySem.W.Frag) (mg : Str → Option Value) (base : Heap) (f : Addr) (cdv : Value) (A : Around) (outer : List Env) (s : Shared) (H : Hp) (E : XK) : Cx := cxOf (L2N.CX PP w) PP w K mg base N_Roof_come "Roof.come" (defScope (inClass (top 26) 12)) f cdv A outer s H E
theorem nd_Roof_come : N_Roof_come.Nodup := by decide +kernel
theorem sc_Roof_come : FnScope N_Roof_come ["self", "kind", "word", "house"] (defScope (inClass (top 26) 12)) := C8.fnScope_by (by kernel_rfl)
theorem wk_Roof_come (c : Fx K mg) (t : Tb w K mg base en k) (hr2 : Room (k + 3) (X_Roof_come w K mg base f cdv A outer s H E).A) : PSs (X_Roof_come w K mg base f cdv A outer s H E) (defBody (inClass (top 26) 12)) (tS K en (fun c d _ H => E c d H) d_Roof_come) := by
  have nd := nd_Roof_come
  have hr := hr2.mono (show k ≤ k + 3 by omega)
  have hr1 := hr2.mono (show k + 1 ≤ k + 3 by omega)
  have hu := room_hu hr
  have hrX : Room (1 + 1) (X_Roof_come w K mg base f cdv A outer s H E).A := hr2.mono (show 1 + 1 ≤ k + 3 by omega)
  have tk : L2N.Takes (X_Roof_come w K mg base f cdv A outer s H E) (fun c d _ H => E c d H) := L2N.takes_of (X := X_Roof_come w K mg base f cdv A outer s H E) (E := E) (E₁ := fun e s' => L2N.CX PP w outer H s E e s') rfl rfl rfl rfl
  have fl : Flat (fun c d (_ : L2.St) H => E c d H) := flatE
  show PSs (X_Roof_come w K mg base f cdv A outer s H E) _ (tS K en (fun c d _ H => E c d H) (dSeq (dIfS (dNot (dTst (dFn 2 1 (dCons (dVar 1) (dNil))))) (dRaise "BadName") (dNx)) (dSeq (dExp (dFn 4 1 (dCons (dVar 2) (dNil)))) (dSeq (dExp (dMe 12 2 "need_house" (dVar 0) (dCons (dVar 3) (dNil)))) (dSeq (dExp (dMe 17 2 "need_free" (dVar 0) (dCons (dTup (dCons (dVar 1) (dCons (dVar 2) (dCons (dVar 3) (dNil))))) (dNil)))) (dSeq (dExp (dMe 11 2 "begin" (dVar 0) (dCons (dTup (dCons (dCst (.str "come")) (dCons (dVar 1) (dCons (dVar 2) (dCons (dVar 3) (dNil)))))) (dNil)))) (dSeq (dIfS (dTst (dBin eqF (dBin idxF (dUn (fldF "given") (dVar 0)) (dBin idxF (dBin idxF (dUn (fldF "spans") (dVar 0)) (dVar 3)) (dUn negF (dCst (.int 1))))) (dCst (.int 100)))) (dExp (dMe 18 2 "new_span" (dVar 0) (dCons (dVar 3) (dNil)))) (dNx)) (dSeq (dSet 4 (dBin idxF (dBin idxF (dUn (fldF "spans") (dVar 0)) (dVar 3)) (dUn negF (dCst (.int 1))))) (dSeq (dSet 5 (dBin (addF false) (dVar 4) (dBin idxF (dUn (fldF "given") (dVar 0)) (dVar 4)))) (dSeq (dSetI (dUn (fldF "given") (dVar 0)) (dVar 4) (dBin (addF false) (dBin idxF (dUn (fldF "given") (dVar 0)) (dVar 4)) (dCst (.int 1)))) (dSeq (dSetI (dUn (fldF "kinds") (dVar 0)) (dVar 5) (dVar 1)) (dSeq (dSetI (dUn (fldF "homes") (dVar 0)) (dVar 5) (dTup (dCons (dVar 2) (dCons (dVar 3) (dNil))))) (dSeq (dIfS (dTst (dBin eqF (dVar 1) (dCst (.str "group")))) (dSetI (dUn (fldF "inside") (dVar 0)) (dVar 5) (dLst false (dNil))) (dNx)) (dRet (dVar 5)))))))))))))))
  exact j_cons (j_if (t_not (t_val (s_fn t.c2 hr tk rfl (a_cons rfl (s_var (i := 1) rfl (vis_of rfl) rfl rfl) (a_nil)) rfl rfl) (fun _ => rfl))) (j_one (j_raise rfl tk c.e_BadName c.g_BadName rfl rfl)) (j_nil)) (j_cons (j_exp (s_fn t.c4 hr tk rfl (a_cons rfl (s_var (i := 2) rfl (vis_of rfl) rfl rfl) (a_nil)) rfl rfl) rfl) (j_cons (j_exp (s_me t.c12 hr tk fl (s_var (i := 0) rfl (vis_of rfl) rfl rfl) (a_cons rfl (s_var (i := 3) rfl (vis_of rfl) rfl rfl) (a_nil)) rfl rfl) rfl) (j_cons (j_exp (s_me t.c17 hr tk fl (s_var (i := 0) rfl (vis_of rfl) rfl rfl) (a_cons rfl (s_tup (a_cons rfl (s_var (i := 1) rfl (vis_of rfl) rfl rfl) (a_cons rfl (s_var (i := 2) rfl (vis_of rfl) rfl rfl) (a_cons rfl (s_var (i := 3) rfl (vis_of rfl) rfl rfl) (a_nil))))) (a_nil)) rfl rfl) rfl) (j_cons (j_exp (s_me t.c11 hr tk fl (s_var (i := 0) rfl (vis_of rfl) rfl rfl) (a_cons rfl (s_tup (a_cons rfl (s_str) (a_cons rfl (s_var (i := 1) rfl (vis_of rfl) rfl rfl) (a_cons rfl (s_var (i := 2) rfl (vis_of rfl) rfl rfl) (a_cons rfl (s_var (i := 3) rfl (vis_of rfl) rfl rfl) (a_nil)))))) (a_nil)) rfl rfl) rfl) (j_cons (j_if (t_cmp (o_eq (hu64 hu)) (s_idx (hu1 hu) (s_fld c.cls c.n_given (s_var (i := 0) rfl (vis_of rfl) rfl rfl) rfl) (s_idx (hu1 hu) (s_idx (hu1 hu) (s_fld c.cls c.n_spans (s_var (i := 0) rfl (vis_of rfl) rfl rfl) rfl) (s_var (i := 3) rfl (vis_of rfl) rfl rfl) (fun _ _ => rfl)) (s_un o_neg (s_int)) (fun _ _ => rfl)) (fun _ _ => rfl)) (s_gint c.i_WIDTH rfl rfl) (nomark _)) (j_one (j_exp (s_me t.c18 hr tk fl (s_var (i := 0) rfl (vis_of rfl) rfl rfl) (a_cons rfl (s_var (i := 3) rfl (vis_of rfl) rfl rfl) (a_nil)) rfl rfl) rfl)) (j_nil)) (j_cons (j_set (i := 4) nd rfl (loc_of rfl) (.inl rfl) (s_idx (hu1 hu) (s_idx (hu1 hu) (s_fld c.cls c.n_spans (s_var (i := 0) rfl (vis_of rfl) rfl rfl) rfl) (s_var (i := 3) rfl (vis_of rfl) rfl rfl) (fun _ _ => rfl)) (s_un o_neg (s_int)) (fun _ _ => rfl)) rfl) (j_cons (j_set (i := 5) nd rfl (loc_of rfl) (.inl rfl) (s_bin (o_add false) (s_var (i := 4) rfl (vis_of rfl) rfl rfl) (s_idx (hu1 hu) (s_fld c.cls c.n_given (s_var (i := 0) rfl (vis_of rfl) rfl rfl) rfl) (s_var (i := 4) rfl (vis_of rfl) rfl rfl) (fun _ _ => rfl))) rfl) (j_cons (j_setI (hu1 hu) (s_fld c.cls c.n_given (s_var (i := 0) rfl (vis_of rfl) rfl rfl) rfl) (s_var (i := 4) rfl (vis_of rfl) rfl rfl) (s_bin (o_add false) (s_idx (hu1 hu) (s_fld c.cls c.n_given (s_var (i := 0) rfl (vis_of rfl) rfl rfl) rfl) (s_var (i := 4) rfl (vis_of rfl) rfl rfl) (fun _ _ => rfl)) (s_int)) (fun _ => rfl) rfl rfl rfl) (j_cons (j_setI (hu1 hu) (s_fld c.cls c.n_kinds (s_var (i := 0) rfl (vis_of rfl) rfl rfl) rfl) (s_var (i := 5) rfl (vis_of rfl) rfl rfl) (s_var (i := 1) rfl (vis_of rfl) rfl rfl) (fun _ => rfl) rfl rfl rfl) (j_cons (j_setI (hu1 hu) (s_fld c.cls c.n_homes (s_var (i := 0) rfl (vis_of rfl) rfl rfl) rfl) (s_var (i := 5) rfl (vis_of rfl) rfl rfl) (s_tup (a_cons rfl (s_var (i := 2) rfl (vis_of rfl) rfl rfl) (a_cons rfl (s_var (i := 3) rfl (vis_of rfl) rfl rfl) (a_nil)))) (fun _ => rfl) rfl rfl rfl) (j_cons (j_if (t_cmp (o_eq (hu64 hu)) (s_var (i := 1) rfl (vis_of rfl) rfl rfl) (s_gstr c.s_GROUP rfl rfl) (nomark _)) (j_one (j_setI (hu1 hu) (s_fld c.cls c.n_inside (s_var (i := 0) rfl (vis_of rfl) rfl rfl) rfl) (s_var (i := 5) rfl (vis_of rfl) rfl rfl) (s_lst (cell := false) (a_nil)) (fun _ => rfl) rfl rfl rfl)) (j_nil)) (j_one (j_ret (s_var (i := 5) rfl (vis_of rfl) rfl rfl))))))))))))))
def N_Roof_go : List Str := ["self", "who", "one", "more"]
abbrev X_Roof_go (w : World) (K : PySem.W.Frag) (mg : Str → Option Value) (base : Heap) (f : Addr) (cdv : Value) (A : Around) (outer : List Env) (s : Shared) (H : Hp) (E : XK) : Cx := cxOf (L2N.CX PP w) PP w K mg base N_Roof_go "Roof.go" (defScope (inClass (top 26) 13)) f cdv A outer s H E
theorem nd_Roof_go : N_Roof_go.Nodup := by decide +kernel
theorem sc_Roof_go : FnScope N_Roof_go ["self", "who"] (defScope (inClass (top 26) 13)) := C8.fnScope_by (by kernel_rfl)
theorem wk_Roof_go (c : Fx K mg) (t : Tb w K mg base en k) (hr2 : Room (k + 3) (X_Roof_go w K mg base f cdv A outer s H E).A) : PSs (X_Roof_go w K mg base f cdv A outer s H E) (defBody (inClass (top 26) 13)) (tS K en (fun c d _ H => E c d H) d_Roof_go) := by
  have nd := nd_Roof_go
  have hr := hr2.mono (show k ≤ k + 3 by omega)
  have hr1 := hr2.mono (show k + 1 ≤ k + 3 by omega)
  have hu := room_hu hr
  have hrX : Room (1 + 1) (X_Roof_go w K mg base f cdv A outer s H E).A := hr2.mono (show 1 + 1 ≤ k + 3 by omega)
  have tk : L2N.Takes (X_Roof_go w K mg base f cdv A outer s H E) (fun c d _ H => E c d H) := L2N.takes_of (X := X_Roof_go w K mg base f cdv A outer s H E) (E := E) (E₁ := fun e s' => L2N.CX PP w outer H s E e s') rfl rfl rfl rfl
  have fl : Flat (fun c d (_ : L2.St) H => E c d H) := flatE
  show PSs (X_Roof_go w K mg base f cdv A outer s H E) _ (tS K en (fun c d _ H => E c d H) (dSeq (dExp (dMe 14 2 "need_one" (dVar 0) (dCons (dVar 1) (dNil)))) (dSeq (dExp (dMe 11 2 "begin" (dVar 0) (dCons (dTup (dCons (dCst (.str "go")) (dCons (dVar 1) (dNil)))) (dNil)))) (dSeq (dExp (dDpop1 (dUn (fldF "kinds") (dVar 0)) (dVar 1))) (dSeq (dExp (dDpop1 (dUn (fldF "homes") (dVar 0)) (dVar 1))) (dSetF "inside" (dVar 0) (dLkE (dUn (fldF "inside") (dVar 0)) (dDc (zKey (dUn (fldF "inside") (dVar 0))) (.nm 2) (dTst (dBin neF (dVar 2) (dVar 1))) (dVar 2) (dLc false (zSeq (dBin idxF (dUn (fldF "inside") (dVar 0)) (dVar 2))) (.nm 3) (dTst (dBin neF (dVar 3) (dVar 1))) (dVar 3) [3]) [2]))))))))
  exact j_cons (j_exp (s_me t.c14 hr tk fl (s_var (i := 0) rfl (vis_of rfl) rfl rfl) (a_cons rfl (s_var (i := 1) rfl (vis_of rfl) rfl rfl) (a_nil)) rfl rfl) rfl) (j_cons (j_exp (s_me t.c11 hr tk fl (s_var (i := 0) rfl (vis_of rfl) rfl rfl) (a_cons rfl (s_tup (a_cons rfl (s_str) (a_cons rfl (s_var (i := 1) rfl (vis_of rfl) rfl rfl) (a_nil)))) (a_nil)) rfl rfl) rfl) (j_cons (j_exp (s_dpop1 (s_fld c.cls c.n_kinds (s_var (i := 0) rfl (vis_of rfl) rfl rfl) rfl) (s_var (i := 1) rfl (vis_of rfl) rfl rfl) ⟨rfl, rfl, rfl, rfl⟩) rfl) (j_cons (j_exp (s_dpop1 (s_fld c.cls c.n_homes (s_var (i := 0) rfl (vis_of rfl) rfl rfl) rfl) (s_var (i := 1) rfl (vis_of rfl) rfl rfl) ⟨rfl, rfl, rfl, rfl⟩) rfl) (j_one (j_setF c.cls c.n_inside (s_var (i := 0) rfl (vis_of rfl) rfl rfl) (s_lk (dUn (fldF "inside") (dVar 0)) (s_dc (own := [("one", 2)]) rfl nd (i_key (s_fld c.cls c.n_inside (s_var (i := 0) rfl (vis_of rfl) rfl rfl) rfl)) (blkOk_by (by kernel_rfl)) (by decide) (fun _ _ _ _ _ => g_nm (i := 2) nd rfl (loc_of rfl) (.inr rfl)) (fun _ _ _ _ _ => ts_one (t_cmp (o_ne (hu64 hu)) (s_var (i := 2) rfl (vis_of rfl) rfl rfl) (s_var (i := 1) rfl (vis_of rfl) rfl rfl) (nomark _))) (fun _ _ _ _ _ => s_var (i := 2) rfl (vis_of rfl) rfl rfl) (fun _ _ _ _ _ => s_lc (own := [("more", 3)]) false rfl nd (i_seq (s_idx (hu1 hu) (s_fld c.cls c.n_inside (s_var (i := 0) rfl (vis_of rfl) rfl rfl) rfl) (s_var (i := 2) rfl (vis_of rfl) rfl rfl) (fun _ _ => rfl))) (blkOk_by (by kernel_rfl)) (by decide) (fun _ _ _ _ _ => g_nm (i := 3) nd rfl (loc_of rfl) (.inr rfl)) (fun _ _ _ _ _ => ts_one (t_cmp (o_ne (hu64 hu)) (s_var (i := 3) rfl (vis_of rfl) rfl rfl) (s_var (i := 1) rfl (vis_of rfl) rfl rfl) (nomark _))) (fun _ _ _ _ _ => s_var (i := 3) rfl (vis_of rfl) rfl rfl) (fun _ => rfl)) (fun _ => rfl))) rfl)))))
def N_Roof_put_in : List Str := ["self", "who", "group"]
abbrev X_Roof_put_in (w : World) (K : PySem.W.Frag) (mg : Str → Option Value) (base : Heap) (f : Addr) (cdv : Value) (A : Around) (outer : List Env) (s : Shared) (H : Hp) (E : XK) : Cx := cxOf (L2N.CX PP w) PP w K mg base N_Roof_put_in "Roof.put_in" (defScope (inClass (top 26) 14)) f cdv A outer s H E
theorem nd_Roof_put_in : N_Roof_put_in.Nodup := by decide +kernel
theorem sc_Roof_put_in : FnScope N_Roof_put_in ["self", "who", "group"] (defScope (inClass (top 26) 14)) := C8.fnScope_by (by kernel_rfl)
theorem wk_Roof_put_in (c : Fx K mg) (t : Tb w K mg base en k) (hr2 : Room (k + 3) (X_Roof_put_in w K mg base f cdv A outer s H E).A) (hcd : PySem.W.kdsCode K cdv = true) : PSs (X_Roof_put_in w K mg base f cdv A outer s H E) (defBody (inClass (top 26) 14)) (tS K en (fun c d _ H => E c d H) d_Roof_put_in) := by
  have nd := nd_Roof_put_in
  have hr := hr2.mono (show k ≤ k + 3 by omega)
  have hr1 := hr2.mono (show k + 1 ≤ k + 3 by omega)
  have hu := room_hu hr
  have hrX : Room (1 + 1) (X_Roof_put_in w K mg base f cdv A outer s H E).A := hr2.mono (show 1 + 1 ≤ k + 3 by omega)
  have tk : L2N.Takes (X_Roof_put_in w K mg base f cdv A outer s H E) (fun c d _ H => E c d H) := L2N.takes_of (X := X_Roof_put_in w K mg base f cdv A outer s H E) (E := E) (E₁ := fun e s' => L2N.CX PP w outer H s E e s') rfl rfl rfl rfl
  have fl : Flat (fun c d (_ : L2.St) H => E c d H) := flatE
  show PSs (X_Roof_put_in w K mg base f cdv A outer s H E) _ (tS K en (fun c d _ H => E c d H) (dSeq (dExp (dMe 14 2 "need_one" (dVar 0) (dCons (dVar 1) (dNil)))) (dSeq (dExp (dMe 15 2 "need_group" (dVar 0) (dCons (dVar 2) (dNil)))) (dSeq (dExp (dMe 11 2 "begin" (dVar 0) (dCons (dTup (dCons (dCst (.str "put_in")) (dCons (dVar 1) (dCons (dVar 2) (dNil))))) (dNil)))) (dSetI (dUn (fldF "inside") (dVar 0)) (dVar 2) (dSortG false (gOr1 (dVar 1) (gSet (dBin idxF (dUn (fldF "inside") (dVar 0)) (dVar 2))))))))))
  exact j_cons (j_exp (s_me t.c14 hr tk fl (s_var (i := 0) rfl (vis_of rfl) rfl rfl) (a_cons rfl (s_var (i := 1) rfl (vis_of rfl) rfl rfl) (a_nil)) rfl rfl) rfl) (j_cons (j_exp (s_me t.c15 hr tk fl (s_var (i := 0) rfl (vis_of rfl) rfl rfl) (a_cons rfl (s_var (i := 2) rfl (vis_of rfl) rfl rfl) (a_nil)) rfl rfl) rfl) (j_cons (j_exp (s_me t.c11 hr tk fl (s_var (i := 0) rfl (vis_of rfl) rfl rfl) (a_cons rfl (s_tup (a_cons rfl (s_str) (a_cons rfl (s_var (i := 1) rfl (vis_of rfl) rfl rfl) (a_cons rfl (s_var (i := 2) rfl (vis_of rfl) rfl rfl) (a_nil))))) (a_nil)) rfl rfl) rfl) (j_one (j_setI (hu1 hu) (s_fld c.cls c.n_inside (s_var (i := 0) rfl (vis_of rfl) rfl rfl) rfl) (s_var (i := 2) rfl (vis_of rfl) rfl rfl) (s_sortG false rfl rfl c.f_sorted rfl (g_or1 hcd rfl (s_var (i := 1) rfl (vis_of rfl) rfl rfl) (g_set rfl rfl c.f_set rfl (s_idx (hu1 hu) (s_fld c.cls c.n_inside (s_var (i := 0) rfl (vis_of rfl) rfl rfl) rfl) (s_var (i := 2) rfl (vis_of rfl) rfl rfl) (fun _ _ => rfl))))) (fun _ => rfl) rfl rfl rfl))))
def N_Roof_take_out : List Str := ["self", "who", "group", "one"]
abbrev X_Roof_take_out (w : World) (K : PySem.W.Frag) (mg : Str → Option Value) (base : Heap) (f : Addr) (cdv : Value) (A : Around) (outer : List Env) (s : Shared) (H : Hp) (E : XK) : Cx := cxOf (L2N.CX PP w) PP w K mg base N_Roof_take_out "Roof.take_out" (defScope (inClass (top 26) 15)) f cdv A outer s H E
theorem nd_Roof_take_out : N_Roof_take_out.Nodup := by decide +kernel
theorem sc_Roof_take_out : FnScope N_Roof_take_out ["self", "who", "group"] (defScope (inClass (top 26) 15)) := C8.fnScope_by (by kernel_rfl)
theorem wk_Roof_take_out (c : Fx K mg) (t : Tb w K mg base en k) (hr2 : Room (k + 3) (X_Roof_take_out w K mg base f cdv A outer s H E).A) : PSs (X_Roof_take_out w K mg base f cdv A outer s H E) (defBody (inClass (top 26) 15)) (tS K en (fun c d _ H => E c d H) d_Roof_take_out) := by
  have nd := nd_Roof_take_out
  have hr := hr2.mono (show k ≤ k + 3 by omega)
  have hr1 := hr2.mono (show k + 1 ≤ k + 3 by omega)
  have hu := room_hu hr
  have hrX : Room (1 + 1) (X_Roof_take_out w K mg base f cdv A outer s H E).A := hr2.mono (show 1 + 1 ≤ k + 3 by omega)
  have tk : L2N.Takes (X_Roof_take_out w K mg base f cdv A outer s H E) (fun c d _ H => E c d H) := L2N.takes_of (X := X_Roof_take_out w K mg base f cdv A outer s H E) (E := E) (E₁ := fun e s' => L2N.CX PP w outer H s E e s') rfl rfl rfl rfl
  have fl : Flat (fun c d (_ : L2.St) H => E c d H) := flatE
  show PSs (X_Roof_take_out w K mg base f cdv A outer s H E) _ (tS K en (fun c d _ H => E c d H) (dSeq (dExp (dMe 14 2 "need_one" (dVar 0) (dCons (dVar 1) (dNil)))) (dSeq (dExp (dMe 15 2 "need_group" (dVar 0) (dCons (dVar 2) (dNil)))) (dSeq (dExp (dMe 11 2 "begin" (dVar 0) (dCons (dTup (dCons (dCst (.str "take_out")) (dCons (dVar 1) (dCons (dVar 2) (dNil))))) (dNil)))) (dSetI (dUn (fldF "inside") (dVar 0)) (dVar 2) (dLc false (zSeq (dBin idxF (dUn (fldF "inside") (dVar 0)) (dVar 2))) (.nm 3) (dTst (dBin neF (dVar 3) (dVar 1))) (dVar 3) [3]))))))
  exact j_cons (j_exp (s_me t.c14 hr tk fl (s_var (i := 0) rfl (vis_of rfl) rfl rfl) (a_cons rfl (s_var (i := 1) rfl (vis_of rfl) rfl rfl) (a_nil)) rfl rfl) rfl) (j_cons (j_exp (s_me t.c15 hr tk fl (s_var (i := 0) rfl (vis_of rfl) rfl rfl) (a_cons rfl (s_var (i := 2) rfl (vis_of rfl) rfl rfl) (a_nil)) rfl rfl) rfl) (j_cons (j_exp (s_me t.c11 hr tk fl (s_var (i := 0) rfl (vis_of rfl) rfl rfl) (a_cons rfl (s_tup (a_cons rfl (s_str) (a_cons rfl (s_var (i := 1) rfl (vis_of rfl) rfl rfl) (a_cons rfl (s_var (i := 2) rfl (vis_of rfl) rfl rfl) (a_nil))))) (a_nil)) rfl rfl) rfl) (j_one (j_setI (hu1 hu) (s_fld c.cls c.n_inside (s_var (i := 0) rfl (vis_of rfl) rfl rfl) rfl) (s_var (i := 2) rfl (vis_of rfl) rfl rfl) (s_lc (own := [("one", 3)]) false rfl nd (i_seq (s_idx (hu1 hu) (s_fld c.cls c.n_inside (s_var (i := 0) rfl (vis_of rfl) rfl rfl) rfl) (s_var (i := 2) rfl (vis_of rfl) rfl rfl) (fun _ _ => rfl))) (blkOk_by (by kernel_rfl)) (by decide) (fun _ _ _ _ _ => g_nm (i := 3) nd rfl (loc_of rfl) (.inr rfl)) (fun _ _ _ _ _ => ts_one (t_cmp (o_ne (hu64 hu)) (s_var (i := 3) rfl (vis_of rfl) rfl rfl) (s_var (i := 1) rfl (vis_of rfl) rfl rfl) (nomark _))) (fun _ _ _ _ _ => s_var (i := 3) rfl (vis_of rfl) rfl rfl) (fun _ => rfl)) (fun _ => rfl) rfl rfl rfl))))
def N_Roof_call : List Str := ["self", "who", "word"]
abbrev X_Roof_call (w : World) (K : PySem.W.Frag) (mg : Str → Option Value) (base : Heap) (f : Addr) (cdv : Value) (A : Around) (outer : List Env) (s : Shared) (H : Hp) (E : XK) : Cx := cxOf (L2N.CX PP w) PP w K mg base N_Roof_call "Roof.call" (defScope (inClass (top 26) 16)) f cdv A outer s H E
theorem nd_Roof_call : N_Roof_call.Nodup := by decide +kernel
theorem sc_Roof_call : FnScope N_Roof_call ["self", "who", "word"] (defScope (inClass (top 26) 16)) := C8.fnScope_by (by kernel_rfl)
theorem wk_Roof_call (c : Fx K mg) (t : Tb w K mg base en k) (hr2 : Room (k + 3) (X_Roof_call w K mg base f cdv A outer s H E).A) : PSs (X_Roof_call w K mg base f cdv A outer s H E) (defBody (inClass (top 26) 16)) (tS K en (fun c d _ H => E c d H) d_Roof_call) := by
  have nd := nd_Roof_call
  have hr := hr2.mono (show k ≤ k + 3 by omega)
  have hr1 := hr2.mono (show k + 1 ≤ k + 3 by omega)
  have hu := room_hu hr
  have hrX : Room (1 + 1) (X_Roof_call w K mg base f cdv A outer s H E).A := hr2.mono (show 1 + 1 ≤ k + 3 by omega)
  have tk : L2N.Takes (X_Roof_call w K mg base f cdv A outer s H E) (fun c d _ H => E c d H) := L2N.takes_of (X := X_Roof_call w K mg base f cdv A outer s H E) (E := E) (E₁ := fun e s' => L2N.CX PP w outer H s E e s') rfl rfl rfl rfl
  have fl : Flat (fun c d (_ : L2.St) H => E c d H) := flatE
  show PSs (X_Roof_call w K mg base f cdv A outer s H E) _ (tS K en (fun c d _ H => E c d H) (dSeq (dExp (dMe 14 2 "need_one" (dVar 0) (dCons (dVar 1) (dNil)))) (dSeq (dExp (dFn 4 1 (dCons (dVar 2) (dNil)))) (dSeq (dExp (dMe 17 2 "need_free" (dVar 0) (dCons (dTup (dCons (dBin idxF (dUn (fldF "kinds") (dVar 0)) (dVar 1)) (dCons (dVar 2) (dCons (dBin idxF (dBin idxF (dUn (fldF "homes") (dVar 0)) (dVar 1)) (dCst (.int 1))) (dNil))))) (dNil)))) (dSeq (dExp (dMe 11 2 "begin" (dVar 0) (dCons (dTup (dCons (dCst (.str "call")) (dCons (dVar 1) (dCons (dVar 2) (dNil))))) (dNil)))) (dSeq (dSetI (dUn (fldF "homes") (dVar 0)) (dVar 1) (dTup (dCons (dVar 2) (dCons (dBin idxF (dBin idxF (dUn (fldF "homes") (dVar 0)) (dVar 1)) (dCst (.int 1))) (dNil))))) (dRet (dMe 38 2 "name" (dVar 0) (dCons (dVar 1) (dNil))))))))))
  exact j_cons (j_exp (s_me t.c14 hr tk fl (s_var (i := 0) rfl (vis_of rfl) rfl rfl) (a_cons rfl (s_var (i := 1) rfl (vis_of rfl) rfl rfl) (a_nil)) rfl rfl) rfl) (j_cons (j_exp (s_fn t.c4 hr tk rfl (a_cons rfl (s_var (i := 2) rfl (vis_of rfl) rfl rfl) (a_nil)) rfl rfl) rfl) (j_cons (j_exp (s_me t.c17 hr tk fl (s_var (i := 0) rfl (vis_of rfl) rfl rfl) (a_cons rfl (s_tup (a_cons rfl (s_idx (hu1 hu) (s_fld c.cls c.n_kinds (s_var (i := 0) rfl (vis_of rfl) rfl rfl) rfl) (s_var (i := 1) rfl (vis_of rfl) rfl rfl) (fun _ _ => rfl)) (a_cons rfl (s_var (i := 2) rfl (vis_of rfl) rfl rfl) (a_cons rfl (s_idx (hu1 hu) (s_idx (hu1 hu) (s_fld c.cls c.n_homes (s_var (i := 0) rfl (vis_of rfl) rfl rfl) rfl) (s_var (i := 1) rfl (vis_of rfl) rfl rfl) (fun _ _ => rfl)) (s_int) (fun _ _ => rfl)) (a_nil))))) (a_nil)) rfl rfl) rfl) (j_cons (j_exp (s_me t.c11 hr tk fl (s_var (i := 0) rfl (vis_of rfl) rfl rfl) (a_cons rfl (s_tup (a_cons rfl (s_str) (a_cons rfl (s_var (i := 1) rfl (vis_of rfl) rfl rfl) (a_cons rfl (s_var (i := 2) rfl (vis_of rfl) rfl rfl) (a_nil))))) (a_nil)) rfl rfl) rfl) (j_cons (j_setI (hu1 hu) (s_fld c.cls c.n_homes (s_var (i := 0) rfl (vis_of rfl) rfl rfl) rfl) (s_var (i := 1) rfl (vis_of rfl) rfl rfl) (s_tup (a_cons rfl (s_var (i := 2) rfl (vis_of rfl) rfl rfl) (a_cons rfl (s_idx (hu1 hu) (s_idx (hu1 hu) (s_fld c.cls c.n_homes (s_var (i := 0) rfl (vis_of rfl) rfl rfl) rfl) (s_var (i := 1) rfl (vis_of rfl) rfl rfl) (fun _ _ => rfl)) (s_int) (fun _ _ => rfl)) (a_nil)))) (fun _ => rfl) rfl rfl rfl) (j_one (j_ret (s_me t.c38 hr tk fl (s_var (i := 0) rfl (vis_of rfl) rfl rfl) (a_cons rfl (s_var (i := 1) rfl (vis_of rfl) rfl rfl) (a_nil)) rfl rfl)))))))
def N_Roof_move : List Str := ["self", "who", "house", "word", "goal"]
abbrev X_Roof_move (w : World) (K : PySem.W.Frag) (mg : Str → Option Value) (base : Heap) (f : Addr) (cdv : Value) (A : Around) (outer : List Env) (s : Shared) (H : Hp) (E : XK) : Cx := cxOf (L2N.CX PP w) PP w K mg base N_Roof_move "Roof.move" (defScope (inClass (top 26) 17)) f cdv A outer s H E
theorem nd_Roof_move : N_Roof_move.Nodup := by decide +kernel
theorem sc_Roof_move : FnScope N_Roof_move ["self", "who", "house", "word"] (defScope (inClass (top 26) 17)) := C8.fnScope_by (by kernel_rfl)
theorem wk_Roof_move (c : Fx K mg) (t : Tb w K mg base en k) (hr2 : Room (k + 3) (X_Roof_move w K mg base f cdv A outer s H E).A) : PSs (X_Roof_move w K mg base f cdv A outer s H E) (defBody (inClass (top 26) 17)) (tS K en (fun c d _ H => E c d H) d_Roof_move) := by
  have nd := nd_Roof_move
  have hr := hr2.mono (show k ≤ k + 3 by omega)
  have hr1 := hr2.mono (show k + 1 ≤ k + 3 by omega)
  have hu := room_hu hr
  have hrX : Room (1 + 1) (X_Roof_move w K mg base f cdv A outer s H E).A := hr2.mono (show 1 + 1 ≤ k + 3 by omega)
  have tk : L2N.Takes (X_Roof_move w K mg base f cdv A outer s H E) (fun c d _ H => E c d H) := L2N.takes_of (X := X_Roof_move w K mg base f cdv A outer s H E) (E := E) (E₁ := fun e s' => L2N.CX PP w outer H s E e s') rfl rfl rfl rfl
  have fl : Flat (fun c d (_ : L2.St) H => E c d H) := flatE
  show PSs (X_Roof_move w K mg base f cdv A outer s H E) _ (tS K en (fun c d _ H => E c d H) (dSeq (dExp (dMe 14 2 "need_one" (dVar 0) (dCons (dVar 1) (dNil)))) (dSeq (dExp (dMe 12 2 "need_house" (dVar 0) (dCons (dVar 2) (dNil)))) (dSeq (dIfS (dAnd (dTst (dBin isNotF (dVar 3) (dCst .non))) (dNot (dTst (dFn 1 1 (dCons (dVar 3) (dNil)))))) (dRaise "BadName") (dNx)) (dSeq (dSet 4 (dTup (dCons (dIf (dTst (dBin isF (dVar 3) (dCst .non))) (dBin idxF (dBin idxF (dUn (fldF "homes") (dVar 0)) (dVar 1)) (dCst (.int 0))) (dVar 3)) (dCons (dVar 2) (dNil))))) (dSeq (dIfS (dTst (dBin notInF (dMe 16 2 "one_of" (dVar 0) (dCons (dBin (addF false) (dTup (dCons (dBin idxF (dUn (fldF "kinds") (dVar 0)) (dVar 1)) (dNil))) (dVar 4)) (dNil))) (dTup (dCons (dCst .non) (dCons (dVar 1) (dNil)))))) (dRaiseF "Taken" (dBin (addF false) (dTup (dCons (dBin idxF (dUn (fldF "kinds") (dVar 0)) (dVar 1)) (dNil))) (dVar 4))) (dNx)) (dSeq (dExp (dMe 11 2 "begin" (dVar 0) (dCons (dTup (dCons (dCst (.str "move")) (dCons (dVar 1) (dCons (dVar 2) (dCons (dVar 3) (dNil)))))) (dNil)))) (dSeq (dSetI (dUn (fldF "homes") (dVar 0)) (dVar 1) (dVar 4)) (dRet (dMe 38 2 "name" (dVar 0) (dCons (dVar 1) (dNil))))))))))))
  exact j_cons (j_exp (s_me t.c14 hr tk fl (s_var (i := 0) rfl (vis_of rfl) rfl rfl) (a_cons rfl (s_var (i := 1) rfl (vis_of rfl) rfl rfl) (a_nil)) rfl rfl) rfl) (j_cons (j_exp (s_me t.c12 hr tk fl (s_var (i := 0) rfl (vis_of rfl) rfl rfl) (a_cons rfl (s_var (i := 2) rfl (vis_of rfl) rfl rfl) (a_nil)) rfl rfl) rfl) (j_cons (j_if (PW.pt (w_and (t_cmp o_isNot (s_var (i := 3) rfl (vis_of rfl) rfl rfl) (s_non) (nomark _)) (w_and1 (t_not (t_val (s_fn t.c1 hr tk rfl (a_cons rfl (s_var (i := 3) rfl (vis_of rfl) rfl rfl) (a_nil)) rfl rfl) (fun _ => rfl)))))) (j_one (j_raise rfl tk c.e_BadName c.g_BadName rfl rfl)) (j_nil)) (j_cons (j_set (i := 4) nd rfl (loc_of rfl) (.inl rfl) (s_tup (a_cons rfl (s_if (t_cmp o_is (s_var (i := 3) rfl (vis_of rfl) rfl rfl) (s_non) (nomark _)) (s_idx (hu1 hu) (s_idx (hu1 hu) (s_fld c.cls c.n_homes (s_var (i := 0) rfl (vis_of rfl) rfl rfl) rfl) (s_var (i := 1) rfl (vis_of rfl) rfl rfl) (fun _ _ => rfl)) (s_int) (fun _ _ => rfl)) (s_var (i := 3) rfl (vis_of rfl) rfl rfl)) (a_cons rfl (s_var (i := 2) rfl (vis_of rfl) rfl rfl) (a_nil)))) rfl) (j_cons (j_if (t_cmp (o_notIn hu) (s_me t.c16 hr tk fl (s_var (i := 0) rfl (vis_of rfl) rfl rfl) (a_cons rfl (s_bin (o_add false) (s_tup (a_cons rfl (s_idx (hu1 hu) (s_fld c.cls c.n_kinds (s_var (i := 0) rfl (vis_of rfl) rfl rfl) rfl) (s_var (i := 1) rfl (vis_of rfl) rfl rfl) (fun _ _ => rfl)) (a_nil))) (s_var (i := 4) rfl (vis_of rfl) rfl rfl)) (a_nil)) rfl rfl) (s_tup (a_cons rfl (s_non) (a_cons rfl (s_var (i := 1) rfl (vis_of rfl) rfl rfl) (a_nil)))) rfl) (j_one (j_raiseF rfl tk t.x_Taken hrX rfl rfl rfl (s_bin (o_add false) (s_tup (a_cons rfl (s_idx (hu1 hu) (s_fld c.cls c.n_kinds (s_var (i := 0) rfl (vis_of rfl) rfl rfl) rfl) (s_var (i := 1) rfl (vis_of rfl) rfl rfl) (fun _ _ => rfl)) (a_nil))) (s_var (i := 4) rfl (vis_of rfl) rfl rfl)))) (j_nil)) (j_cons (j_exp (s_me t.c11 hr tk fl (s_var (i := 0) rfl (vis_of rfl) rfl rfl) (a_cons rfl (s_tup (a_cons rfl (s_str) (a_cons rfl (s_var (i := 1) rfl (vis_of rfl) rfl rfl) (a_cons rfl (s_var (i := 2) rfl (vis_of rfl) rfl rfl) (a_cons rfl (s_var (i := 3) rfl (vis_of rfl) rfl rfl) (a_nil)))))) (a_nil)) rfl rfl) rfl) (j_cons (j_setI (hu1 hu) (s_fld c.cls c.n_homes (s_var (i := 0) rfl (vis_of rfl) rfl rfl) rfl) (s_var (i := 1) rfl (vis_of rfl) rfl rfl) (s_var (i := 4) rfl (vis_of rfl) rfl rfl) (fun _ => rfl) rfl rfl rfl) (j_one (j_ret (s_me t.c38 hr tk fl (s_var (i := 0) rfl (vis_of rfl) rfl rfl) (a_cons rfl (s_var (i := 1) rfl (vis_of rfl) rfl rfl) (a_nil)) rfl rfl)))))))))
def N_Roof_free_word : List Str := ["self", "kind", "word", "house", "found", "number"]
abbrev X_Roof_free_word (w : World) (K : PySem.W.Frag) (mg : Str → Option Value) (base : Heap) (f : Addr) (cdv : Value) (A : Around) (outer : List Env) (s : Shared) (H : Hp) (E : XK) : Cx := cxOf (L2N.CX PP w) PP w K mg base N_Roof_free_word "Roof.free_word" (defScope (inClass (top 26) 18)) f cdv A outer s H E
theorem nd_Roof_free_word : N_Roof_free_word.Nodup := by decide +kernel
theorem sc_Roof_free_word : FnScope N_Roof_free_word ["self", "kind", "word", "house"] (defScope (inClass (top 26) 18)) := C8.fnScope_by (by kernel_rfl)
theorem wk_Roof_free_word (c : Fx K mg) (t : Tb w K mg base en k) (hr2 : Room (k + 3) (X_Roof_free_word w K mg base f cdv A outer s H E).A) : PSs (X_Roof_free_word w K mg base f cdv A outer s H E) (defBody (inClass (top 26) 18)) (tS K en (fun c d _ H => E c d H) d_Roof_free_word) := by
  have nd := nd_Roof_free_word
  have hr := hr2.mono (show k ≤ k + 3 by omega)
  have hr1 := hr2.mono (show k + 1 ≤ k + 3 by omega)
  have hu := room_hu hr
  have hrX : Room (1 + 1) (X_Roof_free_word w K mg base f cdv A outer s H E).A := hr2.mono (show 1 + 1 ≤ k + 3 by omega)
  have tk : L2N.Takes (X_Roof_free_word w K mg base f cdv A outer s H E) (fun c d _ H => E c d H) := L2N.takes_of (X := X_Roof_free_word w K mg base f cdv A outer s H E) (E := E) (E₁ := fun e s' => L2N.CX PP w outer H s E e s') rfl rfl rfl rfl
  have fl : Flat (fun c d (_ : L2.St) H => E c d H) := flatE
  show PSs (X_Roof_free_word w K mg base f cdv A outer s H E) _ (tS K en (fun c d _ H => E c d H) (dSeq (dPar2 4 5 (dCons (dVar 2) (dCons (dCst (.int 1)) (dNil)))) (dSeq (dWhile (dTst (dBin isNotF (dMe 16 2 "one_of" (dVar 0) (dCons (dTup (dCons (dVar 1) (dCons (dVar 4) (dCons (dVar 3) (dNil))))) (dNil))) (dCst .non))) (dSeq (dSet 5 (dBin (addF false) (dVar 5) (dCst (.int 1)))) (dSet 4 (dFn 6 2 (dCons (dVar 2) (dCons (dVar 5) (dNil))))))) (dRet (dVar 4)))))
  exact j_cons (j_par2 (i := 4) (j := 5) rfl nd rfl rfl (by decide) rfl rfl (a_cons rfl (s_var (i := 2) rfl (vis_of rfl) rfl rfl) (a_cons rfl (s_int) (a_nil))) (by rfl) rfl) (j_cons (j_while (passes_of rfl) (t_cmp o_isNot (s_me t.c16 hr tk fl (s_var (i := 0) rfl (vis_of rfl) rfl rfl) (a_cons rfl (s_tup (a_cons rfl (s_var (i := 1) rfl (vis_of rfl) rfl rfl) (a_cons rfl (s_var (i := 4) rfl (vis_of rfl) rfl rfl) (a_cons rfl (s_var (i := 3) rfl (vis_of rfl) rfl rfl) (a_nil))))) (a_nil)) rfl rfl) (s_non) (nomark _)) (j_cons (j_set (i := 5) nd rfl (loc_of rfl) (.inl rfl) (s_bin (o_add false) (s_var (i := 5) rfl (vis_of rfl) rfl rfl) (s_int)) rfl) (j_one (j_set (i := 4) nd rfl (loc_of rfl) (.inl rfl) (s_fn t.c6 hr tk rfl (a_cons rfl (s_var (i := 2) rfl (vis_of rfl) rfl rfl) (a_cons rfl (s_var (i := 5) rfl (vis_of rfl) rfl rfl) (a_nil))) rfl rfl) rfl)))) (j_one (j_ret (s_var (i := 4) rfl (vis_of rfl) rfl rfl))))
def N_Roof_merge : List Str := ["self", "house", "other", "found", "who", "also", "one", "some", "more"]
abbrev X_Roof_merge (w : World) (K : PySem.W.Frag) (mg : Str → Option Value) (base : Heap) (f : Addr) (cdv : Value) (A : Around) (outer : List Env) (s : Shared) (H : Hp) (E : XK) : Cx := cxOf (L2N.CX PP w) PP w K mg base N_Roof_merge "Roof.merge" (defScope (inClass (top 26) 19)) f cdv A outer s H E
theorem nd_Roof_merge : N_Roof_merge.Nodup := by decide +kernel
theorem sc_Roof_merge : FnScope N_Roof_merge ["self", "house", "other"] (defScope (inClass (top 26) 19)) := C8.fnScope_by (by kernel_rfl)
theorem wk_Roof_merge (c : Fx K mg) (t : Tb w K mg base en k) (hr2 : Room (k + 3) (X_Roof_merge w K mg base f cdv A outer s H E).A) : PSs (X_Roof_merge w K mg base f cdv A outer s H E) (defBody (inClass (top 26) 19)) (tS K en (fun c d _ H => E c d H) d_Roof_merge) := by
  have nd := nd_Roof_merge
  have hr := hr2.mono (show k ≤ k + 3 by omega)
  have hr1 := hr2.mono (show k + 1 ≤ k + 3 by omega)
  have hu := room_hu hr
  have hrX : Room (1 + 1) (X_Roof_merge w K mg base f cdv A outer s H E).A := hr2.mono (show 1 + 1 ≤ k + 3 by omega)
  have tk : L2N.Takes (X_Roof_merge w K mg base f cdv A outer s H E) (fun c d _ H => E c d H) := L2N.takes_of (X := X_Roof_merge w K mg base f cdv A outer s H E) (E := E) (E₁ := fun e s' => L2N.CX PP w outer H s E e s') rfl rfl rfl rfl
  have fl : Flat (fun c d (_ : L2.St) H => E c d H) := flatE
  show PSs (X_Roof_merge w K mg base f cdv A outer s H E) _ (tS K en (fun c d _ H => E c d H) (dSeq (dExp (dMe 13 3 "need_two" (dVar 0) (dCons (dVar 1) (dCons (dVar 2) (dNil))))) (dSeq (dExp (dMe 11 2 "begin" (dVar 0) (dCons (dTup (dCons (dCst (.str "merge")) (dCons (dVar 1) (dCons (dVar 2) (dNil))))) (dNil)))) (dSeq (dSet 3 (dLst true (dNil))) (dSeq (dFor (zSeq (dMe 35 2 "everyone" (dVar 0) (dCons (dVar 1) (dNil)))) (.nm 4) (dSeq (dSetI (dUn (fldF "homes") (dVar 0)) (dVar 4) (dTup (dCons (dMe 26 4 "free_word" (dVar 0) (dCons (dBin idxF (dUn (fldF "kinds") (dVar 0)) (dVar 4)) (dCons (dBin idxF (dBin idxF (dUn (fldF "homes") (dVar 0)) (dVar 4)) (dCst (.int 0))) (dCons (dVar 2) (dNil))))) (dCons (dVar 2) (dNil))))) (dExp (dMt tyL appendF (dVar 3) (dCons (dTup (dCons (dVar 4) (dCons (dMe 38 2 "name" (dVar 0) (dCons (dVar 4) (dNil))) (dNil)))) (dNil)))))) (dSeq (dSetI (dUn (fldF "spans") (dVar 0)) (dVar 2) (dBin (addF false) (dDpop1 (dUn (fldF "spans") (dVar 0)) (dVar 1)) (dBin idxF (dUn (fldF "spans") (dVar 0)) (dVar 2)))) (dSeq (dSet 5 (dDpop1 (dUn (fldF "trusts") (dVar 0)) (dVar 1))) (dSeq (dFor (zSeq (dCall (listF false) (dCons (dUn (fldF "trusts") (dVar 0)) (dNil)))) (.nm 6) (dSeq (dSet 7 (dLc false (zSeq (dBin (addF false) (dBin idxF (dUn (fldF "trusts") (dVar 0)) (dVar 6)) (dIf (dTst (dBin eqF (dVar 6) (dVar 2))) (dVar 5) (dLst false (dNil))))) (.nm 8) (dYes) (dIf (dTst (dBin eqF (dVar 8) (dVar 1))) (dVar 2) (dVar 8)) [8])) (dSetI (dUn (fldF "trusts") (dVar 0)) (dVar 6) (dSortG false (gSet (dLc false (zSeq (dVar 7)) (.nm 8) (dTst (dBin neF (dVar 8) (dVar 6))) (dVar 8) [8])))))) (dRet (dVar 3))))))))))
  exact j_cons (j_exp (s_me t.c13 hr tk fl (s_var (i := 0) rfl (vis_of rfl) rfl rfl) (a_cons rfl (s_var (i := 1) rfl (vis_of rfl) rfl rfl) (a_cons rfl (s_var (i := 2) rfl (vis_of rfl) rfl rfl) (a_nil))) rfl rfl) rfl) (j_cons (j_exp (s_me t.c11 hr tk fl (s_var (i := 0) rfl (vis_of rfl) rfl rfl) (a_cons rfl (s_tup (a_cons rfl (s_str) (a_cons rfl (s_var (i := 1) rfl (vis_of rfl) rfl rfl) (a_cons rfl (s_var (i := 2) rfl (vis_of rfl) rfl rfl) (a_nil))))) (a_nil)) rfl rfl) rfl) (j_cons (j_set (i := 3) nd rfl (loc_of rfl) (.inl rfl) (s_lst (cell := true) (a_nil)) rfl) (j_cons (j_for (passes_of rfl) rfl (i_seq (s_me t.c35 hr tk fl (s_var (i := 0) rfl (vis_of rfl) rfl rfl) (a_cons rfl (s_var (i := 1) rfl (vis_of rfl) rfl rfl) (a_nil)) rfl rfl)) (g_nm (i := 4) nd rfl (loc_of rfl) (.inl rfl)) (j_cons (j_setI (hu1 hu) (s_fld c.cls c.n_homes (s_var (i := 0) rfl (vis_of rfl) rfl rfl) rfl) (s_var (i := 4) rfl (vis_of rfl) rfl rfl) (s_tup (a_cons rfl (s_me t.c26 hr tk fl (s_var (i := 0) rfl (vis_of rfl) rfl rfl) (a_cons rfl (s_idx (hu1 hu) (s_fld c.cls c.n_kinds (s_var (i := 0) rfl (vis_of rfl) rfl rfl) rfl) (s_var (i := 4) rfl (vis_of rfl) rfl rfl) (fun _ _ => rfl)) (a_cons rfl (s_idx (hu1 hu) (s_idx (hu1 hu) (s_fld c.cls c.n_homes (s_var (i := 0) rfl (vis_of rfl) rfl rfl) rfl) (s_var (i := 4) rfl (vis_of rfl) rfl rfl) (fun _ _ => rfl)) (s_int) (fun _ _ => rfl)) (a_cons rfl (s_var (i := 2) rfl (vis_of rfl) rfl rfl) (a_nil)))) rfl rfl) (a_cons rfl (s_var (i := 2) rfl (vis_of rfl) rfl rfl) (a_nil)))) (fun _ => rfl) rfl rfl rfl) (j_one (j_exp (k_append (s_var (i := 3) rfl (vis_of rfl) rfl rfl) (a_cons rfl (s_tup (a_cons rfl (s_var (i := 4) rfl (vis_of rfl) rfl rfl) (a_cons rfl (s_me t.c38 hr tk fl (s_var (i := 0) rfl (vis_of rfl) rfl rfl) (a_cons rfl (s_var (i := 4) rfl (vis_of rfl) rfl rfl) (a_nil)) rfl rfl) (a_nil)))) (a_nil)) rfl rfl rfl rfl) rfl))) (fun _ => rfl)) (j_cons (j_setI (hu1 hu) (s_fld c.cls c.n_spans (s_var (i := 0) rfl (vis_of rfl) rfl rfl) rfl) (s_var (i := 2) rfl (vis_of rfl) rfl rfl) (s_bin (o_add false) (s_dpop1 (s_fld c.cls c.n_spans (s_var (i := 0) rfl (vis_of rfl) rfl rfl) rfl) (s_var (i := 1) rfl (vis_of rfl) rfl rfl) ⟨rfl, rfl, rfl, rfl⟩) (s_idx (hu1 hu) (s_fld c.cls c.n_spans (s_var (i := 0) rfl (vis_of rfl) rfl rfl) rfl) (s_var (i := 2) rfl (vis_of rfl) rfl rfl) (fun _ _ => rfl))) (fun _ => rfl) rfl rfl rfl) (j_cons (j_set (i := 5) nd rfl (loc_of rfl) (.inl rfl) (s_dpop1 (s_fld c.cls c.n_trusts (s_var (i := 0) rfl (vis_of rfl) rfl rfl) rfl) (s_var (i := 1) rfl (vis_of rfl) rfl rfl) ⟨rfl, rfl, rfl, rfl⟩) rfl) (j_cons (j_for (passes_of rfl) rfl (i_seq (s_callTy (c_list rfl false) rfl c.f_list PyProof.Rows.Boot.«list» (a_cons rfl (s_fld c.cls c.n_trusts (s_var (i := 0) rfl (vis_of rfl) rfl rfl) rfl) (a_nil)) rfl (by decide) rfl)) (g_nm (i := 6) nd rfl (loc_of rfl) (.inl rfl)) (j_cons (j_setLc (i := 7) (own := [("more", 8)]) false rfl nd rfl rfl rfl (i_seq (s_bin (o_add false) (s_idx (hu1 hu) (s_fld c.cls c.n_trusts (s_var (i := 0) rfl (vis_of rfl) rfl rfl) rfl) (s_var (i := 6) rfl (vis_of rfl) rfl rfl) (fun _ _ => rfl)) (s_if (t_cmp (o_eq (hu64 hu)) (s_var (i := 6) rfl (vis_of rfl) rfl rfl) (s_var (i := 2) rfl (vis_of rfl) rfl rfl) (nomark _)) (s_var (i := 5) rfl (vis_of rfl) rfl rfl) (s_lst (cell := false) (a_nil))))) (blkOk_by (by kernel_rfl)) (by decide) (fun _ _ _ _ _ => g_nm (i := 8) nd rfl (loc_of rfl) (.inr rfl)) (fun _ _ _ _ _ => ts_nil) (fun _ _ _ _ _ => s_if (t_cmp (o_eq (hu64 hu)) (s_var (i := 8) rfl (vis_of rfl) rfl rfl) (s_var (i := 1) rfl (vis_of rfl) rfl rfl) (nomark _)) (s_var (i := 2) rfl (vis_of rfl) rfl rfl) (s_var (i := 8) rfl (vis_of rfl) rfl rfl)) (fun _ => rfl)) (j_one (j_setI (hu1 hu) (s_fld c.cls c.n_trusts (s_var (i := 0) rfl (vis_of rfl) rfl rfl) rfl) (s_var (i := 6) rfl (vis_of rfl) rfl rfl) (s_sortG false rfl rfl c.f_sorted rfl (g_set rfl rfl c.f_set rfl (s_lc (own := [("more", 8)]) false rfl nd (i_seq (s_var (i := 7) rfl (vis_of rfl) rfl rfl)) (blkOk_by (by kernel_rfl)) (by decide) (fun _ _ _ _ _ => g_nm (i := 8) nd rfl (loc_of rfl) (.inr rfl)) (fun _ _ _ _ _ => ts_one (t_cmp (o_ne (hu64 hu)) (s_var (i := 8) rfl (vis_of rfl) rfl rfl) (s_var (i := 6) rfl (vis_of rfl) rfl rfl) (nomark _))) (fun _ _ _ _ _ => s_var (i := 8) rfl (vis_of rfl) rfl rfl) (fun _ => rfl)))) (fun _ => rfl) rfl rfl rfl))) (fun _ => rfl)) (j_one (j_ret (s_var (i := 3) rfl (vis_of rfl) rfl rfl)))))))))
def N_Roof_trust : List Str := ["self", "house", "other"]
abbrev X_Roof_trust (w : World) (K : PySem.W.Frag) (mg : Str → Option Value) (base : Heap) (f : Addr) (cdv : Value) (A : Around) (outer : List Env) (s : Shared) (H : Hp) (E : XK) : Cx := cxOf (L2N.CX PP w) PP w K mg base N_Roof_trust "Roof.trust" (defScope (inClass (top 26) 20)) f cdv A outer s H E
theorem nd_Roof_trust : N_Roof_trust.Nodup := by decide +kernel
theorem sc_Roof_trust : FnScope N_Roof_trust ["self", "house", "other"] (defScope (inClass (top 26) 20)) := C8.fnScope_by (by kernel_rfl)
theorem wk_Roof_trust (c : Fx K mg) (t : Tb w K mg base en k) (hr2 : Room (k + 3) (X_Roof_trust w K mg base f cdv A outer s H E).A) : PSs (X_Roof_trust w K mg base f cdv A outer s H E) (defBody (inClass (top 26) 20)) (tS K en (fun c d _ H => E c d H) d_Roof_trust) := by
  have nd := nd_Roof_trust
  have hr := hr2.mono (show k ≤ k + 3 by omega)
  have hr1 := hr2.mono (show k + 1 ≤ k + 3 by omega)
  have hu := room_hu hr
  have hrX : Room (1 + 1) (X_Roof_trust w K mg base f cdv A outer s H E).A := hr2.mono (show 1 + 1 ≤ k + 3 by omega)
  have tk : L2N.Takes (X_Roof_trust w K mg base f cdv A outer s H E) (fun c d _ H => E c d H) := L2N.takes_of (X := X_Roof_trust w K mg base f cdv A outer s H E) (E := E) (E₁ := fun e s' => L2N.CX PP w outer H s E e s') rfl rfl rfl rfl
  have fl : Flat (fun c d (_ : L2.St) H => E c d H) := flatE
  show PSs (X_Roof_trust w K mg base f cdv A outer s H E) _ (tS K en (fun c d _ H => E c d H) (dSeq (dExp (dMe 13 3 "need_two" (dVar 0) (dCons (dVar 1) (dCons (dVar 2) (dNil))))) (dSeq (dExp (dMe 11 2 "begin" (dVar 0) (dCons (dTup (dCons (dCst (.str "trust")) (dCons (dVar 1) (dCons (dVar 2) (dNil))))) (dNil)))) (dSetI (dUn (fldF "trusts") (dVar 0)) (dVar 1) (dSortG false (gSet (dBin (addF false) (dBin idxF (dUn (fldF "trusts") (dVar 0)) (dVar 1)) (dLst false (dCons (dVar 2) (dNil))))))))))
  exact j_cons (j_exp (s_me t.c13 hr tk fl (s_var (i := 0) rfl (vis_of rfl) rfl rfl) (a_cons rfl (s_var (i := 1) rfl (vis_of rfl) rfl rfl) (a_cons rfl (s_var (i := 2) rfl (vis_of rfl) rfl rfl) (a_nil))) rfl rfl) rfl) (j_cons (j_exp (s_me t.c11 hr tk fl (s_var (i := 0) rfl (vis_of rfl) rfl rfl) (a_cons rfl (s_tup (a_cons rfl (s_str) (a_cons rfl (s_var (i := 1) rfl (vis_of rfl) rfl rfl) (a_cons rfl (s_var (i := 2) rfl (vis_of rfl) rfl rfl) (a_nil))))) (a_nil)) rfl rfl) rfl) (j_one (j_setI (hu1 hu) (s_fld c.cls c.n_trusts (s_var (i := 0) rfl (vis_of rfl) rfl rfl) rfl) (s_var (i := 1) rfl (vis_of rfl) rfl rfl) (s_sortG false rfl rfl c.f_sorted rfl (g_set rfl rfl c.f_set rfl (s_bin (o_add false) (s_idx (hu1 hu) (s_fld c.cls c.n_trusts (s_var (i := 0) rfl (vis_of rfl) rfl rfl) rfl) (s_var (i := 1) rfl (vis_of rfl) rfl rfl) (fun _ _ => rfl)) (s_lst (cell := false) (a_cons rfl (s_var (i := 2) rfl (vis_of rfl) rfl rfl) (a_nil)))))) (fun _ => rfl) rfl rfl rfl)))
def N_Roof_mistrust : List Str := ["self", "house", "other", "one"]
abbrev X_Roof_mistrust (w : World) (K : PySem.W.Frag) (mg : Str → Option Value) (base : Heap) (f : Addr) (cdv : Value) (A : Around) (outer : List Env) (s : Shared) (H : Hp) (E : XK) : Cx := cxOf (L2N.CX PP w) PP w K mg base N_Roof_mistrust "Roof.mistrust" (defScope (inClass (top 26) 21)) f cdv A outer s H E
theorem nd_Roof_mistrust : N_Roof_mistrust.Nodup := by decide +kernel
theorem sc_Roof_mistrust : FnScope N_Roof_mistrust ["self", "house", "other"] (defScope (inClass (top 26) 21)) := C8.fnScope_by (by kernel_rfl)
theorem wk_Roof_mistrust (c : Fx K mg) (t : Tb w K mg base en k) (hr2 : Room (k + 3) (X_Roof_mistrust w K mg base f cdv A outer s H E).A) : PSs (X_Roof_mistrust w K mg base f cdv A outer s H E) (defBody (inClass (top 26) 21)) (tS K en (fun c d _ H => E c d H) d_Roof_mistrust) := by
  have nd := nd_Roof_mistrust
  have hr := hr2.mono (show k ≤ k + 3 by omega)
  have hr1 := hr2.mono (show k + 1 ≤ k + 3 by omega)
  have hu := room_hu hr
  have hrX : Room (1 + 1) (X_Roof_mistrust w K mg base f cdv A outer s H E).A := hr2.mono (show 1 + 1 ≤ k + 3 by omega)
  have tk : L2N.Takes (X_Roof_mistrust w K mg base f cdv A outer s H E) (fun c d _ H => E c d H) := L2N.takes_of (X := X_Roof_mistrust w K mg base f cdv A outer s H E) (E := E) (E₁ := fun e s' => L2N.CX PP w outer H s E e s') rfl rfl rfl rfl
  have fl : Flat (fun c d (_ : L2.St) H => E c d H) := flatE
  show PSs (X_Roof_mistrust w K mg base f cdv A outer s H E) _ (tS K en (fun c d _ H => E c d H) (dSeq (dExp (dMe 13 3 "need_two" (dVar 0) (dCons (dVar 1) (dCons (dVar 2) (dNil))))) (dSeq (dExp (dMe 11 2 "begin" (dVar 0) (dCons (dTup (dCons (dCst (.str "mistrust")) (dCons (dVar 1) (dCons (dVar 2) (dNil))))) (dNil)))) (dSetI (dUn (fldF "trusts") (dVar 0)) (dVar 1) (dLc false (zSeq (dBin idxF (dUn (fldF "trusts") (dVar 0)) (dVar 1))) (.nm 3) (dTst (dBin neF (dVar 3) (dVar 2))) (dVar 3) [3])))))
  exact j_cons (j_exp (s_me t.c13 hr tk fl (s_var (i := 0) rfl (vis_of rfl) rfl rfl) (a_cons rfl (s_var (i := 1) rfl (vis_of rfl) rfl rfl) (a_cons rfl (s_var (i := 2) rfl (vis_of rfl) rfl rfl) (a_nil))) rfl rfl) rfl) (j_cons (j_exp (s_me t.c11 hr tk fl (s_var (i := 0) rfl (vis_of rfl) rfl rfl) (a_cons rfl (s_tup (a_cons rfl (s_str) (a_cons rfl (s_var (i := 1) rfl (vis_of rfl) rfl rfl) (a_cons rfl (s_var (i := 2) rfl (vis_of rfl) rfl rfl) (a_nil))))) (a_nil)) rfl rfl) rfl) (j_one (j_setI (hu1 hu) (s_fld c.cls c.n_trusts (s_var (i := 0) rfl (vis_of rfl) rfl rfl) rfl) (s_var (i := 1) rfl (vis_of rfl) rfl rfl) (s_lc (own := [("one", 3)]) false rfl nd (i_seq (s_idx (hu1 hu) (s_fld c.cls c.n_trusts (s_var (i := 0) rfl (vis_of rfl) rfl rfl) rfl) (s_var (i := 1) rfl (vis_of rfl) rfl rfl) (fun _ _ => rfl))) (blkOk_by (by kernel_rfl)) (by decide) (fun _ _ _ _ _ => g_nm (i := 3) nd rfl (loc_of rfl) (.inr rfl)) (fun _ _ _ _ _ => ts_one (t_cmp (o_ne (hu64 hu)) (s_var (i := 3) rfl (vis_of rfl) rfl rfl) (s_var (i := 2) rfl (vis_of rfl) rfl rfl) (nomark _))) (fun _ _ _ _ _ => s_var (i := 3) rfl (vis_of rfl) rfl rfl) (fun _ => rfl)) (fun _ => rfl) rfl rfl rfl)))
def N_Roof_take_back : List Str := ["self"]
abbrev X_Roof_take_back (w : World) (K : PySem.W.Frag) (mg : Str → Option Value) (base : Heap) (f : Addr) (cdv : Value) (A : Around) (outer : List Env) (s : Shared) (H : Hp) (E : XK) : Cx := cxOf (L2N.CX PP w) PP w K mg base N_Roof_take_back "Roof.take_back" (defScope (inClass (top 26) 22)) f cdv A outer s H E
theorem nd_Roof_take_back : N_Roof_take_back.Nodup := by decide +kernel
theorem sc_Roof_take_back : FnScope N_Roof_take_back ["self"] (defScope (inClass (top 26) 22)) := C8.fnScope_by (by kernel_rfl)
theorem wk_Roof_take_back (c : Fx K mg) (t : Tb w K mg base en k) (hr2 : Room (k + 3) (X_Roof_take_back w K mg base f cdv A outer s H E).A) : PSs (X_Roof_take_back w K mg base f cdv A outer s H E) (defBody (inClass (top 26) 22)) (tS K en (fun c d _ H => E c d H) d_Roof_take_back) := by
  have nd := nd_Roof_take_back
  have hr := hr2.mono (show k ≤ k + 3 by omega)
  have hr1 := hr2.mono (show k + 1 ≤ k + 3 by omega)
  have hu := room_hu hr
  have hrX : Room (1 + 1) (X_Roof_take_back w K mg base f cdv A outer s H E).A := hr2.mono (show 1 + 1 ≤ k + 3 by omega)
  have tk : L2N.Takes (X_Roof_take_back w K mg base f cdv A outer s H E) (fun c d _ H => E c d H) := L2N.takes_of (X := X_Roof_take_back w K mg base f cdv A outer s H E) (E := E) (E₁ := fun e s' => L2N.CX PP w outer H s E e s') rfl rfl rfl rfl
  have fl : Flat (fun c d (_ : L2.St) H => E c d H) := flatE
  show PSs (X_Roof_take_back w K mg base f cdv A outer s H E) _ (tS K en (fun c d _ H => E c d H) (dSeq (dIfS (dTst (dBin eqF (dUn (fldF "past") (dVar 0)) (dLst false (dNil)))) (dRaise "Nothing") (dNx)) (dSeq (dExp (dMt tyL popF (dUn (fldF "deeds") (dVar 0)) dNil)) (dBadS))))
  exact j_cons (j_if (t_cmp (o_eq (hu64 hu)) (s_fld c.cls c.n_past (s_var (i := 0) rfl (vis_of rfl) rfl rfl) rfl) (s_lst (cell := false) (a_nil)) (nomark _)) (j_one (j_raise rfl tk c.e_Nothing c.g_Nothing rfl rfl)) (j_nil)) (j_cons (j_exp (k_pop0 (s_fld c.cls c.n_deeds (s_var (i := 0) rfl (vis_of rfl) rfl rfl) rfl) rfl rfl) rfl) (j_one (j_badS)))
def N_Roof_time : List Str := ["self"]
abbrev X_Roof_time (w : World) (K : PySem.W.Frag) (mg : Str → Option Value) (base : Heap) (f : Addr) (cdv : Value) (A : Around) (outer : List Env) (s : Shared) (H : Hp) (E : XK) : Cx := cxOf (L2N.CX PP w) PP w K mg base N_Roof_time "Roof.time" (defScope (inClass (top 26) 23)) f cdv A outer s H E
theorem nd_Roof_time : N_Roof_time.Nodup := by decide +kernel
theorem sc_Roof_time : FnScope N_Roof_time ["self"] (defScope (inClass (top 26) 23)) := C8.fnScope_by (by kernel_rfl)
theorem wk_Roof_time (c : Fx K mg) (t : Tb w K mg base en k) (hr2 : Room (k + 3) (X_Roof_time w K mg base f cdv A outer s H E).A) : PSs (X_Roof_time w K mg base f cdv A outer s H E) (defBody (inClass (top 26) 23)) (tS K en (fun c d _ H => E c d H) d_Roof_time) := by
  have nd := nd_Roof_time
  have hr := hr2.mono (show k ≤ k + 3 by omega)
  have hr1 := hr2.mono (show k + 1 ≤ k + 3 by omega)
  have hu := room_hu hr
  have hrX : Room (1 + 1) (X_Roof_time w K mg base f cdv A outer s H E).A := hr2.mono (show 1 + 1 ≤ k + 3 by omega)
  have tk : L2N.Takes (X_Roof_time w K mg base f cdv A outer s H E) (fun c d _ H => E c d H) := L2N.takes_of (X := X_Roof_time w K mg base f cdv A outer s H E) (E := E) (E₁ := fun e s' => L2N.CX PP w outer H s E e s') rfl rfl rfl rfl
  have fl : Flat (fun c d (_ : L2.St) H => E c d H) := flatE
  show PSs (X_Roof_time w K mg base f cdv A outer s H E) _ (tS K en (fun c d _ H => E c d H) (dRet (dCall lenF (dCons (dUn (fldF "deeds") (dVar 0)) (dNil)))))
  exact j_one (j_ret (s_callB c_len rfl c.f_len PyProof.Rows.Boot.«len» (a_cons rfl (s_fld c.cls c.n_deeds (s_var (i := 0) rfl (vis_of rfl) rfl rfl) rfl) (a_nil)) rfl (by decide) rfl))
def N_Roof_all_deeds : List Str := ["self"]
abbrev X_Roof_all_deeds (w : World) (K : PySem.W.Frag) (mg : Str → Option Value) (base : Heap) (f : Addr) (cdv : Value) (A : Around) (outer : List Env) (s : Shared) (H : Hp) (E : XK) : Cx := cxOf (L2N.CX PP w) PP w K mg base N_Roof_all_deeds "Roof.all_deeds" (defScope (inClass (top 26) 24)) f cdv A outer s H E
theorem nd_Roof_all_deeds : N_Roof_all_deeds.Nodup := by decide +kernel
theorem sc_Roof_all_deeds : FnScope N_Roof_all_deeds ["self"] (defScope (inClass (top 26) 24)) := C8.fnScope_by (by kernel_rfl)
theorem wk_Roof_all_deeds (c : Fx K mg) (t : Tb w K mg base en k) (hr2 : Room (k + 3) (X_Roof_all_deeds w K mg base f cdv A outer s H E).A) : PSs (X_Roof_all_deeds w K mg base f cdv A outer s H E) (defBody (inClass (top 26) 24)) (tS K en (fun c d _ H => E c d H) d_Roof_all_deeds) := by
  have nd := nd_Roof_all_deeds
  have hr := hr2.mono (show k ≤ k + 3 by omega)
  have hr1 := hr2.mono (show k + 1 ≤ k + 3 by omega)
  have hu := room_hu hr
  have hrX : Room (1 + 1) (X_Roof_all_deeds w K mg base f cdv A outer s H E).A := hr2.mono (show 1 + 1 ≤ k + 3 by omega)
  have tk : L2N.Takes (X_Roof_all_deeds w K mg base f cdv A outer s H E) (fun c d _ H => E c d H) := L2N.takes_of (X := X_Roof_all_deeds w K mg base f cdv A outer s H E) (E := E) (E₁ := fun e s' => L2N.CX PP w outer H s E e s') rfl rfl rfl rfl
  have fl : Flat (fun c d (_ : L2.St) H => E c d H) := flatE
  show PSs (X_Roof_all_deeds w K mg base f cdv A outer s H E) _ (tS K en (fun c d _ H => E c d H) (dRet (dCall (listF false) (dCons (dUn (fldF "deeds") (dVar 0)) (dNil)))))
  exact j_one (j_ret (s_callTy (c_list rfl false) rfl c.f_list PyProof.Rows.Boot.«list» (a_cons rfl (s_fld c.cls c.n_deeds (s_var (i := 0) rfl (vis_of rfl) rfl rfl) rfl) (a_nil)) rfl (by decide) rfl))
def N_Roof_houses : List Str := ["self"]
abbrev X_Roof_houses (w : World) (K : PySem.W.Frag) (mg : Str → Option Value) (base : Heap) (f : Addr) (cdv : Value) (A : Around) (outer : List Env) (s : Shared) (H : Hp) (E : XK) : Cx := cxOf (L2N.CX PP w) PP w K mg base N_Roof_houses "Roof.houses" (defScope (inClass (top 26) 25)) f cdv A outer s H E
theorem nd_Roof_houses : N_Roof_houses.Nodup := by decide +kernel
theorem sc_Roof_houses : FnScope N_Roof_houses ["self"] (defScope (inClass (top 26) 25)) := C8.fnScope_by (by kernel_rfl)
theorem wk_Roof_houses (c : Fx K mg) (t : Tb w K mg base en k) (hr2 : Room (k + 3) (X_Roof_houses w K mg base f cdv A outer s H E).A) : PSs (X_Roof_houses w K mg base f cdv A outer s H E) (defBody (inClass (top 26) 25)) (tS K en (fun c d _ H => E c d H) d_Roof_houses) := by
  have nd := nd_Roof_houses
  have hr := hr2.mono (show k ≤ k + 3 by omega)
  have hr1 := hr2.mono (show k + 1 ≤ k + 3 by omega)
  have hu := room_hu hr
  have hrX : Room (1 + 1) (X_Roof_houses w K mg base f cdv A outer s H E).A := hr2.mono (show 1 + 1 ≤ k + 3 by omega)
  have tk : L2N.Takes (X_Roof_houses w K mg base f cdv A outer s H E) (fun c d _ H => E c d H) := L2N.takes_of (X := X_Roof_houses w K mg base f cdv A outer s H E) (E := E) (E₁ := fun e s' => L2N.CX PP w outer H s E e s') rfl rfl rfl rfl
  have fl : Flat (fun c d (_ : L2.St) H => E c d H) := flatE
  show PSs (X_Roof_houses w K mg base f cdv A outer s H E) _ (tS K en (fun c d _ H => E c d H) (dRet (dCall (sortedF false) (dCons (dUn (fldF "spans") (dVar 0)) (dNil)))))
  exact j_one (j_ret (s_callB (c_sorted rfl false) rfl c.f_sorted PyProof.Rows.Boot.«sorted» (a_cons rfl (s_fld c.cls c.n_spans (s_var (i := 0) rfl (vis_of rfl) rfl rfl) rfl) (a_nil)) rfl (by decide) rfl))
def N_Roof_ranges : List Str := ["self", "house"]
abbrev X_Roof_ranges (w : World) (K : PySem.W.Frag) (mg : Str → Option Value) (base : Heap) (f : Addr) (cdv : Value) (A : Around) (outer : List Env) (s : Shared) (H : Hp) (E : XK) : Cx := cxOf (L2N.CX PP w) PP w K mg base N_Roof_ranges "Roof.ranges" (defScope (inClass (top 26) 26)) f cdv A outer s H E
theorem nd_Roof_ranges : N_Roof_ranges.Nodup := by decide +kernel
theorem sc_Roof_ranges : FnScope N_Roof_ranges ["self", "house"] (defScope (inClass (top 26) 26)) := C8.fnScope_by (by kernel_rfl)
theorem wk_Roof_ranges (c : Fx K mg) (t : Tb w K mg base en k) (hr2 : Room (k + 3) (X_Roof_ranges w K mg base f cdv A outer s H E).A) : PSs (X_Roof_ranges w K mg base f cdv A outer s H E) (defBody (inClass (top 26) 26)) (tS K en (fun c d _ H => E c d H) d_Roof_ranges) := by
  have nd := nd_Roof_ranges
  have hr := hr2.mono (show k ≤ k + 3 by omega)
  have hr1 := hr2.mono (show k + 1 ≤ k + 3 by omega)
  have hu := room_hu hr
  have hrX : Room (1 + 1) (X_Roof_ranges w K mg base f cdv A outer s H E).A := hr2.mono (show 1 + 1 ≤ k + 3 by omega)
  have tk : L2N.Takes (X_Roof_ranges w K mg base f cdv A outer s H E) (fun c d _ H => E c d H) := L2N.takes_of (X := X_Roof_ranges w K mg base f cdv A outer s H E) (E := E) (E₁ := fun e s' => L2N.CX PP w outer H s E e s') rfl rfl rfl rfl
  have fl : Flat (fun c d (_ : L2.St) H => E c d H) := flatE
  show PSs (X_Roof_ranges w K mg base f cdv A outer s H E) _ (tS K en (fun c d _ H => E c d H) (dSeq (dExp (dMe 12 2 "need_house" (dVar 0) (dCons (dVar 1) (dNil)))) (dRet (dCall (listF false) (dCons (dBin idxF (dUn (fldF "spans") (dVar 0)) (dVar 1)) (dNil))))))
  exact j_cons (j_exp (s_me t.c12 hr tk fl (s_var (i := 0) rfl (vis_of rfl) rfl rfl) (a_cons rfl (s_var (i := 1) rfl (vis_of rfl) rfl rfl) (a_nil)) rfl rfl) rfl) (j_one (j_ret (s_callTy (c_list rfl false) rfl c.f_list PyProof.Rows.Boot.«list» (a_cons rfl (s_idx (hu1 hu) (s_fld c.cls c.n_spans (s_var (i := 0) rfl (vis_of rfl) rfl rfl) rfl) (s_var (i := 1) rfl (vis_of rfl) rfl rfl) (fun _ _ => rfl)) (a_nil)) rfl (by decide) rfl)))
def N_Roof_everyone : List Str := ["self", "house", "who"]
abbrev X_Roof_everyone (w : World) (K : PySem.W.Frag) (mg : Str → Option Value) (base : Heap) (f : Addr) (cdv : Value) (A : Around) (outer : List Env) (s : Shared) (H : Hp) (E : XK) : Cx := cxOf (L2N.CX PP w) PP w K mg base N_Roof_everyone "Roof.everyone" (defScope (inClass (top 26) 27)) f cdv A outer s H E
theorem nd_Roof_everyone : N_Roof_everyone.Nodup := by decide +kernel
theorem sc_Roof_everyone : FnScope N_Roof_everyone ["self", "house"] (defScope (inClass (top 26) 27)) := C8.fnScope_by (by kernel_rfl)
theorem wk_Roof_everyone (c : Fx K mg) (t : Tb w K mg base en k) (hr2 : Room (k + 3) (X_Roof_everyone w K mg base f cdv A outer s H E).A) : PSs (X_Roof_everyone w K mg base f cdv A outer s H E) (defBody (inClass (top 26) 27)) (tS K en (fun c d _ H => E c d H) d_Roof_everyone) := by
  have nd := nd_Roof_everyone
  have hr := hr2.mono (show k ≤ k + 3 by omega)
  have hr1 := hr2.mono (show k + 1 ≤ k + 3 by omega)
  have hu := room_hu hr
  have hrX : Room (1 + 1) (X_Roof_everyone w K mg base f cdv A outer s H E).A := hr2.mono (show 1 + 1 ≤ k + 3 by omega)
  have tk : L2N.Takes (X_Roof_everyone w K mg base f cdv A outer s H E) (fun c d _ H => E c d H) := L2N.takes_of (X := X_Roof_everyone w K mg base f cdv A outer s H E) (E := E) (E₁ := fun e s' => L2N.CX PP w outer H s E e s') rfl rfl rfl rfl
  have fl : Flat (fun c d (_ : L2.St) H => E c d H) := flatE
  show PSs (X_Roof_everyone w K mg base f cdv A outer s H E) _ (tS K en (fun c d _ H => E c d H) (dSeq (dExp (dMe 12 2 "need_house" (dVar 0) (dCons (dVar 1) (dNil)))) (dRet (dCall (sortedF false) (dCons (dLkE (dUn (fldF "homes") (dVar 0)) (dLc false (zKey (dUn (fldF "homes") (dVar 0))) (.nm 2) (dTst (dBin eqF (dBin idxF (dBin idxF (dUn (fldF "homes") (dVar 0)) (dVar 2)) (dCst (.int 1))) (dVar 1))) (dVar 2) [2])) (dNil))))))
  exact j_cons (j_exp (s_me t.c12 hr tk fl (s_var (i := 0) rfl (vis_of rfl) rfl rfl) (a_cons rfl (s_var (i := 1) rfl (vis_of rfl) rfl rfl) (a_nil)) rfl rfl) rfl) (j_one (j_ret (s_callB (c_sorted rfl false) rfl c.f_sorted PyProof.Rows.Boot.«sorted» (a_cons rfl (s_lk (dUn (fldF "homes") (dVar 0)) (s_lc (own := [("who", 2)]) false rfl nd (i_key (s_fld c.cls c.n_homes (s_var (i := 0) rfl (vis_of rfl) rfl rfl) rfl)) (blkOk_by (by kernel_rfl)) (by decide) (fun _ _ _ _ _ => g_nm (i := 2) nd rfl (loc_of rfl) (.inr rfl)) (fun _ _ _ _ _ => ts_one (t_cmp (o_eq (hu64 hu)) (s_idx (hu1 hu) (s_idx (hu1 hu) (s_fld c.cls c.n_homes (s_var (i := 0) rfl (vis_of rfl) rfl rfl) rfl) (s_var (i := 2) rfl (vis_of rfl) rfl rfl) (fun _ _ => rfl)) (s_int) (fun _ _ => rfl)) (s_var (i := 1) rfl (vis_of rfl) rfl rfl) (nomark _))) (fun _ _ _ _ _ => s_var (i := 2) rfl (vis_of rfl) rfl rfl) (fun _ => rfl))) (a_nil)) rfl (by decide) rfl)))
def N_Roof_all_numbers : List Str := ["self"]
abbrev X_Roof_all_numbers (w : World) (K : PySem.W.Frag) (mg : Str → Option Value) (base : Heap) (f : Addr) (cdv : Value) (A : Around) (outer : List Env) (s : Shared) (H : Hp) (E : XK) : Cx := cxOf (L2N.CX PP w) PP w K mg base N_Roof_all_numbers "Roof.all_numbers" (defScope (inClass (top 26) 28)) f cdv A outer s H E
theorem nd_Roof_all_numbers : N_Roof_all_numbers.Nodup := by decide +kernel
theorem sc_Roof_all_numbers : FnScope N_Roof_all_numbers ["self"] (defScope (inClass (top 26) 28)) := C8.fnScope_by (by kernel_rfl)
theorem wk_Roof_all_numbers (c : Fx K mg) (t : Tb w K mg base en k) (hr2 : Room (k + 3) (X_Roof_all_numbers w K mg base f cdv A outer s H E).A) : PSs (X_Roof_all_numbers w K mg base f cdv A outer s H E) (defBody (inClass (top 26) 28)) (tS K en (fun c d _ H => E c d H) d_Roof_all_numbers) := by
  have nd := nd_Roof_all_numbers
  have hr := hr2.mono (show k ≤ k + 3 by omega)
  have hr1 := hr2.mono (show k + 1 ≤ k + 3 by omega)
  have hu := room_hu hr
  have hrX : Room (1 + 1) (X_Roof_all_numbers w K mg base f cdv A outer s H E).A := hr2.mono (show 1 + 1 ≤ k + 3 by omega)
  have tk : L2N.Takes (X_Roof_all_numbers w K mg base f cdv A outer s H E) (fun c d _ H => E c d H) := L2N.takes_of (X := X_Roof_all_numbers w K mg base f cdv A outer s H E) (E := E) (E₁ := fun e s' => L2N.CX PP w outer H s E e s') rfl rfl rfl rfl
  have fl : Flat (fun c d (_ : L2.St) H => E c d H) := flatE
  show PSs (X_Roof_all_numbers w K mg base f cdv A outer s H E) _ (tS K en (fun c d _ H => E c d H) (dRet (dCall (sortedF false) (dCons (dUn (fldF "kinds") (dVar 0)) (dNil)))))
  exact j_one (j_ret (s_callB (c_sorted rfl false) rfl c.f_sorted PyProof.Rows.Boot.«sorted» (a_cons rfl (s_fld c.cls c.n_kinds (s_var (i := 0) rfl (vis_of rfl) rfl rfl) rfl) (a_nil)) rfl (by decide) rfl))
def N_Roof_is_group : List Str := ["self", "who"]
abbrev X_Roof_is_group (w : World) (K : PySem.W.Frag) (mg : Str → Option Value) (base : Heap) (f : Addr) (cdv : Value) (A : Around) (outer : List Env) (s : Shared) (H : Hp) (E : XK) : Cx := cxOf (L2N.CX PP w) PP w K mg base N_Roof_is_group "Roof.is_group" (defScope (inClass (top 26) 29)) f cdv A outer s H E
theorem nd_Roof_is_group : N_Roof_is_group.Nodup := by decide +kernel
theorem sc_Roof_is_group : FnScope N_Roof_is_group ["self", "who"] (defScope (inClass (top 26) 29)) := C8.fnScope_by (by kernel_rfl)
theorem wk_Roof_is_group (c : Fx K mg) (t : Tb w K mg base en k) (hr2 : Room (k + 3) (X_Roof_is_group w K mg base f cdv A outer s H E).A) : PSs (X_Roof_is_group w K mg base f cdv A outer s H E) (defBody (inClass (top 26) 29)) (tS K en (fun c d _ H => E c d H) d_Roof_is_group) := by
  have nd := nd_Roof_is_group
  have hr := hr2.mono (show k ≤ k + 3 by omega)
  have hr1 := hr2.mono (show k + 1 ≤ k + 3 by omega)
  have hu := room_hu hr
  have hrX : Room (1 + 1) (X_Roof_is_group w K mg base f cdv A outer s H E).A := hr2.mono (show 1 + 1 ≤ k + 3 by omega)
  have tk : L2N.Takes (X_Roof_is_group w K mg base f cdv A outer s H E) (fun c d _ H => E c d H) := L2N.takes_of (X := X_Roof_is_group w K mg base f cdv A outer s H E) (E := E) (E₁ := fun e s' => L2N.CX PP w outer H s E e s') rfl rfl rfl rfl
  have fl : Flat (fun c d (_ : L2.St) H => E c d H) := flatE
  show PSs (X_Roof_is_group w K mg base f cdv A outer s H E) _ (tS K en (fun c d _ H => E c d H) (dRet (dAndV (dFn 7 1 (dCons (dVar 1) (dNil))) (dBin eqF (dGet1 (dUn (fldF "kinds") (dVar 0)) (dVar 1)) (dCst (.str "group"))))))
  exact j_one (j_ret (v_and (s_fn t.c7 hr tk rfl (a_cons rfl (s_var (i := 1) rfl (vis_of rfl) rfl rfl) (a_nil)) rfl rfl) (v_one (s_cmp (o_eq (hu64 hu)) (s_get1 (hu1 hu) (s_fld c.cls c.n_kinds (s_var (i := 0) rfl (vis_of rfl) rfl rfl) rfl) (s_var (i := 1) rfl (vis_of rfl) rfl rfl) ⟨rfl, rfl, rfl, rfl⟩) (s_gstr c.s_GROUP rfl rfl) (nomark _)))))
def N_Roof_name : List Str := ["self", "who"]
abbrev X_Roof_name (w : World) (K : PySem.W.Frag) (mg : Str → Option Value) (base : Heap) (f : Addr) (cdv : Value) (A : Around) (outer : List Env) (s : Shared) (H : Hp) (E : XK) : Cx := cxOf (L2N.CX PP w) PP w K mg base N_Roof_name "Roof.name" (defScope (inClass (top 26) 30)) f cdv A outer s H E
theorem nd_Roof_name : N_Roof_name.Nodup := by decide +kernel
theorem sc_Roof_name : FnScope N_Roof_name ["self", "who"] (defScope (inClass (top 26) 30)) := C8.fnScope_by (by kernel_rfl)
theorem wk_Roof_name (c : Fx K mg) (t : Tb w K mg base en k) (hr2 : Room (k + 3) (X_Roof_name w K mg base f cdv A outer s H E).A) : PSs (X_Roof_name w K mg base f cdv A outer s H E) (defBody (inClass (top 26) 30)) (tS K en (fun c d _ H => E c d H) d_Roof_name) := by
  have nd := nd_Roof_name
  have hr := hr2.mono (show k ≤ k + 3 by omega)
  have hr1 := hr2.mono (show k + 1 ≤ k + 3 by omega)
  have hu := room_hu hr
  have hrX : Room (1 + 1) (X_Roof_name w K mg base f cdv A outer s H E).A := hr2.mono (show 1 + 1 ≤ k + 3 by omega)
  have tk : L2N.Takes (X_Roof_name w K mg base f cdv A outer s H E) (fun c d _ H => E c d H) := L2N.takes_of (X := X_Roof_name w K mg base f cdv A outer s H E) (E := E) (E₁ := fun e s' => L2N.CX PP w outer H s E e s') rfl rfl rfl rfl
  have fl : Flat (fun c d (_ : L2.St) H => E c d H) := flatE
  show PSs (X_Roof_name w K mg base f cdv A outer s H E) _ (tS K en (fun c d _ H => E c d H) (dSeq (dExp (dMe 14 2 "need_one" (dVar 0) (dCons (dVar 1) (dNil)))) (dRet (dBin (addF false) (dTup (dCons (dBin idxF (dUn (fldF "kinds") (dVar 0)) (dVar 1)) (dNil))) (dBin idxF (dUn (fldF "homes") (dVar 0)) (dVar 1))))))
  exact j_cons (j_exp (s_me t.c14 hr tk fl (s_var (i := 0) rfl (vis_of rfl) rfl rfl) (a_cons rfl (s_var (i := 1) rfl (vis_of rfl) rfl rfl) (a_nil)) rfl rfl) rfl) (j_one (j_ret (s_bin (o_add false) (s_tup (a_cons rfl (s_idx (hu1 hu) (s_fld c.cls c.n_kinds (s_var (i := 0) rfl (vis_of rfl) rfl rfl) rfl) (s_var (i := 1) rfl (vis_of rfl) rfl rfl) (fun _ _ => rfl)) (a_nil))) (s_idx (hu1 hu) (s_fld c.cls c.n_homes (s_var (i := 0) rfl (vis_of rfl) rfl rfl) rfl) (s_var (i := 1) rfl (vis_of rfl) rfl rfl) (fun _ _ => rfl)))))
def N_Roof_number : List Str := ["self", "name", "found"]
abbrev X_Roof_number (w : World) (K : PySem.W.Frag) (mg : Str → Option Value) (base : Heap) (f : Addr) (cdv : Value) (A : Around) (outer : List Env) (s : Shared) (H : Hp) (E : XK) : Cx := cxOf (L2N.CX PP w) PP w K mg base N_Roof_number "Roof.number" (defScope (inClass (top 26) 31)) f cdv A outer s H E
theorem nd_Roof_number : N_Roof_number.Nodup := by decide +kernel
theorem sc_Roof_number : FnScope N_Roof_number ["self", "name"] (defScope (inClass (top 26) 31)) := C8.fnScope_by (by kernel_rfl)
theorem wk_Roof_number (c : Fx K mg) (t : Tb w K mg base en k) (hr2 : Room (k + 3) (X_Roof_number w K mg base f cdv A outer s H E).A) : PSs (X_Roof_number w K mg base f cdv A outer s H E) (defBody (inClass (top 26) 31)) (tS K en (fun c d _ H => E c d H) d_Roof_number) := by
  have nd := nd_Roof_number
  have hr := hr2.mono (show k ≤ k + 3 by omega)
  have hr1 := hr2.mono (show k + 1 ≤ k + 3 by omega)
  have hu := room_hu hr
  have hrX : Room (1 + 1) (X_Roof_number w K mg base f cdv A outer s H E).A := hr2.mono (show 1 + 1 ≤ k + 3 by omega)
  have tk : L2N.Takes (X_Roof_number w K mg base f cdv A outer s H E) (fun c d _ H => E c d H) := L2N.takes_of (X := X_Roof_number w K mg base f cdv A outer s H E) (E := E) (E₁ := fun e s' => L2N.CX PP w outer H s E e s') rfl rfl rfl rfl
  have fl : Flat (fun c d (_ : L2.St) H => E c d H) := flatE
  show PSs (X_Roof_number w K mg base f cdv A outer s H E) _ (tS K en (fun c d _ H => E c d H) (dSeq (dExp (dFn 5 1 (dCons (dVar 1) (dNil)))) (dSeq (dSet 2 (dMe 16 2 "one_of" (dVar 0) (dCons (dVar 1) (dNil)))) (dSeq (dIfS (dTst (dBin isF (dVar 2) (dCst .non))) (dRaiseF "NoOne" (dVar 1)) (dNx)) (dRet (dVar 2))))))
  exact j_cons (j_exp (s_fn t.c5 hr tk rfl (a_cons rfl (s_var (i := 1) rfl (vis_of rfl) rfl rfl) (a_nil)) rfl rfl) rfl) (j_cons (j_set (i := 2) nd rfl (loc_of rfl) (.inl rfl) (s_me t.c16 hr tk fl (s_var (i := 0) rfl (vis_of rfl) rfl rfl) (a_cons rfl (s_var (i := 1) rfl (vis_of rfl) rfl rfl) (a_nil)) rfl rfl) rfl) (j_cons (j_if (t_cmp o_is (s_var (i := 2) rfl (vis_of rfl) rfl rfl) (s_non) (nomark _)) (j_one (j_raiseF rfl tk t.x_NoOne hrX rfl rfl rfl (s_var (i := 1) rfl (vis_of rfl) rfl rfl))) (j_nil)) (j_one (j_ret (s_var (i := 2) rfl (vis_of rfl) rfl rfl)))))
def N_Roof_members : List Str := ["self", "group"]
abbrev X_Roof_members (w : World) (K : PySem.W.Frag) (mg : Str → Option Value) (base : Heap) (f : Addr) (cdv : Value) (A : Around) (outer : List Env) (s : Shared) (H : Hp) (E : XK) : Cx := cxOf (L2N.CX PP w) PP w K mg base N_Roof_members "Roof.members" (defScope (inClass (top 26) 32)) f cdv A outer s H E
theorem nd_Roof_members : N_Roof_members.Nodup := by decide +kernel
theorem sc_Roof_members : FnScope N_Roof_members ["self", "group"] (defScope (inClass (top 26) 32)) := C8.fnScope_by (by kernel_rfl)
theorem wk_Roof_members (c : Fx K mg) (t : Tb w K mg base en k) (hr2 : Room (k + 3) (X_Roof_members w K mg base f cdv A outer s H E).A) : PSs (X_Roof_members w K mg base f cdv A outer s H E) (defBody (inClass (top 26) 32)) (tS K en (fun c d _ H => E c d H) d_Roof_members) := by
  have nd := nd_Roof_members
  have hr := hr2.mono (show k ≤ k + 3 by omega)
  have hr1 := hr2.mono (show k + 1 ≤ k + 3 by omega)
  have hu := room_hu hr
  have hrX : Room (1 + 1) (X_Roof_members w K mg base f cdv A outer s H E).A := hr2.mono (show 1 + 1 ≤ k + 3 by omega)
  have tk : L2N.Takes (X_Roof_members w K mg base f cdv A outer s H E) (fun c d _ H => E c d H) := L2N.takes_of (X := X_Roof_members w K mg base f cdv A outer s H E) (E := E) (E₁ := fun e s' => L2N.CX PP w outer H s E e s') rfl rfl rfl rfl
  have fl : Flat (fun c d (_ : L2.St) H => E c d H) := flatE
  show PSs (X_Roof_members w K mg base f cdv A outer s H E) _ (tS K en (fun c d _ H => E c d H) (dSeq (dExp (dMe 15 2 "need_group" (dVar 0) (dCons (dVar 1) (dNil)))) (dRet (dCall (listF false) (dCons (dBin idxF (dUn (fldF "inside") (dVar 0)) (dVar 1)) (dNil))))))
  exact j_cons (j_exp (s_me t.c15 hr tk fl (s_var (i := 0) rfl (vis_of rfl) rfl rfl) (a_cons rfl (s_var (i := 1) rfl (vis_of rfl) rfl rfl) (a_nil)) rfl rfl) rfl) (j_one (j_ret (s_callTy (c_list rfl false) rfl c.f_list PyProof.Rows.Boot.«list» (a_cons rfl (s_idx (hu1 hu) (s_fld c.cls c.n_inside (s_var (i := 0) rfl (vis_of rfl) rfl rfl) rfl) (s_var (i := 1) rfl (vis_of rfl) rfl rfl) (fun _ _ => rfl)) (a_nil)) rfl (by decide) rfl)))
def N_Roof_trusted : List Str := ["self", "house"]
abbrev X_Roof_trusted (w : World) (K : PySem.W.Frag) (mg : Str → Option Value) (base : Heap) (f : Addr) (cdv : Value) (A : Around) (outer : List Env) (s : Shared) (H : Hp) (E : XK) : Cx := cxOf (L2N.CX PP w) PP w K mg base N_Roof_trusted "Roof.trusted" (defScope (inClass (top 26) 33)) f cdv A outer s H E
theorem nd_Roof_trusted : N_Roof_trusted.Nodup := by decide +kernel
theorem sc_Roof_trusted : FnScope N_Roof_trusted ["self", "house"] (defScope (inClass (top 26) 33)) := C8.fnScope_by (by kernel_rfl)
theorem wk_Roof_trusted (c : Fx K mg) (t : Tb w K mg base en k) (hr2 : Room (k + 3) (X_Roof_trusted w K mg base f cdv A outer s H E).A) : PSs (X_Roof_trusted w K mg base f cdv A outer s H E) (defBody (inClass (top 26) 33)) (tS K en (fun c d _ H => E c d H) d_Roof_trusted) := by
  have nd := nd_Roof_trusted
  have hr := hr2.mono (show k ≤ k + 3 by omega)
  have hr1 := hr2.mono (show k + 1 ≤ k + 3 by omega)
  have hu := room_hu hr
  have hrX : Room (1 + 1) (X_Roof_trusted w K mg base f cdv A outer s H E).A := hr2.mono (show 1 + 1 ≤ k + 3 by omega)
  have tk : L2N.Takes (X_Roof_trusted w K mg base f cdv A outer s H E) (fun c d _ H => E c d H) := L2N.takes_of (X := X_Roof_trusted w K mg base f cdv A outer s H E) (E := E) (E₁ := fun e s' => L2N.CX PP w outer H s E e s') rfl rfl rfl rfl
  have fl : Flat (fun c d (_ : L2.St) H => E c d H) := flatE
  show PSs (X_Roof_trusted w K mg base f cdv A outer s H E) _ (tS K en (fun c d _ H => E c d H) (dExp (dFn 0 1 (dCons (dCst (.int 0)) (dNil)))))
  exact j_one (j_exp (s_fn t.c0 hr tk rfl (a_cons rfl (s_int) (a_nil)) rfl rfl) rfl)
def N_Roof_counts : List Str := ["self", "who", "group", "here", "there"]
abbrev X_Roof_counts (w : World) (K : PySem.W.Frag) (mg : Str → Option Value) (base : Heap) (f : Addr) (cdv : Value) (A : Around) (outer : List Env) (s : Shared) (H : Hp) (E : XK) : Cx := cxOf (L2N.CX PP w) PP w K mg base N_Roof_counts "Roof.counts" (defScope (inClass (top 26) 34)) f cdv A outer s H E
theorem nd_Roof_counts : N_Roof_counts.Nodup := by decide +kernel
theorem sc_Roof_counts : FnScope N_Roof_counts ["self", "who", "group"] (defScope (inClass (top 26) 34)) := C8.fnScope_by (by kernel_rfl)
theorem wk_Roof_counts (c : Fx K mg) (t : Tb w K mg base en k) (hr2 : Room (k + 3) (X_Roof_counts w K mg base f cdv A outer s H E).A) : PSs (X_Roof_counts w K mg base f cdv A outer s H E) (defBody (inClass (top 26) 34)) (tS K en (fun c d _ H => E c d H) d_Roof_counts) := by
  have nd := nd_Roof_counts
  have hr := hr2.mono (show k ≤ k + 3 by omega)
  have hr1 := hr2.mono (show k + 1 ≤ k + 3 by omega)
  have hu := room_hu hr
  have hrX : Room (1 + 1) (X_Roof_counts w K mg base f cdv A outer s H E).A := hr2.mono (show 1 + 1 ≤ k + 3 by omega)
  have tk : L2N.Takes (X_Roof_counts w K mg base f cdv A outer s H E) (fun c d _ H => E c d H) := L2N.takes_of (X := X_Roof_counts w K mg base f cdv A outer s H E) (E := E) (E₁ := fun e s' => L2N.CX PP w outer H s E e s') rfl rfl rfl rfl
  have fl : Flat (fun c d (_ : L2.St) H => E c d H) := flatE
  show PSs (X_Roof_counts w K mg base f cdv A outer s H E) _ (tS K en (fun c d _ H => E c d H) (dSeq (dIfS (dTst (dBin notInF (dVar 1) (dBin idxF (dUn (fldF "inside") (dVar 0)) (dVar 2)))) (dRet (dCst (.bl false))) (dNx)) (dSeq (dPar2 3 4 (dCons (dBin idxF (dBin idxF (dUn (fldF "homes") (dVar 0)) (dVar 1)) (dCst (.int 1))) (dCons (dBin idxF (dBin idxF (dUn (fldF "homes") (dVar 0)) (dVar 2)) (dCst (.int 1))) (dNil)))) (dRet (dOrV (dBin eqF (dVar 3) (dVar 4)) (dBin inF (dVar 3) (dBin idxF (dUn (fldF "trusts") (dVar 0)) (dVar 4))))))))
  exact j_cons (j_if (t_cmp (o_notIn hu) (s_var (i := 1) rfl (vis_of rfl) rfl rfl) (s_idx (hu1 hu) (s_fld c.cls c.n_inside (s_var (i := 0) rfl (vis_of rfl) rfl rfl) rfl) (s_var (i := 2) rfl (vis_of rfl) rfl rfl) (fun _ _ => rfl)) rfl) (j_one (j_ret (s_bl))) (j_nil)) (j_cons (j_par2 (i := 3) (j := 4) rfl nd rfl rfl (by decide) rfl rfl (a_cons rfl (s_idx (hu1 hu) (s_idx (hu1 hu) (s_fld c.cls c.n_homes (s_var (i := 0) rfl (vis_of rfl) rfl rfl) rfl) (s_var (i := 1) rfl (vis_of rfl) rfl rfl) (fun _ _ => rfl)) (s_int) (fun _ _ => rfl)) (a_cons rfl (s_idx (hu1 hu) (s_idx (hu1 hu) (s_fld c.cls c.n_homes (s_var (i := 0) rfl (vis_of rfl) rfl rfl) rfl) (s_var (i := 2) rfl (vis_of rfl) rfl rfl) (fun _ _ => rfl)) (s_int) (fun _ _ => rfl)) (a_nil))) (by rfl) rfl) (j_one (j_ret (v_or (s_cmp (o_eq (hu64 hu)) (s_var (i := 3) rfl (vis_of rfl) rfl rfl) (s_var (i := 4) rfl (vis_of rfl) rfl rfl) (nomark _)) (v_one (s_cmp (o_in hu) (s_var (i := 3) rfl (vis_of rfl) rfl rfl) (s_idx (hu1 hu) (s_fld c.cls c.n_trusts (s_var (i := 0) rfl (vis_of rfl) rfl rfl) rfl) (s_var (i := 4) rfl (vis_of rfl) rfl rfl) (fun _ _ => rfl)) rfl))))))
def N_next_groups : List Str := ["roof", "who", "group"]
abbrev X_next_groups (w : World) (K : PySem.W.Frag) (mg : Str → Option Value) (base : Heap) (f : Addr) (cdv : Value) (A : Around) (outer : List Env) (s : Shared) (H : Hp) (E : XK) : Cx := cxOf (L2N.CX PP w) PP w K mg base N_next_groups "next_groups" (defScope (top 28)) f cdv A outer s H E
theorem nd_next_groups : N_next_groups.Nodup := by decide +kernel
theorem sc_next_groups : FnScope N_next_groups ["roof", "who"] (defScope (top 28)) := C8.fnScope_by (by kernel_rfl)
theorem wk_next_groups (c : Fx K mg) (t : Tb w K mg base en k) (hr2 : Room (k + 3) (X_next_groups w K mg base f cdv A outer s H E).A) : PSs (X_next_groups w K mg base f cdv A outer s H E) (defBody (top 28)) (tS K en (fun c d _ H => E c d H) d_next_groups) := by
  have nd := nd_next_groups
  have hr := hr2.mono (show k ≤ k + 3 by omega)
  have hr1 := hr2.mono (show k + 1 ≤ k + 3 by omega)
  have hu := room_hu hr
  have hrX : Room (1 + 1) (X_next_groups w K mg base f cdv A outer s H E).A := hr2.mono (show 1 + 1 ≤ k + 3 by omega)
  have tk : L2N.Takes (X_next_groups w K mg base f cdv A outer s H E) (fun c d _ H => E c d H) := L2N.takes_of (X := X_next_groups w K mg base f cdv A outer s H E) (E := E) (E₁ := fun e s' => L2N.CX PP w outer H s E e s') rfl rfl rfl rfl
  have fl : Flat (fun c d (_ : L2.St) H => E c d H) := flatE
  show PSs (X_next_groups w K mg base f cdv A outer s H E) _ (tS K en (fun c d _ H => E c d H) (dRet (dLc true (zSeq (dMe 36 1 "all_numbers" (dVar 0) dNil)) (.nm 2) (dAnd (dTst (dMe 37 2 "is_group" (dVar 0) (dCons (dVar 2) (dNil)))) (dTst (dMe 42 3 "counts" (dVar 0) (dCons (dVar 1) (dCons (dVar 2) (dNil)))))) (dVar 2) [2])))
  exact j_one (j_ret (s_lc (own := [("group", 2)]) true rfl nd (i_seq (s_me0 t.c36 hr tk fl (s_var (i := 0) rfl (vis_of rfl) rfl rfl) rfl)) (blkOk_by (by kernel_rfl)) (by decide) (fun _ _ _ _ _ => g_nm (i := 2) nd rfl (loc_of rfl) (.inr rfl)) (fun _ _ _ _ _ => ts_one (PW.pt (w_and (t_val (s_me t.c37 hr takesF flatF (s_var (i := 0) rfl (vis_of rfl) rfl rfl) (a_cons rfl (s_var (i := 2) rfl (vis_of rfl) rfl rfl) (a_nil)) rfl rfl) (fun _ => rfl)) (w_and1 (t_val (s_me t.c42 hr takesF flatF (s_var (i := 0) rfl (vis_of rfl) rfl rfl) (a_cons rfl (s_var (i := 1) rfl (vis_of rfl) rfl rfl) (a_cons rfl (s_var (i := 2) rfl (vis_of rfl) rfl rfl) (a_nil))) rfl rfl) (fun _ => rfl)))))) (fun _ _ _ _ _ => s_var (i := 2) rfl (vis_of rfl) rfl rfl) (fun _ => rfl)))
def N_closed : List Str := ["roof", "who", "found", "todo", "here"]
abbrev X_closed (w : World) (K : PySem.W.Frag) (mg : Str → Option Value) (base : Heap) (f : Addr) (cdv : Value) (A : Around) (outer : List Env) (s : Shared) (H : Hp) (E : XK) : Cx := cxOf (L2N.CX PP w) PP w K mg base N_closed "closed" (defScope (top 29)) f cdv A outer s H E
theorem nd_closed : N_closed.Nodup := by decide +kernel
theorem sc_closed : FnScope N_closed ["roof", "who"] (defScope (top 29)) := C8.fnScope_by (by kernel_rfl)
theorem wk_closed (c : Fx K mg) (t : Tb w K mg base en k) (hr2 : Room (k + 3) (X_closed w K mg base f cdv A outer s H E).A) : PSs (X_closed w K mg base f cdv A outer s H E) (defBody (top 29)) (tS K en (fun c d _ H => E c d H) d_closed) := by
  have nd := nd_closed
  have hr := hr2.mono (show k ≤ k + 3 by omega)
  have hr1 := hr2.mono (show k + 1 ≤ k + 3 by omega)
  have hu := room_hu hr
  have hrX : Room (1 + 1) (X_closed w K mg base f cdv A outer s H E).A := hr2.mono (show 1 + 1 ≤ k + 3 by omega)
  have tk : L2N.Takes (X_closed w K mg base f cdv A outer s H E) (fun c d _ H => E c d H) := L2N.takes_of (X := X_closed w K mg base f cdv A outer s H E) (E := E) (E₁ := fun e s' => L2N.CX PP w outer H s E e s') rfl rfl rfl rfl
  have fl : Flat (fun c d (_ : L2.St) H => E c d H) := flatE
  show PSs (X_closed w K mg base f cdv A outer s H E) _ (tS K en (fun c d _ H => E c d H) (dSeq (dPar2 2 3 (dCons (dLst true (dNil)) (dCons (dFn 43 2 (dCons (dVar 0) (dCons (dVar 1) (dNil)))) (dNil)))) (dSeq (dWhile (dTst (dBin neF (dVar 3) (dLst false (dNil)))) (dSeq (dSet 4 (dMt tyL popF (dVar 3) (dCons (dCst (.int 0)) (dNil)))) (dIfS (dAnd (dTst (dBin notInF (dVar 4) (dVar 2))) (dTst (dBin neF (dVar 4) (dVar 1)))) (dSeq (dExp (dMt tyL appendF (dVar 2) (dCons (dVar 4) (dNil)))) (dSet 3 (dBin (addF true) (dVar 3) (dFn 43 2 (dCons (dVar 0) (dCons (dVar 4) (dNil))))))) (dNx)))) (dRet (dCall (sortedF false) (dCons (dVar 2) (dNil)))))))
  exact j_cons (j_par2 (i := 2) (j := 3) rfl nd rfl rfl (by decide) rfl rfl (a_cons rfl (s_lst (cell := true) (a_nil)) (a_cons rfl (s_fn t.c43 hr tk rfl (a_cons rfl (s_var (i := 0) rfl (vis_of rfl) rfl rfl) (a_cons rfl (s_var (i := 1) rfl (vis_of rfl) rfl rfl) (a_nil))) rfl rfl) (a_nil))) (by rfl) rfl) (j_cons (j_while (passes_of rfl) (t_cmp (o_ne (hu64 hu)) (s_var (i := 3) rfl (vis_of rfl) rfl rfl) (s_lst (cell := false) (a_nil)) (nomark _)) (j_cons (j_set (i := 4) nd rfl (loc_of rfl) (.inl rfl) (k_pop (s_var (i := 3) rfl (vis_of rfl) rfl rfl) (a_cons rfl (s_int) (a_nil)) rfl rfl rfl rfl) rfl) (j_one (j_if (PW.pt (w_and (t_cmp (o_notIn hu) (s_var (i := 4) rfl (vis_of rfl) rfl rfl) (s_var (i := 2) rfl (vis_of rfl) rfl rfl) rfl) (w_and1 (t_cmp (o_ne (hu64 hu)) (s_var (i := 4) rfl (vis_of rfl) rfl rfl) (s_var (i := 1) rfl (vis_of rfl) rfl rfl) (nomark _))))) (j_cons (j_exp (k_append (s_var (i := 2) rfl (vis_of rfl) rfl rfl) (a_cons rfl (s_var (i := 4) rfl (vis_of rfl) rfl rfl) (a_nil)) rfl rfl rfl rfl) rfl) (j_one (j_set (i := 3) nd rfl (loc_of rfl) (.inl rfl) (s_bin (o_add true) (s_var (i := 3) rfl (vis_of rfl) rfl rfl) (s_fn t.c43 hr tk rfl (a_cons rfl (s_var (i := 0) rfl (vis_of rfl) rfl rfl) (a_cons rfl (s_var (i := 4) rfl (vis_of rfl) rfl rfl) (a_nil))) rfl rfl)) rfl))) (j_nil))))) (j_one (j_ret (s_callB (c_sorted rfl false) rfl c.f_sorted PyProof.Rows.Boot.«sorted» (a_cons rfl (s_var (i := 2) rfl (vis_of rfl) rfl rfl) (a_nil)) rfl (by decide) rfl))))
def N_is_rule : List Str := ["thing"]
abbrev X_is_rule (w : World) (K : PySem.W.Frag) (mg : Str → Option Value) (base : Heap) (f : Addr) (cdv : Value) (A : Around) (outer : List Env) (s : Shared) (H : Hp) (E : XK) : Cx := cxOf (L2N.CX PP w) PP w K mg base N_is_rule "is_rule" (defScope (top 33)) f cdv A outer s H E
theorem nd_is_rule : N_is_rule.Nodup := by decide +kernel
theorem sc_is_rule : FnScope N_is_rule ["thing"] (defScope (top 33)) := C8.fnScope_by (by kernel_rfl)
theorem wk_is_rule (c : Fx K mg) (t : Tb w K mg base en k) (hr2 : Room (k + 3) (X_is_rule w K mg base f cdv A outer s H E).A) : PSs (X_is_rule w K mg base f cdv A outer s H E) (defBody (top 33)) (tS K en (fun c d _ H => E c d H) d_is_rule) := by
  have nd := nd_is_rule
  have hr := hr2.mono (show k ≤ k + 3 by omega)
  have hr1 := hr2.mono (show k + 1 ≤ k + 3 by omega)
  have hu := room_hu hr
  have hrX : Room (1 + 1) (X_is_rule w K mg base f cdv A outer s H E).A := hr2.mono (show 1 + 1 ≤ k + 3 by omega)
  have tk : L2N.Takes (X_is_rule w K mg base f cdv A outer s H E) (fun c d _ H => E c d H) := L2N.takes_of (X := X_is_rule w K mg base f cdv A outer s H E) (E := E) (E₁ := fun e s' => L2N.CX PP w outer H s E e s') rfl rfl rfl rfl
  have fl : Flat (fun c d (_ : L2.St) H => E c d H) := flatE
  show PSs (X_is_rule w K mg base f cdv A outer s H E) _ (tS K en (fun c d _ H => E c d H) (dSeq (dIfS (dOr (dNot (dTst (dCall (isiF "tuple") (dCons (dVar 0) dNil)))) (dOr (dTst (dBin neF (dCall lenF (dCons (dVar 0) (dNil))) (dCst (.int 3)))) (dNot (dTst (dCall (isiF "str") (dCons (dBin idxF (dVar 0) (dCst (.int 0))) dNil)))))) (dRet (dCst (.bl false))) (dNx)) (dRet (dAndV (dBin inF (dBin idxF (dVar 0) (dCst (.int 0))) (dTup (dCons (dCst (.str "let")) (dCons (dCst (.str "bar")) (dNil))))) (dAndV (dFn 7 1 (dCons (dBin idxF (dVar 0) (dCst (.int 1))) (dNil))) (dFn 1 1 (dCons (dBin idxF (dVar 0) (dCst (.int 2))) (dNil))))))))
  exact j_cons (j_if (PW.pt (w_or (t_not (t_val (s_isi rfl c.f_isinstance rfl c.f_tuple PyProof.Rows.Boot.«tuple» (by decide) rfl rfl (s_var (i := 0) rfl (vis_of rfl) rfl rfl)) (fun _ => rfl))) (w_or (t_cmp (o_ne (hu64 hu)) (s_callB c_len rfl c.f_len PyProof.Rows.Boot.«len» (a_cons rfl (s_var (i := 0) rfl (vis_of rfl) rfl rfl) (a_nil)) rfl (by decide) rfl) (s_int) (nomark _)) (w_or1 (t_not (t_val (s_isi rfl c.f_isinstance rfl c.f_str PyProof.Rows.Boot.«str» (by decide) rfl rfl (s_idx (hu1 hu) (s_var (i := 0) rfl (vis_of rfl) rfl rfl) (s_int) (fun _ _ => rfl))) (fun _ => rfl))))))) (j_one (j_ret (s_bl))) (j_nil)) (j_one (j_ret (v_and (s_cmp (o_in hu) (s_idx (hu1 hu) (s_var (i := 0) rfl (vis_of rfl) rfl rfl) (s_int) (fun _ _ => rfl)) (s_tup (a_cons rfl (s_gstr c.s_LET rfl rfl) (a_cons rfl (s_gstr c.s_BAR rfl rfl) (a_nil)))) rfl) (v_and (s_fn t.c7 hr tk rfl (a_cons rfl (s_idx (hu1 hu) (s_var (i := 0) rfl (vis_of rfl) rfl rfl) (s_int) (fun _ _ => rfl)) (a_nil)) rfl rfl) (v_one (s_fn t.c1 hr tk rfl (a_cons rfl (s_idx (hu1 hu) (s_var (i := 0) rfl (vis_of rfl) rfl rfl) (s_int) (fun _ _ => rfl)) (a_nil)) rfl rfl))))))
def N_need_rules : List Str := ["thing", "one"]
abbrev X_need_rules (w : World) (K : PySem.W.Frag) (mg : Str → Option Value) (base : Heap) (f : Addr) (cdv : Value) (A : Around) (outer : List Env) (s : Shared) (H : Hp) (E : XK) : Cx := cxOf (L2N.CX PP w) PP w K mg base N_need_rules "need_rules" (defScope (top 34)) f cdv A outer s H E
theorem nd_need_rules : N_need_rules.Nodup := by decide +kernel
theorem sc_need_rules : FnScope N_need_rules ["thing"] (defScope (top 34)) := C8.fnScope_by (by kernel_rfl)
theorem wk_need_rules (c : Fx K mg) (t : Tb w K mg base en k) (hr2 : Room (k + 3) (X_need_rules w K mg base f cdv A outer s H E).A) : PSs (X_need_rules w K mg base f cdv A outer s H E) (defBody (top 34)) (tS K en (fun c d _ H => E c d H) d_need_rules) := by
  have nd := nd_need_rules
  have hr := hr2.mono (show k ≤ k + 3 by omega)
  have hr1 := hr2.mono (show k + 1 ≤ k + 3 by omega)
  have hu := room_hu hr
  have hrX : Room (1 + 1) (X_need_rules w K mg base f cdv A outer s H E).A := hr2.mono (show 1 + 1 ≤ k + 3 by omega)
  have tk : L2N.Takes (X_need_rules w K mg base f cdv A outer s H E) (fun c d _ H => E c d H) := L2N.takes_of (X := X_need_rules w K mg base f cdv A outer s H E) (E := E) (E₁ := fun e s' => L2N.CX PP w outer H s E e s') rfl rfl rfl rfl
  have fl : Flat (fun c d (_ : L2.St) H => E c d H) := flatE
  show PSs (X_need_rules w K mg base f cdv A outer s H E) _ (tS K en (fun c d _ H => E c d H) (dIfS (dOr (dNot (dTst (dCall (isiF "list") (dCons (dVar 0) dNil)))) (dNot (dTst (dCall allF (dCons (dLc false (zSeq (dVar 0)) (.nm 1) (dYes) (dFn 45 1 (dCons (dVar 1) (dNil))) [1]) (dNil)))))) (dRaise "BadRule") (dNx)))
  exact j_one (j_if (PW.pt (w_or (t_not (t_val (s_isi rfl c.f_isinstance rfl c.f_list PyProof.Rows.Boot.«list» (by decide) rfl rfl (s_var (i := 0) rfl (vis_of rfl) rfl rfl)) (fun _ => rfl))) (w_or1 (t_not (t_val (s_callB (c_all rfl) rfl c.f_all PyProof.Rows.Boot.«all» (a_cons rfl (s_lc (own := [("one", 1)]) false rfl nd (i_seq (s_var (i := 0) rfl (vis_of rfl) rfl rfl)) (blkOk_by (by kernel_rfl)) (by decide) (fun _ _ _ _ _ => g_nm (i := 1) nd rfl (loc_of rfl) (.inr rfl)) (fun _ _ _ _ _ => ts_nil) (fun _ _ _ _ _ => s_fn t.c45 hr takesF rfl (a_cons rfl (s_var (i := 1) rfl (vis_of rfl) rfl rfl) (a_nil)) rfl rfl) (fun _ => rfl)) (a_nil)) rfl (by decide) rfl) (fun _ => rfl)))))) (j_one (j_raise rfl tk c.e_BadRule c.g_BadRule rfl rfl)) (j_nil))
def N_place : List Str := ["rules", "about", "thing", "at", "word", "whom", "some"]
abbrev X_place (w : World) (K : PySem.W.Frag) (mg : Str → Option Value) (base : Heap) (f : Addr) (cdv : Value) (A : Around) (outer : List Env) (s : Shared) (H : Hp) (E : XK) : Cx := cxOf (L2N.CX PP w) PP w K mg base N_place "place" (defScope (top 35)) f cdv A outer s H E
theorem nd_place : N_place.Nodup := by decide +kernel
theorem sc_place : FnScope N_place ["rules", "about", "thing"] (defScope (top 35)) := C8.fnScope_by (by kernel_rfl)
theorem wk_place (c : Fx K mg) (t : Tb w K mg base en k) (hr2 : Room (k + 3) (X_place w K mg base f cdv A outer s H E).A) : PSs (X_place w K mg base f cdv A outer s H E) (defBody (top 35)) (tS K en (fun c d _ H => E c d H) d_place) := by
  have nd := nd_place
  have hr := hr2.mono (show k ≤ k + 3 by omega)
  have hr1 := hr2.mono (show k + 1 ≤ k + 3 by omega)
  have hu := room_hu hr
  have hrX : Room (1 + 1) (X_place w K mg base f cdv A outer s H E).A := hr2.mono (show 1 + 1 ≤ k + 3 by omega)
  have tk : L2N.Takes (X_place w K mg base f cdv A outer s H E) (fun c d _ H => E c d H) := L2N.takes_of (X := X_place w K mg base f cdv A outer s H E) (E := E) (E₁ := fun e s' => L2N.CX PP w outer H s E e s') rfl rfl rfl rfl
  have fl : Flat (fun c d (_ : L2.St) H => E c d H) := flatE
  show PSs (X_place w K mg base f cdv A outer s H E) _ (tS K en (fun c d _ H => E c d H) (dSeq (dFor (zEnum (dVar 0)) (.tp [.nm 3, .tp [.nm 4, .nm 5, .nm 6]]) (dIfS (dAnd (dTst (dBin inF (dVar 5) (dVar 1))) (dTst (dBin eqF (dVar 6) (dVar 2)))) (dRet (dVar 3)) (dNx))) (dRet (dUn negF (dCst (.int 1))))))
  exact j_cons (j_for (passes_of rfl) rfl (i_enum rfl c.f_enumerate rfl (s_var (i := 0) rfl (vis_of rfl) rfl rfl)) (g_tp rfl (gs_cons (g_nm (i := 3) nd rfl (loc_of rfl) (.inl rfl)) (gs_cons (g_tp rfl (gs_cons (g_nm (i := 4) nd rfl (loc_of rfl) (.inl rfl)) (gs_cons (g_nm (i := 5) nd rfl (loc_of rfl) (.inl rfl)) (gs_cons (g_nm (i := 6) nd rfl (loc_of rfl) (.inl rfl)) (gs_nil) rfl) rfl) rfl) rfl rfl) (gs_nil) rfl) rfl) rfl rfl) (j_one (j_if (PW.pt (w_and (t_cmp (o_in hu) (s_var (i := 5) rfl (vis_of rfl) rfl rfl) (s_var (i := 1) rfl (vis_of rfl) rfl rfl) rfl) (w_and1 (t_cmp (o_eq (hu64 hu)) (s_var (i := 6) rfl (vis_of rfl) rfl rfl) (s_var (i := 2) rfl (vis_of rfl) rfl rfl) (nomark _))))) (j_one (j_ret (s_var (i := 3) rfl (vis_of rfl) rfl rfl))) (j_nil))) (fun _ => rfl)) (j_one (j_ret (s_un o_neg (s_int))))
def N_lets : List Str := ["rules", "about", "thing", "at"]
abbrev X_lets (w : World) (K : PySem.W.Frag) (mg : Str → Option Value) (base : Heap) (f : Addr) (cdv : Value) (A : Around) (outer : List Env) (s : Shared) (H : Hp) (E : XK) : Cx := cxOf (L2N.CX PP w) PP w K mg base N_lets "lets" (defScope (top 36)) f cdv A outer s H E
theorem nd_lets : N_lets.Nodup := by decide +kernel
theorem sc_lets : FnScope N_lets ["rules", "about", "thing"] (defScope (top 36)) := C8.fnScope_by (by kernel_rfl)
theorem wk_lets (c : Fx K mg) (t : Tb w K mg base en k) (hr2 : Room (k + 3) (X_lets w K mg base f cdv A outer s H E).A) : PSs (X_lets w K mg base f cdv A outer s H E) (defBody (top 36)) (tS K en (fun c d _ H => E c d H) d_lets) := by
  have nd := nd_lets
  have hr := hr2.mono (show k ≤ k + 3 by omega)
  have hr1 := hr2.mono (show k + 1 ≤ k + 3 by omega)
  have hu := room_hu hr
  have hrX : Room (1 + 1) (X_lets w K mg base f cdv A outer s H E).A := hr2.mono (show 1 + 1 ≤ k + 3 by omega)
  have tk : L2N.Takes (X_lets w K mg base f cdv A outer s H E) (fun c d _ H => E c d H) := L2N.takes_of (X := X_lets w K mg base f cdv A outer s H E) (E := E) (E₁ := fun e s' => L2N.CX PP w outer H s E e s') rfl rfl rfl rfl
  have fl : Flat (fun c d (_ : L2.St) H => E c d H) := flatE
  show PSs (X_lets w K mg base f cdv A outer s H E) _ (tS K en (fun c d _ H => E c d H) (dSeq (dSet 3 (dFn 47 3 (dCons (dVar 0) (dCons (dVar 1) (dCons (dVar 2) (dNil)))))) (dRet (dAndV (dBin geF (dVar 3) (dCst (.int 0))) (dBin eqF (dBin idxF (dBin idxF (dVar 0) (dVar 3)) (dCst (.int 0))) (dCst (.str "let")))))))
  exact j_cons (j_set (i := 3) nd rfl (loc_of rfl) (.inl rfl) (s_fn t.c47 hr tk rfl (a_cons rfl (s_var (i := 0) rfl (vis_of rfl) rfl rfl) (a_cons rfl (s_var (i := 1) rfl (vis_of rfl) rfl rfl) (a_cons rfl (s_var (i := 2) rfl (vis_of rfl) rfl rfl) (a_nil)))) rfl rfl) rfl) (j_one (j_ret (v_and (s_cmp o_ge (s_var (i := 3) rfl (vis_of rfl) rfl rfl) (s_int) (nomark _)) (v_one (s_cmp (o_eq (hu64 hu)) (s_idx (hu1 hu) (s_idx (hu1 hu) (s_var (i := 0) rfl (vis_of rfl) rfl rfl) (s_var (i := 3) rfl (vis_of rfl) rfl rfl) (fun _ _ => rfl)) (s_int) (fun _ _ => rfl)) (s_gstr c.s_LET rfl rfl) (nomark _))))))
def N_about_of : List Str := ["roof", "who"]
abbrev X_about_of (w : World) (K : PySem.W.Frag) (mg : Str → Option Value) (base : Heap) (f : Addr) (cdv : Value) (A : Around) (outer : List Env) (s : Shared) (H : Hp) (E : XK) : Cx := cxOf (L2N.CX PP w) PP w K mg base N_about_of "about_of" (defScope (top 37)) f cdv A outer s H E
theorem nd_about_of : N_about_of.Nodup := by decide +kernel
theorem sc_about_of : FnScope N_about_of ["roof", "who"] (defScope (top 37)) := C8.fnScope_by (by kernel_rfl)
theorem wk_about_of (c : Fx K mg) (t : Tb w K mg base en k) (hr2 : Room (k + 3) (X_about_of w K mg base f cdv A outer s H E).A) : PSs (X_about_of w K mg base f cdv A outer s H E) (defBody (top 37)) (tS K en (fun c d _ H => E c d H) d_about_of) := by
  have nd := nd_about_of
  have hr := hr2.mono (show k ≤ k + 3 by omega)
  have hr1 := hr2.mono (show k + 1 ≤ k + 3 by omega)
  have hu := room_hu hr
  have hrX : Room (1 + 1) (X_about_of w K mg base f cdv A outer s H E).A := hr2.mono (show 1 + 1 ≤ k + 3 by omega)
  have tk : L2N.Takes (X_about_of w K mg base f cdv A outer s H E) (fun c d _ H => E c d H) := L2N.takes_of (X := X_about_of w K mg base f cdv A outer s H E) (E := E) (E₁ := fun e s' => L2N.CX PP w outer H s E e s') rfl rfl rfl rfl
  have fl : Flat (fun c d (_ : L2.St) H => E c d H) := flatE
  show PSs (X_about_of w K mg base f cdv A outer s H E) _ (tS K en (fun c d _ H => E c d H) (dRet (dBin (addF false) (dLst false (dCons (dVar 1) (dNil))) (dFn 44 2 (dCons (dVar 0) (dCons (dVar 1) (dNil)))))))
  exact j_one (j_ret (s_bin (o_add false) (s_lst (cell := false) (a_cons rfl (s_var (i := 1) rfl (vis_of rfl) rfl rfl) (a_nil))) (s_fn t.c44 hr tk rfl (a_cons rfl (s_var (i := 0) rfl (vis_of rfl) rfl rfl) (a_cons rfl (s_var (i := 1) rfl (vis_of rfl) rfl rfl) (a_nil))) rfl rfl)))
def N_all_lets : List Str := ["roof", "rules", "things", "found", "who", "about", "thing"]
abbrev X_all_lets (w : World) (K : PySem.W.Frag) (mg : Str → Option Value) (base : Heap) (f : Addr) (cdv : Value) (A : Around) (outer : List Env) (s : Shared) (H : Hp) (E : XK) : Cx := cxOf (L2N.CX PP w) PP w K mg base N_all_lets "all_lets" (defScope (top 38)) f cdv A outer s H E
theorem nd_all_lets : N_all_lets.Nodup := by decide +kernel
theorem sc_all_lets : FnScope N_all_lets ["roof", "rules", "things"] (defScope (top 38)) := C8.fnScope_by (by kernel_rfl)
theorem wk_all_lets (c : Fx K mg) (t : Tb w K mg base en k) (hr2 : Room (k + 3) (X_all_lets w K mg base f cdv A outer s H E).A) : PSs (X_all_lets w K mg base f cdv A outer s H E) (defBody (top 38)) (tS K en (fun c d _ H => E c d H) d_all_lets) := by
  have nd := nd_all_lets
  have hr := hr2.mono (show k ≤ k + 3 by omega)
  have hr1 := hr2.mono (show k + 1 ≤ k + 3 by omega)
  have hu := room_hu hr
  have hrX : Room (1 + 1) (X_all_lets w K mg base f cdv A outer s H E).A := hr2.mono (show 1 + 1 ≤ k + 3 by omega)
  have tk : L2N.Takes (X_all_lets w K mg base f cdv A outer s H E) (fun c d _ H => E c d H) := L2N.takes_of (X := X_all_lets w K mg base f cdv A outer s H E) (E := E) (E₁ := fun e s' => L2N.CX PP w outer H s E e s') rfl rfl rfl rfl
  have fl : Flat (fun c d (_ : L2.St) H => E c d H) := flatE
  show PSs (X_all_lets w K mg base f cdv A outer s H E) _ (tS K en (fun c d _ H => E c d H) (dSeq (dSet 3 (dNewD false)) (dSeq (dFor (zSeq (dMe 36 1 "all_numbers" (dVar 0) dNil)) (.nm 4) (dIfS (dTst (dBin eqF (dBin idxF (dMe 38 2 "name" (dVar 0) (dCons (dVar 4) (dNil))) (dCst (.int 0))) (dCst (.str "one")))) (dSeq (dSet 5 (dFn 49 2 (dCons (dVar 0) (dCons (dVar 4) (dNil))))) (dFor (zSeq (dVar 2)) (.nm 6) (dSetI (dVar 3) (dTup (dCons (dVar 4) (dCons (dVar 6) (dNil)))) (dFn 48 3 (dCons (dVar 1) (dCons (dVar 5) (dCons (dVar 6) (dNil)))))))) (dNx))) (dRet (dVar 3)))))
  exact j_cons (j_set (i := 3) nd rfl (loc_of rfl) (.inl rfl) (s_dnew false) rfl) (j_cons (j_for (passes_of rfl) rfl (i_seq (s_me0 t.c36 hr tk fl (s_var (i := 0) rfl (vis_of rfl) rfl rfl) rfl)) (g_nm (i := 4) nd rfl (loc_of rfl) (.inl rfl)) (j_one (j_if (t_cmp (o_eq (hu64 hu)) (s_idx (hu1 hu) (s_me t.c38 hr tk fl (s_var (i := 0) rfl (vis_of rfl) rfl rfl) (a_cons rfl (s_var (i := 4) rfl (vis_of rfl) rfl rfl) (a_nil)) rfl rfl) (s_int) (fun _ _ => rfl)) (s_gstr c.s_ONE rfl rfl) (nomark _)) (j_cons (j_set (i := 5) nd rfl (loc_of rfl) (.inl rfl) (s_fn t.c49 hr tk rfl (a_cons rfl (s_var (i := 0) rfl (vis_of rfl) rfl rfl) (a_cons rfl (s_var (i := 4) rfl (vis_of rfl) rfl rfl) (a_nil))) rfl rfl) rfl) (j_one (j_for (passes_of rfl) rfl (i_seq (s_var (i := 2) rfl (vis_of rfl) rfl rfl)) (g_nm (i := 6) nd rfl (loc_of rfl) (.inl rfl)) (j_one (j_setI (hu1 hu) (s_var (i := 3) rfl (vis_of rfl) rfl rfl) (s_tup (a_cons rfl (s_var (i := 4) rfl (vis_of rfl) rfl rfl) (a_cons rfl (s_var (i := 6) rfl (vis_of rfl) rfl rfl) (a_nil)))) (s_fn t.c48 hr tk rfl (a_cons rfl (s_var (i := 1) rfl (vis_of rfl) rfl rfl) (a_cons rfl (s_var (i := 5) rfl (vis_of rfl) rfl rfl) (a_cons rfl (s_var (i := 6) rfl (vis_of rfl) rfl rfl) (a_nil)))) rfl rfl) (fun _ => rfl) rfl rfl rfl)) (fun _ => rfl)))) (j_nil))) (fun _ => rfl)) (j_one (j_ret (s_var (i := 3) rfl (vis_of rfl) rfl rfl))))
def N_needless : List Str := ["roof", "rules", "things", "table", "found", "at", "rule"]
abbrev X_needless (w : World) (K : PySem.W.Frag) (mg : Str → Option Value) (base : Heap) (f : Addr) (cdv : Value) (A : Around) (outer : List Env) (s : Shared) (H : Hp) (E : XK) : Cx := cxOf (L2N.CX PP w) PP w K mg base N_needless "needless" (defScope (top 39)) f cdv A outer s H E
theorem nd_needless : N_needless.Nodup := by decide +kernel
theorem sc_needless : FnScope N_needless ["roof", "rules"] (defScope (top 39)) := C8.fnScope_by (by kernel_rfl)
theorem wk_needless (c : Fx K mg) (t : Tb w K mg base en k) (hr2 : Room (k + 3) (X_needless w K mg base f cdv A outer s H E).A) : PSs (X_needless w K mg base f cdv A outer s H E) (defBody (top 39)) (tS K en (fun c d _ H => E c d H) d_needless) := by
  have nd := nd_needless
  have hr := hr2.mono (show k ≤ k + 3 by omega)
  have hr1 := hr2.mono (show k + 1 ≤ k + 3 by omega)
  have hu := room_hu hr
  have hrX : Room (1 + 1) (X_needless w K mg base f cdv A outer s H E).A := hr2.mono (show 1 + 1 ≤ k + 3 by omega)
  have tk : L2N.Takes (X_needless w K mg base f cdv A outer s H E) (fun c d _ H => E c d H) := L2N.takes_of (X := X_needless w K mg base f cdv A outer s H E) (E := E) (E₁ := fun e s' => L2N.CX PP w outer H s E e s') rfl rfl rfl rfl
  have fl : Flat (fun c d (_ : L2.St) H => E c d H) := flatE
  show PSs (X_needless w K mg base f cdv A outer s H E) _ (tS K en (fun c d _ H => E c d H) (dSeq (dExp (dFn 46 1 (dCons (dVar 1) (dNil)))) (dSeq (dSet 2 (dSortG false (gSc (zSeq (dVar 1)) (.nm 6) (dYes) (dBin idxF (dVar 6) (dCst (.int 2))) [6]))) (dSeq (dPar2 3 4 (dCons (dFn 50 3 (dCons (dVar 0) (dCons (dVar 1) (dCons (dVar 2) (dNil))))) (dCons (dLst true (dNil)) (dNil)))) (dSeq (dFor (zRng1 (dCall lenF (dCons (dVar 1) (dNil)))) (.nm 5) (dIfS (dTst (dBin eqF (dFn 50 3 (dCons (dVar 0) (dCons (dBin (addF false) (dSl false (dVar 1) (pNo) (pYes (dVar 5))) (dSl false (dVar 1) (pYes (dBin (addF false) (dVar 5) (dCst (.int 1)))) (pNo))) (dCons (dVar 2) (dNil))))) (dVar 3))) (dExp (dMt tyL appendF (dVar 4) (dCons (dVar 5) (dNil)))) (dNx))) (dRet (dVar 4)))))))
  exact j_cons (j_exp (s_fn t.c46 hr tk rfl (a_cons rfl (s_var (i := 1) rfl (vis_of rfl) rfl rfl) (a_nil)) rfl rfl) rfl) (j_cons (j_set (i := 2) nd rfl (loc_of rfl) (.inl rfl) (s_sortG false rfl rfl c.f_sorted rfl (g_sc (own := [("rule", 6)]) rfl nd (i_seq (s_var (i := 1) rfl (vis_of rfl) rfl rfl)) (blkOk_by (by kernel_rfl)) (by decide) (fun _ _ _ _ _ => g_nm (i := 6) nd rfl (loc_of rfl) (.inr rfl)) (fun _ _ _ _ _ => ts_nil) (fun _ _ _ _ _ => s_idx (hu1 hu) (s_var (i := 6) rfl (vis_of rfl) rfl rfl) (s_int) (fun _ _ => rfl)) (fun _ => rfl))) rfl) (j_cons (j_par2 (i := 3) (j := 4) rfl nd rfl rfl (by decide) rfl rfl (a_cons rfl (s_fn t.c50 hr tk rfl (a_cons rfl (s_var (i := 0) rfl (vis_of rfl) rfl rfl) (a_cons rfl (s_var (i := 1) rfl (vis_of rfl) rfl rfl) (a_cons rfl (s_var (i := 2) rfl (vis_of rfl) rfl rfl) (a_nil)))) rfl rfl) (a_cons rfl (s_lst (cell := true) (a_nil)) (a_nil))) (by rfl) rfl) (j_cons (j_for (passes_of rfl) rfl (i_rng1 rfl c.f_range rfl (s_callB c_len rfl c.f_len PyProof.Rows.Boot.«len» (a_cons rfl (s_var (i := 1) rfl (vis_of rfl) rfl rfl) (a_nil)) rfl (by decide) rfl)) (g_nm (i := 5) nd rfl (loc_of rfl) (.inl rfl)) (j_one (j_if (t_cmp (o_eq (hu64 hu)) (s_fn t.c50 hr tk rfl (a_cons rfl (s_var (i := 0) rfl (vis_of rfl) rfl rfl) (a_cons rfl (s_bin (o_add false) (s_sl false (s_var (i := 1) rfl (vis_of rfl) rfl rfl) (p_no) (p_yes (s_var (i := 5) rfl (vis_of rfl) rfl rfl))) (s_sl false (s_var (i := 1) rfl (vis_of rfl) rfl rfl) (p_yes (s_bin (o_add false) (s_var (i := 5) rfl (vis_of rfl) rfl rfl) (s_int))) (p_no))) (a_cons rfl (s_var (i := 2) rfl (vis_of rfl) rfl rfl) (a_nil)))) rfl rfl) (s_var (i := 3) rfl (vis_of rfl) rfl rfl) (nomark _)) (j_one (j_exp (k_append (s_var (i := 4) rfl (vis_of rfl) rfl rfl) (a_cons rfl (s_var (i := 5) rfl (vis_of rfl) rfl rfl) (a_nil)) rfl rfl rfl rfl) rfl)) (j_nil))) (fun _ => rfl)) (j_one (j_ret (s_var (i := 4) rfl (vis_of rfl) rfl rfl))))))
def N_is_part : List Str := ["kind", "thing"]
abbrev X_is_part (w : World) (K : PySem.W.Frag) (mg : Str → Option Value) (base : Heap) (f : Addr) (cdv : Value) (A : Around) (outer : List Env) (s : Shared) (H : Hp) (E : XK) : Cx := cxOf (L2N.CX PP w) PP w K mg base N_is_part "is_part" (defScope (top 42)) f cdv A outer s H E
theorem nd_is_part : N_is_part.Nodup := by decide +kernel
theorem sc_is_part : FnScope N_is_part ["kind", "thing"] (defScope (top 42)) := C8.fnScope_by (by kernel_rfl)
theorem wk_is_part (c : Fx K mg) (t : Tb w K mg base en k) (hr2 : Room (k + 3) (X_is_part w K mg base f cdv A outer s H E).A) : PSs (X_is_part w K mg base f cdv A outer s H E) (defBody (top 42)) (tS K en (fun c d _ H => E c d H) d_is_part) := by
  have nd := nd_is_part
  have hr := hr2.mono (show k ≤ k + 3 by omega)
  have hr1 := hr2.mono (show k + 1 ≤ k + 3 by omega)
  have hu := room_hu hr
  have hrX : Room (1 + 1) (X_is_part w K mg base f cdv A outer s H E).A := hr2.mono (show 1 + 1 ≤ k + 3 by omega)
  have tk : L2N.Takes (X_is_part w K mg base f cdv A outer s H E) (fun c d _ H => E c d H) := L2N.takes_of (X := X_is_part w K mg base f cdv A outer s H E) (E := E) (E₁ := fun e s' => L2N.CX PP w outer H s E e s') rfl rfl rfl rfl
  have fl : Flat (fun c d (_ : L2.St) H => E c d H) := flatE
  show PSs (X_is_part w K mg base f cdv A outer s H E) _ (tS K en (fun c d _ H => E c d H) (dSeq (dIfS (dTst (dBin eqF (dVar 0) (dCst (.str "n")))) (dRet (dAndV (dFn 7 1 (dCons (dVar 1) (dNil))) (dBin geF (dVar 1) (dCst (.int 0))))) (dNx)) (dSeq (dIfS (dTst (dBin eqF (dVar 0) (dCst (.str "k")))) (dRet (dAndV (dCall (isiF "str") (dCons (dVar 1) dNil)) (dBin inF (dVar 1) (dTup (dCons (dCst (.str "one")) (dCons (dCst (.str "group")) (dNil))))))) (dNx)) (dRet (dOrV (dFn 1 1 (dCons (dVar 1) (dNil))) (dAndV (dBin eqF (dVar 0) (dCst (.str "o"))) (dBin isF (dVar 1) (dCst .non))))))))
  exact j_cons (j_if (t_cmp (o_eq (hu64 hu)) (s_var (i := 0) rfl (vis_of rfl) rfl rfl) (s_str) (nomark _)) (j_one (j_ret (v_and (s_fn t.c7 hr tk rfl (a_cons rfl (s_var (i := 1) rfl (vis_of rfl) rfl rfl) (a_nil)) rfl rfl) (v_one (s_cmp o_ge (s_var (i := 1) rfl (vis_of rfl) rfl rfl) (s_int) (nomark _)))))) (j_nil)) (j_cons (j_if (t_cmp (o_eq (hu64 hu)) (s_var (i := 0) rfl (vis_of rfl) rfl rfl) (s_str) (nomark _)) (j_one (j_ret (v_and (s_isi rfl c.f_isinstance rfl c.f_str PyProof.Rows.Boot.«str» (by decide) rfl rfl (s_var (i := 1) rfl (vis_of rfl) rfl rfl)) (v_one (s_cmp (o_in hu) (s_var (i := 1) rfl (vis_of rfl) rfl rfl) (s_tup (a_cons rfl (s_str) (a_cons rfl (s_str) (a_nil)))) rfl))))) (j_nil)) (j_one (j_ret (v_or (s_fn t.c1 hr tk rfl (a_cons rfl (s_var (i := 1) rfl (vis_of rfl) rfl rfl) (a_nil)) rfl rfl) (v_one (v_and (s_cmp (o_eq (hu64 hu)) (s_var (i := 0) rfl (vis_of rfl) rfl rfl) (s_str) (nomark _)) (v_one (s_cmp o_is (s_var (i := 1) rfl (vis_of rfl) rfl rfl) (s_non) (nomark _)))))))))
def N_is_row : List Str := ["thing", "kinds", "kind", "one"]
abbrev X_is_row (w : World) (K : PySem.W.Frag) (mg : Str → Option Value) (base : Heap) (f : Addr) (cdv : Value) (A : Around) (outer : List Env) (s : Shared) (H : Hp) (E : XK) : Cx := cxOf (L2N.CX PP w) PP w K mg base N_is_row "is_row" (defScope (top 43)) f cdv A outer s H E
theorem nd_is_row : N_is_row.Nodup := by decide +kernel
theorem sc_is_row : FnScope N_is_row ["thing"] (defScope (top 43)) := C8.fnScope_by (by kernel_rfl)
theorem wk_is_row (c : Fx K mg) (t : Tb w K mg base en k) (hr2 : Room (k + 3) (X_is_row w K mg base f cdv A outer s H E).A) : PSs (X_is_row w K mg base f cdv A outer s H E) (defBody (top 43)) (tS K en (fun c d _ H => E c d H) d_is_row) := by
  have nd := nd_is_row
  have hr := hr2.mono (show k ≤ k + 3 by omega)
  have hr1 := hr2.mono (show k + 1 ≤ k + 3 by omega)
  have hu := room_hu hr
  have hrX : Room (1 + 1) (X_is_row w K mg base f cdv A outer s H E).A := hr2.mono (show 1 + 1 ≤ k + 3 by omega)
  have tk : L2N.Takes (X_is_row w K mg base f cdv A outer s H E) (fun c d _ H => E c d H) := L2N.takes_of (X := X_is_row w K mg base f cdv A outer s H E) (E := E) (E₁ := fun e s' => L2N.CX PP w outer H s E e s') rfl rfl rfl rfl
  have fl : Flat (fun c d (_ : L2.St) H => E c d H) := flatE
  show PSs (X_is_row w K mg base f cdv A outer s H E) _ (tS K en (fun c d _ H => E c d H) (dSeq (dIfS (dOr (dNot (dTst (dCall (isiF "tuple") (dCons (dVar 0) dNil)))) (dOr (dTst (dBin eqF (dVar 0) (dTup (dNil)))) (dOr (dNot (dTst (dCall (isiF "str") (dCons (dBin idxF (dVar 0) (dCst (.int 0))) dNil)))) (dTst (dSzIn true (dBin idxF (dVar 0) (dCst (.int 0)))))))) (dRet (dCst (.bl false))) (dNx)) (dSeq (dSet 1 (dSzAt (dBin idxF (dVar 0) (dCst (.int 0))))) (dRet (dAndV (dBin eqF (dCall lenF (dCons (dVar 0) (dNil))) (dBin (addF false) (dCall lenF (dCons (dVar 1) (dNil))) (dCst (.int 1)))) (dCall allF (dCons (dLc false (zZipS (dVar 1) (dSl false (dVar 0) (pYes (dCst (.int 1))) (pNo))) (.tp [.nm 2, .nm 3]) (dYes) (dFn 52 2 (dCons (dVar 2) (dCons (dVar 3) (dNil)))) [2, 3]) (dNil))))))))
  exact j_cons (j_if (PW.pt (w_or (t_not (t_val (s_isi rfl c.f_isinstance rfl c.f_tuple PyProof.Rows.Boot.«tuple» (by decide) rfl rfl (s_var (i := 0) rfl (vis_of rfl) rfl rfl)) (fun _ => rfl))) (w_or (t_cmp (o_eq (hu64 hu)) (s_var (i := 0) rfl (vis_of rfl) rfl rfl) (s_tup (a_nil)) (nomark _)) (w_or (t_not (t_val (s_isi rfl c.f_isinstance rfl c.f_str PyProof.Rows.Boot.«str» (by decide) rfl rfl (s_idx (hu1 hu) (s_var (i := 0) rfl (vis_of rfl) rfl rfl) (s_int) (fun _ _ => rfl))) (fun _ => rfl))) (w_or1 (t_szNotIn t.sz rfl c.g_SIZES (s_idx (hu1 hu) (s_var (i := 0) rfl (vis_of rfl) rfl rfl) (s_int) (fun _ _ => rfl)))))))) (j_one (j_ret (s_bl))) (j_nil)) (j_cons (j_set (i := 1) nd rfl (loc_of rfl) (.inl rfl) (s_szAt t.sz rfl c.g_SIZES (s_idx (hu1 hu) (s_var (i := 0) rfl (vis_of rfl) rfl rfl) (s_int) (fun _ _ => rfl)) (fun _ _ => rfl)) rfl) (j_one (j_ret (v_and (s_cmp (o_eq (hu64 hu)) (s_callB c_len rfl c.f_len PyProof.Rows.Boot.«len» (a_cons rfl (s_var (i := 0) rfl (vis_of rfl) rfl rfl) (a_nil)) rfl (by decide) rfl) (s_bin (o_add false) (s_callB c_len rfl c.f_len PyProof.Rows.Boot.«len» (a_cons rfl (s_var (i := 1) rfl (vis_of rfl) rfl rfl) (a_nil)) rfl (by decide) rfl) (s_int)) (nomark _)) (v_one (s_callB (c_all rfl) rfl c.f_all PyProof.Rows.Boot.«all» (a_cons rfl (s_lc (own := [("kind", 2), ("one", 3)]) false rfl nd (i_zipS rfl c.f_zip rfl rfl (s_var (i := 1) rfl (vis_of rfl) rfl rfl) (s_sl false (s_var (i := 0) rfl (vis_of rfl) rfl rfl) (p_yes (s_int)) (p_no))) (blkOk_by (by kernel_rfl)) (by decide) (fun _ _ _ _ _ => g_tp rfl (gs_cons (g_nm (i := 2) nd rfl (loc_of rfl) (.inr rfl)) (gs_cons (g_nm (i := 3) nd rfl (loc_of rfl) (.inr rfl)) (gs_nil) rfl) rfl) rfl rfl) (fun _ _ _ _ _ => ts_nil) (fun _ _ _ _ _ => s_fn t.c52 hr takesF rfl (a_cons rfl (s_var (i := 2) rfl (vis_of rfl) rfl rfl) (a_cons rfl (s_var (i := 3) rfl (vis_of rfl) rfl rfl) (a_nil))) rfl rfl) (fun _ => rfl)) (a_nil)) rfl (by decide) rfl))))))
def N_do_more : List Str := ["roof", "row", "word", "parts"]
abbrev X_do_more (w : World) (K : PySem.W.Frag) (mg : Str → Option Value) (base : Heap) (f : Addr) (cdv : Value) (A : Around) (outer : List Env) (s : Shared) (H : Hp) (E : XK) : Cx := cxOf (L2N.CX PP w) PP w K mg base N_do_more "do_more" (defScope (top 44)) f cdv A outer s H E
theorem nd_do_more : N_do_more.Nodup := by decide +kernel
theorem sc_do_more : FnScope N_do_more ["roof", "row"] (defScope (top 44)) := C8.fnScope_by (by kernel_rfl)
theorem wk_do_more (c : Fx K mg) (t : Tb w K mg base en k) (hr2 : Room (k + 3) (X_do_more w K mg base f cdv A outer s H E).A) : PSs (X_do_more w K mg base f cdv A outer s H E) (defBody (top 44)) (tS K en (fun c d _ H => E c d H) d_do_more) := by
  have nd := nd_do_more
  have hr := hr2.mono (show k ≤ k + 3 by omega)
  have hr1 := hr2.mono (show k + 1 ≤ k + 3 by omega)
  have hu := room_hu hr
  have hrX : Room (1 + 1) (X_do_more w K mg base f cdv A outer s H E).A := hr2.mono (show 1 + 1 ≤ k + 3 by omega)
  have tk : L2N.Takes (X_do_more w K mg base f cdv A outer s H E) (fun c d _ H => E c d H) := L2N.takes_of (X := X_do_more w K mg base f cdv A outer s H E) (E := E) (E₁ := fun e s' => L2N.CX PP w outer H s E e s') rfl rfl rfl rfl
  have fl : Flat (fun c d (_ : L2.St) H => E c d H) := flatE
  show PSs (X_do_more w K mg base f cdv A outer s H E) _ (tS K en (fun c d _ H => E c d H) (dSeq (dStar 2 3 (dVar 1)) (dIfS (dTst (dBin eqF (dVar 2) (dCst (.str "found")))) (dExp (dMe 19 2 "found" (dVar 0) (dCons (dBin idxF (dVar 3) (dCst (.int 0))) (dNil)))) (dIfS (dTst (dBin eqF (dVar 2) (dCst (.str "merge")))) (dExp (dMe 27 3 "merge" (dVar 0) (dCons (dBin idxF (dVar 3) (dCst (.int 0))) (dCons (dBin idxF (dVar 3) (dCst (.int 1))) (dNil))))) (dIfS (dTst (dBin eqF (dVar 2) (dCst (.str "trust")))) (dExp (dMe 28 3 "trust" (dVar 0) (dCons (dBin idxF (dVar 3) (dCst (.int 0))) (dCons (dBin idxF (dVar 3) (dCst (.int 1))) (dNil))))) (dExp (dMe 29 3 "mistrust" (dVar 0) (dCons (dBin idxF (dVar 3) (dCst (.int 0))) (dCons (dBin idxF (dVar 3) (dCst (.int 1))) (dNil))))))))))
  exact j_cons (j_star (i := 2) (j := 3) rfl nd rfl rfl rfl rfl (s_var (i := 1) rfl (vis_of rfl) rfl rfl) rfl rfl) (j_one (j_if (t_cmp (o_eq (hu64 hu)) (s_var (i := 2) rfl (vis_of rfl) rfl rfl) (s_str) (nomark _)) (j_one (j_exp (s_me t.c19 hr tk fl (s_var (i := 0) rfl (vis_of rfl) rfl rfl) (a_cons rfl (s_idx (hu1 hu) (s_var (i := 3) rfl (vis_of rfl) rfl rfl) (s_int) (fun _ _ => rfl)) (a_nil)) rfl rfl) rfl)) (j_one (j_if (t_cmp (o_eq (hu64 hu)) (s_var (i := 2) rfl (vis_of rfl) rfl rfl) (s_str) (nomark _)) (j_one (j_exp (s_me t.c27 hr tk fl (s_var (i := 0) rfl (vis_of rfl) rfl rfl) (a_cons rfl (s_idx (hu1 hu) (s_var (i := 3) rfl (vis_of rfl) rfl rfl) (s_int) (fun _ _ => rfl)) (a_cons rfl (s_idx (hu1 hu) (s_var (i := 3) rfl (vis_of rfl) rfl rfl) (s_int) (fun _ _ => rfl)) (a_nil))) rfl rfl) rfl)) (j_one (j_if (t_cmp (o_eq (hu64 hu)) (s_var (i := 2) rfl (vis_of rfl) rfl rfl) (s_str) (nomark _)) (j_one (j_exp (s_me t.c28 hr tk fl (s_var (i := 0) rfl (vis_of rfl) rfl rfl) (a_cons rfl (s_idx (hu1 hu) (s_var (i := 3) rfl (vis_of rfl) rfl rfl) (s_int) (fun _ _ => rfl)) (a_cons rfl (s_idx (hu1 hu) (s_var (i := 3) rfl (vis_of rfl) rfl rfl) (s_int) (fun _ _ => rfl)) (a_nil))) rfl rfl) rfl)) (j_one (j_exp (s_me t.c29 hr tk fl (s_var (i := 0) rfl (vis_of rfl) rfl rfl) (a_cons rfl (s_idx (hu1 hu) (s_var (i := 3) rfl (vis_of rfl) rfl rfl) (s_int) (fun _ _ => rfl)) (a_cons rfl (s_idx (hu1 hu) (s_var (i := 3) rfl (vis_of rfl) rfl rfl) (s_int) (fun _ _ => rfl)) (a_nil))) rfl rfl) rfl))))))))
def N_do : List Str := ["roof", "row", "word", "parts"]
abbrev X_do (w : World) (K : PySem.W.Frag) (mg : Str → Option Value) (base : Heap) (f : Addr) (cdv : Value) (A : Around) (outer : List Env) (s : Shared) (H : Hp) (E : XK) : Cx := cxOf (L2N.CX PP w) PP w K mg base N_do "do" (defScope (top 45)) f cdv A outer s H E
theorem nd_do : N_do.Nodup := by decide +kernel
theorem sc_do : FnScope N_do ["roof", "row"] (defScope (top 45)) := C8.fnScope_by (by kernel_rfl)
theorem wk_do (c : Fx K mg) (t : Tb w K mg base en k) (hr2 : Room (k + 3) (X_do w K mg base f cdv A outer s H E).A) : PSs (X_do w K mg base f cdv A outer s H E) (defBody (top 45)) (tS K en (fun c d _ H => E c d H) d_do) := by
  have nd := nd_do
  have hr := hr2.mono (show k ≤ k + 3 by omega)
  have hr1 := hr2.mono (show k + 1 ≤ k + 3 by omega)
  have hu := room_hu hr
  have hrX : Room (1 + 1) (X_do w K mg base f cdv A outer s H E).A := hr2.mono (show 1 + 1 ≤ k + 3 by omega)
  have tk : L2N.Takes (X_do w K mg base f cdv A outer s H E) (fun c d _ H => E c d H) := L2N.takes_of (X := X_do w K mg base f cdv A outer s H E) (E := E) (E₁ := fun e s' => L2N.CX PP w outer H s E e s') rfl rfl rfl rfl
  have fl : Flat (fun c d (_ : L2.St) H => E c d H) := flatE
  show PSs (X_do w K mg base f cdv A outer s H E) _ (tS K en (fun c d _ H => E c d H) (dSeq (dStar 2 3 (dVar 1)) (dIfS (dTst (dBin eqF (dVar 2) (dCst (.str "come")))) (dExp (dMe 20 4 "come" (dVar 0) (dCons (dBin idxF (dVar 3) (dCst (.int 0))) (dCons (dBin idxF (dVar 3) (dCst (.int 1))) (dCons (dBin idxF (dVar 3) (dCst (.int 2))) (dNil)))))) (dIfS (dTst (dBin eqF (dVar 2) (dCst (.str "go")))) (dExp (dMe 21 2 "go" (dVar 0) (dCons (dBin idxF (dVar 3) (dCst (.int 0))) (dNil)))) (dIfS (dTst (dBin eqF (dVar 2) (dCst (.str "put_in")))) (dExp (dMe 22 3 "put_in" (dVar 0) (dCons (dBin idxF (dVar 3) (dCst (.int 0))) (dCons (dBin idxF (dVar 3) (dCst (.int 1))) (dNil))))) (dIfS (dTst (dBin eqF (dVar 2) (dCst (.str "take_out")))) (dExp (dMe 23 3 "take_out" (dVar 0) (dCons (dBin idxF (dVar 3) (dCst (.int 0))) (dCons (dBin idxF (dVar 3) (dCst (.int 1))) (dNil))))) (dIfS (dTst (dBin eqF (dVar 2) (dCst (.str "call")))) (dExp (dMe 24 3 "call" (dVar 0) (dCons (dBin idxF (dVar 3) (dCst (.int 0))) (dCons (dBin idxF (dVar 3) (dCst (.int 1))) (dNil))))) (dIfS (dTst (dBin eqF (dVar 2) (dCst (.str "move")))) (dExp (dMeK 25 3 "move" (dVar 0) (dCons (dBin idxF (dVar 3) (dCst (.int 0))) (dCons (dBin idxF (dVar 3) (dCst (.int 1))) (dNil))) (dBin idxF (dVar 3) (dCst (.int 2))))) (dExp (dFn 54 2 (dCons (dVar 0) (dCons (dVar 1) (dNil)))))))))))))
  exact j_cons (j_star (i := 2) (j := 3) rfl nd rfl rfl rfl rfl (s_var (i := 1) rfl (vis_of rfl) rfl rfl) rfl rfl) (j_one (j_if (t_cmp (o_eq (hu64 hu)) (s_var (i := 2) rfl (vis_of rfl) rfl rfl) (s_str) (nomark _)) (j_one (j_exp (s_me t.c20 hr tk fl (s_var (i := 0) rfl (vis_of rfl) rfl rfl) (a_cons rfl (s_idx (hu1 hu) (s_var (i := 3) rfl (vis_of rfl) rfl rfl) (s_int) (fun _ _ => rfl)) (a_cons rfl (s_idx (hu1 hu) (s_var (i := 3) rfl (vis_of rfl) rfl rfl) (s_int) (fun _ _ => rfl)) (a_cons rfl (s_idx (hu1 hu) (s_var (i := 3) rfl (vis_of rfl) rfl rfl) (s_int) (fun _ _ => rfl)) (a_nil)))) rfl rfl) rfl)) (j_one (j_if (t_cmp (o_eq (hu64 hu)) (s_var (i := 2) rfl (vis_of rfl) rfl rfl) (s_str) (nomark _)) (j_one (j_exp (s_me t.c21 hr tk fl (s_var (i := 0) rfl (vis_of rfl) rfl rfl) (a_cons rfl (s_idx (hu1 hu) (s_var (i := 3) rfl (vis_of rfl) rfl rfl) (s_int) (fun _ _ => rfl)) (a_nil)) rfl rfl) rfl)) (j_one (j_if (t_cmp (o_eq (hu64 hu)) (s_var (i := 2) rfl (vis_of rfl) rfl rfl) (s_str) (nomark _)) (j_one (j_exp (s_me t.c22 hr tk fl (s_var (i := 0) rfl (vis_of rfl) rfl rfl) (a_cons rfl (s_idx (hu1 hu) (s_var (i := 3) rfl (vis_of rfl) rfl rfl) (s_int) (fun _ _ => rfl)) (a_cons rfl (s_idx (hu1 hu) (s_var (i := 3) rfl (vis_of rfl) rfl rfl) (s_int) (fun _ _ => rfl)) (a_nil))) rfl rfl) rfl)) (j_one (j_if (t_cmp (o_eq (hu64 hu)) (s_var (i := 2) rfl (vis_of rfl) rfl rfl) (s_str) (nomark _)) (j_one (j_exp (s_me t.c23 hr tk fl (s_var (i := 0) rfl (vis_of rfl) rfl rfl) (a_cons rfl (s_idx (hu1 hu) (s_var (i := 3) rfl (vis_of rfl) rfl rfl) (s_int) (fun _ _ => rfl)) (a_cons rfl (s_idx (hu1 hu) (s_var (i := 3) rfl (vis_of rfl) rfl rfl) (s_int) (fun _ _ => rfl)) (a_nil))) rfl rfl) rfl)) (j_one (j_if (t_cmp (o_eq (hu64 hu)) (s_var (i := 2) rfl (vis_of rfl) rfl rfl) (s_str) (nomark _)) (j_one (j_exp (s_me t.c24 hr tk fl (s_var (i := 0) rfl (vis_of rfl) rfl rfl) (a_cons rfl (s_idx (hu1 hu) (s_var (i := 3) rfl (vis_of rfl) rfl rfl) (s_int) (fun _ _ => rfl)) (a_cons rfl (s_idx (hu1 hu) (s_var (i := 3) rfl (vis_of rfl) rfl rfl) (s_int) (fun _ _ => rfl)) (a_nil))) rfl rfl) rfl)) (j_one (j_if (t_cmp (o_eq (hu64 hu)) (s_var (i := 2) rfl (vis_of rfl) rfl rfl) (s_str) (nomark _)) (j_one (j_exp (s_meK t.c25 hr tk fl (s_var (i := 0) rfl (vis_of rfl) rfl rfl) (a_cons rfl (s_idx (hu1 hu) (s_var (i := 3) rfl (vis_of rfl) rfl rfl) (s_int) (fun _ _ => rfl)) (a_cons rfl (s_idx (hu1 hu) (s_var (i := 3) rfl (vis_of rfl) rfl rfl) (s_int) (fun _ _ => rfl)) (a_nil))) (s_idx (hu1 hu) (s_var (i := 3) rfl (vis_of rfl) rfl rfl) (s_int) (fun _ _ => rfl)) rfl rfl rfl rfl rfl) rfl)) (j_one (j_exp (s_fn t.c54 hr tk rfl (a_cons rfl (s_var (i := 0) rfl (vis_of rfl) rfl rfl) (a_cons rfl (s_var (i := 1) rfl (vis_of rfl) rfl rfl) (a_nil))) rfl rfl) rfl))))))))))))))
def N_played : List Str := ["rows", "found", "at", "row"]
abbrev X_played (w : World) (K : PySem.W.Frag) (mg : Str → Option Value) (base : Heap) (f : Addr) (cdv : Value) (A : Around) (outer : List Env) (s : Shared) (H : Hp) (E : XK) : Cx := cxOf (L2N.CX PP w) PP w K mg base N_played "played" (defScope (top 46)) f cdv A outer s H E
theorem nd_played : N_played.Nodup := by decide +kernel
theorem sc_played : FnScope N_played ["rows"] (defScope (top 46)) := C8.fnScope_by (by kernel_rfl)
theorem wk_played (c : Fx K mg) (t : Tb w K mg base en k) (hr2 : Room (k + 3) (X_played w K mg base f cdv A outer s H E).A) : PSs (X_played w K mg base f cdv A outer s H E) (defBody (top 46)) (tS K en (fun c d _ H => E c d H) d_played) := by
  have nd := nd_played
  have hr := hr2.mono (show k ≤ k + 3 by omega)
  have hr1 := hr2.mono (show k + 1 ≤ k + 3 by omega)
  have hu := room_hu hr
  have hrX : Room (1 + 1) (X_played w K mg base f cdv A outer s H E).A := hr2.mono (show 1 + 1 ≤ k + 3 by omega)
  have tk : L2N.Takes (X_played w K mg base f cdv A outer s H E) (fun c d _ H => E c d H) := L2N.takes_of (X := X_played w K mg base f cdv A outer s H E) (E := E) (E₁ := fun e s' => L2N.CX PP w outer H s E e s') rfl rfl rfl rfl
  have fl : Flat (fun c d (_ : L2.St) H => E c d H) := flatE
  show PSs (X_played w K mg base f cdv A outer s H E) _ (tS K en (fun c d _ H => E c d H) (dSeq (dIfS (dNot (dTst (dCall (isiF "list") (dCons (dVar 0) dNil)))) (dRaiseF "BadJournal" (dCst .non)) (dNx)) (dSeq (dSet 1 (dMk0 8)) (dSeq (dFor (zEnum (dVar 0)) (.tp [.nm 2, .nm 3]) (dSeq (dIfS (dNot (dTst (dFn 53 1 (dCons (dVar 3) (dNil))))) (dRaiseF "BadJournal" (dVar 2)) (dNx)) (dBadS))) (dRet (dVar 1))))))
  exact j_cons (j_if (t_not (t_val (s_isi rfl c.f_isinstance rfl c.f_list PyProof.Rows.Boot.«list» (by decide) rfl rfl (s_var (i := 0) rfl (vis_of rfl) rfl rfl)) (fun _ => rfl))) (j_one (j_raiseF rfl tk t.x_BadJournal hrX rfl rfl rfl (s_non))) (j_nil)) (j_cons (j_set (i := 1) nd rfl (loc_of rfl) (.inl rfl) (s_mk0 t.c8 hr1 tk fl rfl) rfl) (j_cons (j_for (passes_of rfl) rfl (i_enum rfl c.f_enumerate rfl (s_var (i := 0) rfl (vis_of rfl) rfl rfl)) (g_tp rfl (gs_cons (g_nm (i := 2) nd rfl (loc_of rfl) (.inl rfl)) (gs_cons (g_nm (i := 3) nd rfl (loc_of rfl) (.inl rfl)) (gs_nil) rfl) rfl) rfl rfl) (j_cons (j_if (t_not (t_val (s_fn t.c53 hr tk rfl (a_cons rfl (s_var (i := 3) rfl (vis_of rfl) rfl rfl) (a_nil)) rfl rfl) (fun _ => rfl))) (j_one (j_raiseF rfl tk t.x_BadJournal hrX rfl rfl rfl (s_var (i := 2) rfl (vis_of rfl) rfl rfl))) (j_nil)) (j_one (j_badS))) (fun _ => rfl)) (j_one (j_ret (s_var (i := 1) rfl (vis_of rfl) rfl rfl)))))
def N_need_time : List Str := ["roof", "time"]
abbrev X_need_time (w : World) (K : PySem.W.Frag) (mg : Str → Option Value) (base : Heap) (f : Addr) (cdv : Value) (A : Around) (outer : List Env) (s : Shared) (H : Hp) (E : XK) : Cx := cxOf (L2N.CX PP w) PP w K mg base N_need_time "need_time" (defScope (top 47)) f cdv A outer s H E
theorem nd_need_time : N_need_time.Nodup := by decide +kernel
theorem sc_need_time : FnScope N_need_time ["roof", "time"] (defScope (top 47)) := C8.fnScope_by (by kernel_rfl)
theorem wk_need_time (c : Fx K mg) (t : Tb w K mg base en k) (hr2 : Room (k + 3) (X_need_time w K mg base f cdv A outer s H E).A) : PSs (X_need_time w K mg base f cdv A outer s H E) (defBody (top 47)) (tS K en (fun c d _ H => E c d H) d_need_time) := by
  have nd := nd_need_time
  have hr := hr2.mono (show k ≤ k + 3 by omega)
  have hr1 := hr2.mono (show k + 1 ≤ k + 3 by omega)
  have hu := room_hu hr
  have hrX : Room (1 + 1) (X_need_time w K mg base f cdv A outer s H E).A := hr2.mono (show 1 + 1 ≤ k + 3 by omega)
  have tk : L2N.Takes (X_need_time w K mg base f cdv A outer s H E) (fun c d _ H => E c d H) := L2N.takes_of (X := X_need_time w K mg base f cdv A outer s H E) (E := E) (E₁ := fun e s' => L2N.CX PP w outer H s E e s') rfl rfl rfl rfl
  have fl : Flat (fun c d (_ : L2.St) H => E c d H) := flatE
  show PSs (X_need_time w K mg base f cdv A outer s H E) _ (tS K en (fun c d _ H => E c d H) (dIfS (dOr (dNot (dTst (dFn 7 1 (dCons (dVar 1) (dNil))))) (dNot (dChain leF leF (dCst (.int 0)) (dVar 1) (dMe 31 1 "time" (dVar 0) dNil)))) (dRaise "BadTime") (dNx)))
  exact j_one (j_if (PW.pt (w_or (t_not (t_val (s_fn t.c7 hr tk rfl (a_cons rfl (s_var (i := 1) rfl (vis_of rfl) rfl rfl) (a_nil)) rfl rfl) (fun _ => rfl))) (w_or1 (t_not (t_chain o_le o_le (s_int) (s_var (i := 1) rfl (vis_of rfl) rfl rfl) (s_me0 t.c31 hr tk fl (s_var (i := 0) rfl (vis_of rfl) rfl rfl) rfl) rfl))))) (j_one (j_raise rfl tk c.e_BadTime c.g_BadTime rfl rfl)) (j_nil))
def N_as_of : List Str := ["roof", "time"]
abbrev X_as_of (w : World) (K : PySem.W.Frag) (mg : Str → Option Value) (base : Heap) (f : Addr) (cdv : Value) (A : Around) (outer : List Env) (s : Shared) (H : Hp) (E : XK) : Cx := cxOf (L2N.CX PP w) PP w K mg base N_as_of "as_of" (defScope (top 48)) f cdv A outer s H E
theorem nd_as_of : N_as_of.Nodup := by decide +kernel
theorem sc_as_of : FnScope N_as_of ["roof", "time"] (defScope (top 48)) := C8.fnScope_by (by kernel_rfl)
theorem wk_as_of (c : Fx K mg) (t : Tb w K mg base en k) (hr2 : Room (k + 3) (X_as_of w K mg base f cdv A outer s H E).A) : PSs (X_as_of w K mg base f cdv A outer s H E) (defBody (top 48)) (tS K en (fun c d _ H => E c d H) d_as_of) := by
  have nd := nd_as_of
  have hr := hr2.mono (show k ≤ k + 3 by omega)
  have hr1 := hr2.mono (show k + 1 ≤ k + 3 by omega)
  have hu := room_hu hr
  have hrX : Room (1 + 1) (X_as_of w K mg base f cdv A outer s H E).A := hr2.mono (show 1 + 1 ≤ k + 3 by omega)
  have tk : L2N.Takes (X_as_of w K mg base f cdv A outer s H E) (fun c d _ H => E c d H) := L2N.takes_of (X := X_as_of w K mg base f cdv A outer s H E) (E := E) (E₁ := fun e s' => L2N.CX PP w outer H s E e s') rfl rfl rfl rfl
  have fl : Flat (fun c d (_ : L2.St) H => E c d H) := flatE
  show PSs (X_as_of w K mg base f cdv A outer s H E) _ (tS K en (fun c d _ H => E c d H) (dSeq (dExp (dFn 57 2 (dCons (dVar 0) (dCons (dVar 1) (dNil))))) (dRet (dFn 56 1 (dCons (dSl false (dMe 32 1 "all_deeds" (dVar 0) dNil) (pNo) (pYes (dVar 1))) (dNil))))))
  exact j_cons (j_exp (s_fn t.c57 hr tk rfl (a_cons rfl (s_var (i := 0) rfl (vis_of rfl) rfl rfl) (a_cons rfl (s_var (i := 1) rfl (vis_of rfl) rfl rfl) (a_nil))) rfl rfl) rfl) (j_one (j_ret (s_fn t.c56 hr tk rfl (a_cons rfl (s_sl false (s_me0 t.c32 hr tk fl (s_var (i := 0) rfl (vis_of rfl) rfl rfl) rfl) (p_no) (p_yes (s_var (i := 1) rfl (vis_of rfl) rfl rfl))) (a_nil)) rfl rfl)))
def N_part_of : List Str := ["kind", "word", "sign"]
abbrev X_part_of (w : World) (K : PySem.W.Frag) (mg : Str → Option Value) (base : Heap) (f : Addr) (cdv : Value) (A : Around) (outer : List Env) (s : Shared) (H : Hp) (E : XK) : Cx := cxOf (L2N.CX PP w) PP w K mg base N_part_of "part_of" (defScope (top 50)) f cdv A outer s H E
theorem nd_part_of : N_part_of.Nodup := by decide +kernel
theorem sc_part_of : FnScope N_part_of ["kind", "word"] (defScope (top 50)) := C8.fnScope_by (by kernel_rfl)
theorem wk_part_of (c : Fx K mg) (t : Tb w K mg base en k) (hr2 : Room (k + 3) (X_part_of w K mg base f cdv A outer s H E).A) : PSs (X_part_of w K mg base f cdv A outer s H E) (defBody (top 50)) (tS K en (fun c d _ H => E c d H) d_part_of) := by
  have nd := nd_part_of
  have hr := hr2.mono (show k ≤ k + 3 by omega)
  have hr1 := hr2.mono (show k + 1 ≤ k + 3 by omega)
  have hu := room_hu hr
  have hrX : Room (1 + 1) (X_part_of w K mg base f cdv A outer s H E).A := hr2.mono (show 1 + 1 ≤ k + 3 by omega)
  have tk : L2N.Takes (X_part_of w K mg base f cdv A outer s H E) (fun c d _ H => E c d H) := L2N.takes_of (X := X_part_of w K mg base f cdv A outer s H E) (E := E) (E₁ := fun e s' => L2N.CX PP w outer H s E e s') rfl rfl rfl rfl
  have fl : Flat (fun c d (_ : L2.St) H => E c d H) := flatE
  show PSs (X_part_of w K mg base f cdv A outer s H E) _ (tS K en (fun c d _ H => E c d H) (dSeq (dIfS (dAnd (dTst (dBin eqF (dVar 0) (dCst (.str "n")))) (dAnd (dChain ltF ltF (dCst (.int 0)) (dCall lenF (dCons (dVar 1) (dNil))) (dCst (.int 20))) (dAnd (dTst (dCall allF (dCons (dLc false (zSeq (dVar 1)) (.nm 2) (dYes) (dBin inF (dVar 2) (dCst (.str "0123456789"))) [2]) (dNil)))) (dTst (dBin eqF (dCall strF (dCons (dCall intF (dCons (dVar 1) (dNil))) (dNil))) (dVar 1)))))) (dRet (dCall intF (dCons (dVar 1) (dNil)))) (dNx)) (dRet (dIf (dAnd (dTst (dBin eqF (dVar 0) (dCst (.str "o")))) (dTst (dBin eqF (dVar 1) (dCst (.str "-"))))) (dCst .non) (dVar 1)))))
  exact j_cons (j_if (PW.pt (w_and (t_cmp (o_eq (hu64 hu)) (s_var (i := 0) rfl (vis_of rfl) rfl rfl) (s_str) (nomark _)) (w_and (t_chain o_lt o_lt (s_int) (s_callB c_len rfl c.f_len PyProof.Rows.Boot.«len» (a_cons rfl (s_var (i := 1) rfl (vis_of rfl) rfl rfl) (a_nil)) rfl (by decide) rfl) (s_int) rfl) (w_and (t_val (s_callB (c_all rfl) rfl c.f_all PyProof.Rows.Boot.«all» (a_cons rfl (s_lc (own := [("sign", 2)]) false rfl nd (i_seq (s_var (i := 1) rfl (vis_of rfl) rfl rfl)) (blkOk_by (by kernel_rfl)) (by decide) (fun _ _ _ _ _ => g_nm (i := 2) nd rfl (loc_of rfl) (.inr rfl)) (fun _ _ _ _ _ => ts_nil) (fun _ _ _ _ _ => s_cmp (o_in hu) (s_var (i := 2) rfl (vis_of rfl) rfl rfl) (s_str) rfl) (fun _ => rfl)) (a_nil)) rfl (by decide) rfl) (fun _ => rfl)) (w_and1 (t_cmp (o_eq (hu64 hu)) (s_callTy c_str rfl c.f_str PyProof.Rows.Boot.«str» (a_cons rfl (s_callTy c_int rfl c.f_int PyProof.Rows.Boot.«int» (a_cons rfl (s_var (i := 1) rfl (vis_of rfl) rfl rfl) (a_nil)) rfl (by decide) rfl) (a_nil)) rfl (by decide) rfl) (s_var (i := 1) rfl (vis_of rfl) rfl rfl) (nomark _))))))) (j_one (j_ret (s_callTy c_int rfl c.f_int PyProof.Rows.Boot.«int» (a_cons rfl (s_var (i := 1) rfl (vis_of rfl) rfl rfl) (a_nil)) rfl (by decide) rfl))) (j_nil)) (j_one (j_ret (s_if (PW.pt (w_and (t_cmp (o_eq (hu64 hu)) (s_var (i := 0) rfl (vis_of rfl) rfl rfl) (s_str) (nomark _)) (w_and1 (t_cmp (o_eq (hu64 hu)) (s_var (i := 1) rfl (vis_of rfl) rfl rfl) (s_str) (nomark _))))) (s_non) (s_var (i := 1) rfl (vis_of rfl) rfl rfl))))
def N_row_of : List Str := ["line", "word", "parts", "kinds", "kind", "one"]
abbrev X_row_of (w : World) (K : PySem.W.Frag) (mg : Str → Option Value) (base : Heap) (f : Addr) (cdv : Value) (A : Around) (outer : List Env) (s : Shared) (H : Hp) (E : XK) : Cx := cxOf (L2N.CX PP w) PP w K mg base N_row_of "row_of" (defScope (top 51)) f cdv A outer s H E
theorem nd_row_of : N_row_of.Nodup := by decide +kernel
theorem sc_row_of : FnScope N_row_of ["line"] (defScope (top 51)) := C8.fnScope_by (by kernel_rfl)
theorem wk_row_of (c : Fx K mg) (t : Tb w K mg base en k) (hr2 : Room (k + 3) (X_row_of w K mg base f cdv A outer s H E).A) : PSs (X_row_of w K mg base f cdv A outer s H E) (defBody (top 51)) (tS K en (fun c d _ H => E c d H) d_row_of) := by
  have nd := nd_row_of
  have hr := hr2.mono (show k ≤ k + 3 by omega)
  have hr1 := hr2.mono (show k + 1 ≤ k + 3 by omega)
  have hu := room_hu hr
  have hrX : Room (1 + 1) (X_row_of w K mg base f cdv A outer s H E).A := hr2.mono (show 1 + 1 ≤ k + 3 by omega)
  have tk : L2N.Takes (X_row_of w K mg base f cdv A outer s H E) (fun c d _ H => E c d H) := L2N.takes_of (X := X_row_of w K mg base f cdv A outer s H E) (E := E) (E₁ := fun e s' => L2N.CX PP w outer H s E e s') rfl rfl rfl rfl
  have fl : Flat (fun c d (_ : L2.St) H => E c d H) := flatE
  show PSs (X_row_of w K mg base f cdv A outer s H E) _ (tS K en (fun c d _ H => E c d H) (dSeq (dStar 1 2 (dMt tyStr splitF (dVar 0) (dCons (dCst (.str " ")) (dNil)))) (dSeq (dSet 3 (dSzGet (dVar 1) (dCst (.str "")))) (dRet (dBin (addF false) (dBin (addF false) (dTup (dCons (dVar 1) (dNil))) (dCall tupleF (dCons (dLc false (zZipS (dVar 3) (dVar 2)) (.tp [.nm 4, .nm 5]) (dYes) (dFn 59 2 (dCons (dVar 4) (dCons (dVar 5) (dNil)))) [4, 5]) (dNil)))) (dCall tupleF (dCons (dSl false (dVar 2) (pYes (dCall lenF (dCons (dVar 3) (dNil)))) (pNo)) (dNil))))))))
  exact j_cons (j_star (i := 1) (j := 2) rfl nd rfl rfl rfl rfl (k_split (s_var (i := 0) rfl (vis_of rfl) rfl rfl) (a_cons rfl (s_str) (a_nil)) rfl rfl rfl rfl) rfl rfl) (j_cons (j_set (i := 3) nd rfl (loc_of rfl) (.inl rfl) (s_szGet t.sz rfl c.g_SIZES (s_var (i := 1) rfl (vis_of rfl) rfl rfl) (s_str) ⟨rfl, rfl, rfl, rfl⟩) rfl) (j_one (j_ret (s_bin (o_add false) (s_bin (o_add false) (s_tup (a_cons rfl (s_var (i := 1) rfl (vis_of rfl) rfl rfl) (a_nil))) (s_callTy c_tuple rfl c.f_tuple PyProof.Rows.Boot.«tuple» (a_cons rfl (s_lc (own := [("kind", 4), ("one", 5)]) false rfl nd (i_zipS rfl c.f_zip rfl rfl (s_var (i := 3) rfl (vis_of rfl) rfl rfl) (s_var (i := 2) rfl (vis_of rfl) rfl rfl)) (blkOk_by (by kernel_rfl)) (by decide) (fun _ _ _ _ _ => g_tp rfl (gs_cons (g_nm (i := 4) nd rfl (loc_of rfl) (.inr rfl)) (gs_cons (g_nm (i := 5) nd rfl (loc_of rfl) (.inr rfl)) (gs_nil) rfl) rfl) rfl rfl) (fun _ _ _ _ _ => ts_nil) (fun _ _ _ _ _ => s_fn t.c59 hr takesF rfl (a_cons rfl (s_var (i := 4) rfl (vis_of rfl) rfl rfl) (a_cons rfl (s_var (i := 5) rfl (vis_of rfl) rfl rfl) (a_nil))) rfl rfl) (fun _ => rfl)) (a_nil)) rfl (by decide) rfl)) (s_callTy c_tuple rfl c.f_tuple PyProof.Rows.Boot.«tuple» (a_cons rfl (s_sl false (s_var (i := 2) rfl (vis_of rfl) rfl rfl) (p_yes (s_callB c_len rfl c.f_len PyProof.Rows.Boot.«len» (a_cons rfl (s_var (i := 3) rfl (vis_of rfl) rfl rfl) (a_nil)) rfl (by decide) rfl)) (p_no)) (a_nil)) rfl (by decide) rfl)))))
def N_read_journal : List Str := ["text", "found", "at", "row", "line"]
abbrev X_read_journal (w : World) (K : PySem.W.Frag) (mg : Str → Option Value) (base : Heap) (f : Addr) (cdv : Value) (A : Around) (outer : List Env) (s : Shared) (H : Hp) (E : XK) : Cx := cxOf (L2N.CX PP w) PP w K mg base N_read_journal "read_journal" (defScope (top 52)) f cdv A outer s H E
theorem nd_read_journal : N_read_journal.Nodup := by decide +kernel
theorem sc_read_journal : FnScope N_read_journal ["text"] (defScope (top 52)) := C8.fnScope_by (by kernel_rfl)
theorem wk_read_journal (c : Fx K mg) (t : Tb w K mg base en k) (hr2 : Room (k + 3) (X_read_journal w K mg base f cdv A outer s H E).A) : PSs (X_read_journal w K mg base f cdv A outer s H E) (defBody (top 52)) (tS K en (fun c d _ H => E c d H) d_read_journal) := by
  have nd := nd_read_journal
  have hr := hr2.mono (show k ≤ k + 3 by omega)
  have hr1 := hr2.mono (show k + 1 ≤ k + 3 by omega)
  have hu := room_hu hr
  have hrX : Room (1 + 1) (X_read_journal w K mg base f cdv A outer s H E).A := hr2.mono (show 1 + 1 ≤ k + 3 by omega)
  have tk : L2N.Takes (X_read_journal w K mg base f cdv A outer s H E) (fun c d _ H => E c d H) := L2N.takes_of (X := X_read_journal w K mg base f cdv A outer s H E) (E := E) (E₁ := fun e s' => L2N.CX PP w outer H s E e s') rfl rfl rfl rfl
  have fl : Flat (fun c d (_ : L2.St) H => E c d H) := flatE
  show PSs (X_read_journal w K mg base f cdv A outer s H E) _ (tS K en (fun c d _ H => E c d H) (dSeq (dIfS (dNot (dTst (dCall (isiF "str") (dCons (dVar 0) dNil)))) (dRaiseF "BadJournal" (dCst .non)) (dNx)) (dSeq (dSet 1 (dIf (dTst (dBin neF (dVar 0) (dCst (.str "")))) (dLc false (zSeq (dMt tyStr splitF (dVar 0) (dCons (dCst (.str "\n")) (dNil)))) (.nm 4) (dYes) (dFn 60 1 (dCons (dVar 4) (dNil))) [4]) (dLst false (dNil)))) (dSeq (dFor (zEnum (dVar 1)) (.tp [.nm 2, .nm 3]) (dIfS (dNot (dTst (dFn 53 1 (dCons (dVar 3) (dNil))))) (dRaiseF "BadJournal" (dVar 2)) (dNx))) (dRet (dVar 1))))))
  exact j_cons (j_if (t_not (t_val (s_isi rfl c.f_isinstance rfl c.f_str PyProof.Rows.Boot.«str» (by decide) rfl rfl (s_var (i := 0) rfl (vis_of rfl) rfl rfl)) (fun _ => rfl))) (j_one (j_raiseF rfl tk t.x_BadJournal hrX rfl rfl rfl (s_non))) (j_nil)) (j_cons (j_set (i := 1) nd rfl (loc_of rfl) (.inl rfl) (s_if (t_cmp (o_ne (hu64 hu)) (s_var (i := 0) rfl (vis_of rfl) rfl rfl) (s_str) (nomark _)) (s_lc (own := [("line", 4)]) false rfl nd (i_seq (k_split (s_var (i := 0) rfl (vis_of rfl) rfl rfl) (a_cons rfl (s_str) (a_nil)) rfl rfl rfl rfl)) (blkOk_by (by kernel_rfl)) (by decide) (fun _ _ _ _ _ => g_nm (i := 4) nd rfl (loc_of rfl) (.inr rfl)) (fun _ _ _ _ _ => ts_nil) (fun _ _ _ _ _ => s_fn t.c60 hr takesF rfl (a_cons rfl (s_var (i := 4) rfl (vis_of rfl) rfl rfl) (a_nil)) rfl rfl) (fun _ => rfl)) (s_lst (cell := false) (a_nil))) rfl) (j_cons (j_for (passes_of rfl) rfl (i_enum rfl c.f_enumerate rfl (s_var (i := 1) rfl (vis_of rfl) rfl rfl)) (g_tp rfl (gs_cons (g_nm (i := 2) nd rfl (loc_of rfl) (.inl rfl)) (gs_cons (g_nm (i := 3) nd rfl (loc_of rfl) (.inl rfl)) (gs_nil) rfl) rfl) rfl rfl) (j_one (j_if (t_not (t_val (s_fn t.c53 hr tk rfl (a_cons rfl (s_var (i := 3) rfl (vis_of rfl) rfl rfl) (a_nil)) rfl rfl) (fun _ => rfl))) (j_one (j_raiseF rfl tk t.x_BadJournal hrX rfl rfl rfl (s_var (i := 2) rfl (vis_of rfl) rfl rfl))) (j_nil))) (fun _ => rfl)) (j_one (j_ret (s_var (i := 1) rfl (vis_of rfl) rfl rfl)))))
def N_law_cell : List Str := ["_law_script", "_law_k"]
abbrev X_law_cell (w : World) (K : PySem.W.Frag) (mg : Str → Option Value) (base : Heap) (f : Addr) (cdv : Value) (A : Around) (outer : List Env) (s : Shared) (H : Hp) (E : XK) : Cx := cxOf (L2N.CX PP w) PP w K mg base N_law_cell "_law_cell" (defScope (top 54)) f cdv A outer s H E
theorem nd_law_cell : N_law_cell.Nodup := by decide +kernel
theorem sc_law_cell : FnScope N_law_cell ["_law_script", "_law_k"] (defScope (top 54)) := C8.fnScope_by (by kernel_rfl)
theorem wk_law_cell (c : Fx K mg) (t : Tb w K mg base en k) (hr2 : Room (k + 3) (X_law_cell w K mg base f cdv A outer s H E).A) : PSs (X_law_cell w K mg base f cdv A outer s H E) (defBody (top 54)) (tS K en (fun c d _ H => E c d H) d_law_cell) := by
  have nd := nd_law_cell
  have hr := hr2.mono (show k ≤ k + 3 by omega)
  have hr1 := hr2.mono (show k + 1 ≤ k + 3 by omega)
  have hu := room_hu hr
  have hrX : Room (1 + 1) (X_law_cell w K mg base f cdv A outer s H E).A := hr2.mono (show 1 + 1 ≤ k + 3 by omega)
  have tk : L2N.Takes (X_law_cell w K mg base f cdv A outer s H E) (fun c d _ H => E c d H) := L2N.takes_of (X := X_law_cell w K mg base f cdv A outer s H E) (E := E) (E₁ := fun e s' => L2N.CX PP w outer H s E e s') rfl rfl rfl rfl
  have fl : Flat (fun c d (_ : L2.St) H => E c d H) := flatE
  show PSs (X_law_cell w K mg base f cdv A outer s H E) _ (tS K en (fun c d _ H => E c d H) (dSeq (dIfS (dTst (dBin eqF (dVar 0) (dLst false (dNil)))) (dRet (dBin mulF (dVar 1) (dCst (.int 7919)))) (dNx)) (dRet (dBin (addF false) (dBin idxF (dVar 0) (dBin modF (dVar 1) (dCall lenF (dCons (dVar 0) (dNil))))) (dBin mulF (dBin fdivF (dVar 1) (dCall lenF (dCons (dVar 0) (dNil)))) (dCst (.int 104729)))))))
  exact j_cons (j_if (t_cmp (o_eq (hu64 hu)) (s_var (i := 0) rfl (vis_of rfl) rfl rfl) (s_lst (cell := false) (a_nil)) (nomark _)) (j_one (j_ret (s_bin o_mul (s_var (i := 1) rfl (vis_of rfl) rfl rfl) (s_int)))) (j_nil)) (j_one (j_ret (s_bin (o_add false) (s_idx (hu1 hu) (s_var (i := 0) rfl (vis_of rfl) rfl rfl) (s_bin o_mod (s_var (i := 1) rfl (vis_of rfl) rfl rfl) (s_callB c_len rfl c.f_len PyProof.Rows.Boot.«len» (a_cons rfl (s_var (i := 0) rfl (vis_of rfl) rfl rfl) (a_nil)) rfl (by decide) rfl)) (fun _ _ => rfl)) (s_bin o_mul (s_bin o_fdiv (s_var (i := 1) rfl (vis_of rfl) rfl rfl) (s_callB c_len rfl c.f_len PyProof.Rows.Boot.«len» (a_cons rfl (s_var (i := 0) rfl (vis_of rfl) rfl rfl) (a_nil)) rfl (by decide) rfl)) (s_int)))))
def N_law_drawn : List Str := ["_law_cell_here", "_law_k", "_law_more"]
abbrev X_law_drawn (w : World) (K : PySem.W.Frag) (mg : Str → Option Value) (base : Heap) (f : Addr) (cdv : Value) (A : Around) (outer : List Env) (s : Shared) (H : Hp) (E : XK) : Cx := cxOf (L2N.CX PP w) PP w K mg base N_law_drawn "_law_drawn" (defScope (top 55)) f cdv A outer s H E
theorem nd_law_drawn : N_law_drawn.Nodup := by decide +kernel
theorem sc_law_drawn : FnScope N_law_drawn ["_law_cell_here", "_law_k"] (defScope (top 55)) := C8.fnScope_by (by kernel_rfl)
theorem wk_law_drawn (c : Fx K mg) (t : Tb w K mg base en k) (hr2 : Room (k + 3) (X_law_drawn w K mg base f cdv A outer s H E).A) : PSs (X_law_drawn w K mg base f cdv A outer s H E) (defBody (top 55)) (tS K en (fun c d _ H => E c d H) d_law_drawn) := by
  have nd := nd_law_drawn
  have hr := hr2.mono (show k ≤ k + 3 by omega)
  have hr1 := hr2.mono (show k + 1 ≤ k + 3 by omega)
  have hu := room_hu hr
  have hrX : Room (1 + 1) (X_law_drawn w K mg base f cdv A outer s H E).A := hr2.mono (show 1 + 1 ≤ k + 3 by omega)
  have tk : L2N.Takes (X_law_drawn w K mg base f cdv A outer s H E) (fun c d _ H => E c d H) := L2N.takes_of (X := X_law_drawn w K mg base f cdv A outer s H E) (E := E) (E₁ := fun e s' => L2N.CX PP w outer H s E e s') rfl rfl rfl rfl
  have fl : Flat (fun c d (_ : L2.St) H => E c d H) := flatE
  show PSs (X_law_drawn w K mg base f cdv A outer s H E) _ (tS K en (fun c d _ H => E c d H) (dSeq (dSet 2 (dBin modF (dBin (addF false) (dBin mulF (dVar 0) (dCst (.int 6364136223846793005))) (dBin mulF (dBin (addF false) (dVar 1) (dCst (.int 1))) (dCst (.int 1442695040888963407)))) (dCst (.int 340282366920938463463374607431768211507)))) (dSeq (dSet 2 (dBin modF (dBin mulF (dVar 2) (dVar 2)) (dCst (.int 340282366920938463463374607431768211297)))) (dSeq (dSet 2 (dBin mulF (dBin mulF (dBin (addF false) (dBin modF (dVar 2) (dCst (.int 18446744073709551557))) (dCst (.int 1))) (dBin (addF false) (dBin fdivF (dVar 2) (dCst (.int 18446744073709551557))) (dCst (.int 1)))) (dVar 2))) (dRet (dBin modF (dVar 2) (dCst (.int 340282366920938463463374607431768211507))))))))
  exact j_cons (j_set (i := 2) nd rfl (loc_of rfl) (.inl rfl) (s_bin o_mod (s_bin (o_add false) (s_bin o_mul (s_var (i := 0) rfl (vis_of rfl) rfl rfl) (s_int)) (s_bin o_mul (s_bin (o_add false) (s_var (i := 1) rfl (vis_of rfl) rfl rfl) (s_int)) (s_int))) (s_int)) rfl) (j_cons (j_set (i := 2) nd rfl (loc_of rfl) (.inl rfl) (s_bin o_mod (s_bin o_mul (s_var (i := 2) rfl (vis_of rfl) rfl rfl) (s_var (i := 2) rfl (vis_of rfl) rfl rfl)) (s_int)) rfl) (j_cons (j_set (i := 2) nd rfl (loc_of rfl) (.inl rfl) (s_bin o_mul (s_bin o_mul (s_bin (o_add false) (s_bin o_mod (s_var (i := 2) rfl (vis_of rfl) rfl rfl) (s_int)) (s_int)) (s_bin (o_add false) (s_bin o_fdiv (s_var (i := 2) rfl (vis_of rfl) rfl rfl) (s_int)) (s_int))) (s_var (i := 2) rfl (vis_of rfl) rfl rfl)) rfl) (j_one (j_ret (s_bin o_mod (s_var (i := 2) rfl (vis_of rfl) rfl rfl) (s_int))))))
def N_law_roll : List Str := ["_law_dice", "_law_many", "_law_told_here"]
abbrev X_law_roll (w : World) (K : PySem.W.Frag) (mg : Str → Option Value) (base : Heap) (f : Addr) (cdv : Value) (A : Around) (outer : List Env) (s : Shared) (H : Hp) (E : XK) : Cx := cxOf (L2N.CX PP w) PP w K mg base N_law_roll "_law_roll" (defScope (top 56)) f cdv A outer s H E
theorem nd_law_roll : N_law_roll.Nodup := by decide +kernel
theorem sc_law_roll : FnScope N_law_roll ["_law_dice", "_law_many"] (defScope (top 56)) := C8.fnScope_by (by kernel_rfl)
theorem wk_law_roll (c : Fx K mg) (t : Tb w K mg base en k) (hr2 : Room (k + 3) (X_law_roll w K mg base f cdv A outer s H E).A) : PSs (X_law_roll w K mg base f cdv A outer s H E) (defBody (top 56)) (tS K en (fun c d _ H => E c d H) d_law_roll) := by
  have nd := nd_law_roll
  have hr := hr2.mono (show k ≤ k + 3 by omega)
  have hr1 := hr2.mono (show k + 1 ≤ k + 3 by omega)
  have hu := room_hu hr
  have hrX : Room (1 + 1) (X_law_roll w K mg base f cdv A outer s H E).A := hr2.mono (show 1 + 1 ≤ k + 3 by omega)
  have tk : L2N.Takes (X_law_roll w K mg base f cdv A outer s H E) (fun c d _ H => E c d H) := L2N.takes_of (X := X_law_roll w K mg base f cdv A outer s H E) (E := E) (E₁ := fun e s' => L2N.CX PP w outer H s E e s') rfl rfl rfl rfl
  have fl : Flat (fun c d (_ : L2.St) H => E c d H) := flatE
  show PSs (X_law_roll w K mg base f cdv A outer s H E) _ (tS K en (fun c d _ H => E c d H) (dSeq (dIfS (dTst (dBin geF (dBin idxF (dVar 0) (dCst (.int 0))) (dBin powF (dCst (.int 10)) (dCst (.int 18))))) (dSeq (dSet 2 (dBin modF (dBin idxF (dVar 0) (dCst (.int 0))) (dVar 1))) (dSeq (dSetI (dVar 0) (dCst (.int 0)) (dBin fdivF (dBin idxF (dVar 0) (dCst (.int 0))) (dVar 1))) (dRet (dVar 2)))) (dNx)) (dSeq (dSetI (dVar 0) (dCst (.int 1)) (dBin (addF false) (dBin idxF (dVar 0) (dCst (.int 1))) (dCst (.int 1)))) (dRet (dBin modF (dBin fdivF (dFn 63 2 (dCons (dBin idxF (dVar 0) (dCst (.int 0))) (dCons (dBin idxF (dVar 0) (dCst (.int 1))) (dNil)))) (dCst (.int 8))) (dVar 1))))))
  exact j_cons (j_if (t_cmp o_ge (s_idx (hu1 hu) (s_var (i := 0) rfl (vis_of rfl) rfl rfl) (s_int) (fun _ _ => rfl)) (s_bin o_pow (s_int) (s_int)) (nomark _)) (j_cons (j_set (i := 2) nd rfl (loc_of rfl) (.inl rfl) (s_bin o_mod (s_idx (hu1 hu) (s_var (i := 0) rfl (vis_of rfl) rfl rfl) (s_int) (fun _ _ => rfl)) (s_var (i := 1) rfl (vis_of rfl) rfl rfl)) rfl) (j_cons (j_setI (hu1 hu) (s_var (i := 0) rfl (vis_of rfl) rfl rfl) (s_int) (s_bin o_fdiv (s_idx (hu1 hu) (s_var (i := 0) rfl (vis_of rfl) rfl rfl) (s_int) (fun _ _ => rfl)) (s_var (i := 1) rfl (vis_of rfl) rfl rfl)) (fun _ => rfl) rfl rfl rfl) (j_one (j_ret (s_var (i := 2) rfl (vis_of rfl) rfl rfl))))) (j_nil)) (j_cons (j_setI (hu1 hu) (s_var (i := 0) rfl (vis_of rfl) rfl rfl) (s_int) (s_bin (o_add false) (s_idx (hu1 hu) (s_var (i := 0) rfl (vis_of rfl) rfl rfl) (s_int) (fun _ _ => rfl)) (s_int)) (fun _ => rfl) rfl rfl rfl) (j_one (j_ret (s_bin o_mod (s_bin o_fdiv (s_fn t.c63 hr tk rfl (a_cons rfl (s_idx (hu1 hu) (s_var (i := 0) rfl (vis_of rfl) rfl rfl) (s_int) (fun _ _ => rfl)) (a_cons rfl (s_idx (hu1 hu) (s_var (i := 0) rfl (vis_of rfl) rfl rfl) (s_int) (fun _ _ => rfl)) (a_nil))) rfl rfl) (s_int)) (s_var (i := 1) rfl (vis_of rfl) rfl rfl)))))
def N_law_rounds : List Str := ["_law_script", "_law_most", "_law_k"]
abbrev X_law_rounds (w : World) (K : PySem.W.Frag) (mg : Str → Option Value) (base : Heap) (f : Addr) (cdv : Value) (A : Around) (outer : List Env) (s : Shared) (H : Hp) (E : XK) : Cx := cxOf (L2N.CX PP w) PP w K mg base N_law_rounds "_law_rounds" (defScope (top 57)) f cdv A outer s H E
theorem nd_law_rounds : N_law_rounds.Nodup := by decide +kernel
theorem sc_law_rounds : FnScope N_law_rounds ["_law_script", "_law_most"] (defScope (top 57)) := C8.fnScope_by (by kernel_rfl)
theorem wk_law_rounds (c : Fx K mg) (t : Tb w K mg base en k) (hr2 : Room (k + 3) (X_law_rounds w K mg base f cdv A outer s H E).A) : PSs (X_law_rounds w K mg base f cdv A outer s H E) (defBody (top 57)) (tS K en (fun c d _ H => E c d H) d_law_rounds) := by
  have nd := nd_law_rounds
  have hr := hr2.mono (show k ≤ k + 3 by omega)
  have hr1 := hr2.mono (show k + 1 ≤ k + 3 by omega)
  have hu := room_hu hr
  have hrX : Room (1 + 1) (X_law_rounds w K mg base f cdv A outer s H E).A := hr2.mono (show 1 + 1 ≤ k + 3 by omega)
  have tk : L2N.Takes (X_law_rounds w K mg base f cdv A outer s H E) (fun c d _ H => E c d H) := L2N.takes_of (X := X_law_rounds w K mg base f cdv A outer s H E) (E := E) (E₁ := fun e s' => L2N.CX PP w outer H s E e s') rfl rfl rfl rfl
  have fl : Flat (fun c d (_ : L2.St) H => E c d H) := flatE
  show PSs (X_law_rounds w K mg base f cdv A outer s H E) _ (tS K en (fun c d _ H => E c d H) (dRet (dLc false (zRng1 (dCall maxF (dCons (dCst (.int 1)) (dCons (dCall minF (dCons (dVar 1) (dCons (dCall lenF (dCons (dVar 0) (dNil))) (dNil)))) (dNil))))) (.nm 2) (dYes) (dLst true (dCons (dFn 62 2 (dCons (dVar 0) (dCons (dVar 2) (dNil)))) (dCons (dCst (.int 0)) (dNil)))) [2])))
  exact j_one (j_ret (s_lc (own := [("_law_k", 2)]) false rfl nd (i_rng1 rfl c.f_range rfl (s_callB (c_max rfl) rfl c.f_max PyProof.Rows.Boot.«max» (a_cons rfl (s_int) (a_cons rfl (s_callB (c_min rfl) rfl c.f_min PyProof.Rows.Boot.«min» (a_cons rfl (s_var (i := 1) rfl (vis_of rfl) rfl rfl) (a_cons rfl (s_callB c_len rfl c.f_len PyProof.Rows.Boot.«len» (a_cons rfl (s_var (i := 0) rfl (vis_of rfl) rfl rfl) (a_nil)) rfl (by decide) rfl) (a_nil))) rfl (by decide) rfl) (a_nil))) rfl (by decide) rfl)) (blkOk_by (by kernel_rfl)) (by decide) (fun _ _ _ _ _ => g_nm (i := 2) nd rfl (loc_of rfl) (.inr rfl)) (fun _ _ _ _ _ => ts_nil) (fun _ _ _ _ _ => s_lst (cell := true) (a_cons rfl (s_fn t.c62 hr takesF rfl (a_cons rfl (s_var (i := 0) rfl (vis_of rfl) rfl rfl) (a_cons rfl (s_var (i := 2) rfl (vis_of rfl) rfl rfl) (a_nil))) rfl rfl) (a_cons rfl (s_int) (a_nil)))) (fun _ => rfl)))
def N_law_do : List Str := ["_law_roof", "_law_row", "_law_term", "_law_who", "_law_more"]
abbrev X_law_do (w : World) (K : PySem.W.Frag) (mg : Str → Option Value) (base : Heap) (f : Addr) (cdv : Value) (A : Around) (outer : List Env) (s : Shared) (H : Hp) (E : XK) : Cx := cxOf (L2N.CX PP w) PP w K mg base N_law_do "_law_do" (defScope (top 60)) f cdv A outer s H E
theorem nd_law_do : N_law_do.Nodup := by decide +kernel
theorem sc_law_do : FnScope N_law_do ["_law_roof", "_law_row"] (defScope (top 60)) := C8.fnScope_by (by kernel_rfl)
theorem wk_law_do (c : Fx K mg) (t : Tb w K mg base en k) (hr2 : Room (k + 3) (X_law_do w K mg base f cdv A outer s H E).A) (ap : tabsApart K = true) (hcode : cdv = .ref (He.cT K ("_law_do", none)).1) (tb : LamX.TabB base mg (He.cT K ("_law_do", none)).1 (He.cT K ("_law_do", none)).2) : PSs (X_law_do w K mg base f cdv A outer s H E) (defBody (top 60)) (tS K en (fun c d _ H => E c d H) d_law_do) := by
  have nd := nd_law_do
  have hr := hr2.mono (show k ≤ k + 3 by omega)
  have hr1 := hr2.mono (show k + 1 ≤ k + 3 by omega)
  have hu := room_hu hr
  have hrX : Room (1 + 1) (X_law_do w K mg base f cdv A outer s H E).A := hr2.mono (show 1 + 1 ≤ k + 3 by omega)
  have tk : L2N.Takes (X_law_do w K mg base f cdv A outer s H E) (fun c d _ H => E c d H) := L2N.takes_of (X := X_law_do w K mg base f cdv A outer s H E) (E := E) (E₁ := fun e s' => L2N.CX PP w outer H s E e s') rfl rfl rfl rfl
  have fl : Flat (fun c d (_ : L2.St) H => E c d H) := flatE
  have hrT : Room (k + 3) (X_law_do w K mg base f cdv A outer s H E).A := hr2
  have hrW : Room (1 + 1) (X_law_do w K mg base f cdv A outer s H E).A := hr2.mono (show 1 + 1 ≤ k + 3 by omega)
  show PSs (X_law_do w K mg base f cdv A outer s H E) _ (tS K en (fun c d _ H => E c d H) (dSeq (dAsg (.tp [.nm 2, .nm 3, .nm 4]) (dSl false (dBin (addF false) (dVar 1) (dTup (dCons (dCst .non) (dNil)))) (pNo) (pYes (dCst (.int 3))))) (dSeq (dIfS (dTst (dBin inF (dVar 2) (dTup (dCons (dCst (.str "found")) (dCons (dCst (.str "go")) (dNil)))))) (dRet (dTold (dIf (dTst (dBin eqF (dVar 2) (dCst (.str "found")))) (dMe 19 2 "found" (dVar 0) (dCons (dVar 3) (dNil))) (dMe 21 2 "go" (dVar 0) (dCons (dVar 3) (dNil)))))) (dNx)) (dSeq (dIfS (dTst (dBin eqF (dVar 2) (dCst (.str "come")))) (dRet (dTold (dMe 20 4 "come" (dVar 0) (dCons (dVar 3) (dCons (dVar 4) (dCons (dBin idxF (dVar 1) (dCst (.int 3))) (dNil))))))) (dNx)) (dSeq (dIfS (dTst (dBin inF (dVar 2) (dTup (dCons (dCst (.str "put_in")) (dCons (dCst (.str "take_out")) (dNil)))))) (dRet (dTold (dIf (dTst (dBin eqF (dVar 2) (dCst (.str "put_in")))) (dMe 22 3 "put_in" (dVar 0) (dCons (dVar 3) (dCons (dVar 4) (dNil)))) (dMe 23 3 "take_out" (dVar 0) (dCons (dVar 3) (dCons (dVar 4) (dNil))))))) (dNx)) (dSeq (dIfS (dTst (dBin eqF (dVar 2) (dCst (.str "move")))) (dRet (dTold (dMeK 25 3 "move" (dVar 0) (dCons (dVar 3) (dCons (dVar 4) (dNil))) (dBin idxF (dVar 1) (dCst (.int 3)))))) (dNx)) (dSeq (dIfS (dTst (dBin inF (dVar 2) (dTup (dCons (dCst (.str "call")) (dCons (dCst (.str "merge")) (dNil)))))) (dRet (dTold (dIf (dTst (dBin eqF (dVar 2) (dCst (.str "call")))) (dMe 24 3 "call" (dVar 0) (dCons (dVar 3) (dCons (dVar 4) (dNil)))) (dMe 27 3 "merge" (dVar 0) (dCons (dVar 3) (dCons (dVar 4) (dNil))))))) (dNx)) (dRet (dTold (dIf (dTst (dBin eqF (dVar 2) (dCst (.str "trust")))) (dMe 28 3 "trust" (dVar 0) (dCons (dVar 3) (dCons (dVar 4) (dNil)))) (dMe 29 3 "mistrust" (dVar 0) (dCons (dVar 3) (dCons (dVar 4) (dNil))))))))))))))
  exact j_cons (j_asg (s_sl false (s_bin (o_add false) (s_var (i := 1) rfl (vis_of rfl) rfl rfl) (s_tup (a_cons rfl (s_non) (a_nil)))) (p_no) (p_yes (s_int))) (g_tp rfl (gs_cons (g_nm (i := 2) nd rfl (loc_of rfl) (.inl rfl)) (gs_cons (g_nm (i := 3) nd rfl (loc_of rfl) (.inl rfl)) (gs_cons (g_nm (i := 4) nd rfl (loc_of rfl) (.inl rfl)) (gs_nil) rfl) rfl) rfl) rfl rfl) rfl rfl rfl) (j_cons (j_if (t_cmp (o_in hu) (s_var (i := 2) rfl (vis_of rfl) rfl rfl) (s_tup (a_cons rfl (s_str) (a_cons rfl (s_str) (a_nil)))) rfl) (j_one (j_ret (s_told (df := (("_law_do", none), "_law_do.<locals>.<lambda>")) (k := k + 1) (kw := 1) t.told rfl rfl c.k_told (by decide) (by kernel_rfl) ap hcode tb hrT hrW (LamX.lamS_by (by kernel_rfl)) rfl (fun _ _ _ _ _ => by rfl) (fun A0 outer0 s0 H0 E0 f0 c0 hr1 => by
      have hr := hr1.mono (show k ≤ k + 1 by omega)
      have hu := room_hu hr
      exact s_if (t_cmp (o_eq (hu64 hu)) (s_var (i := 2) rfl (vis_of rfl) rfl rfl) (s_str) (nomark _)) (s_me t.c19 hr (lamN_takes _ _ _ _ _ _ _ _ _) flatE (s_var (i := 0) rfl (vis_of rfl) rfl rfl) (a_cons rfl (s_var (i := 3) rfl (vis_of rfl) rfl rfl) (a_nil)) rfl rfl) (s_me t.c21 hr (lamN_takes _ _ _ _ _ _ _ _ _) flatE (s_var (i := 0) rfl (vis_of rfl) rfl rfl) (a_cons rfl (s_var (i := 3) rfl (vis_of rfl) rfl rfl) (a_nil)) rfl rfl))))) (j_nil)) (j_cons (j_if (t_cmp (o_eq (hu64 hu)) (s_var (i := 2) rfl (vis_of rfl) rfl rfl) (s_str) (nomark _)) (j_one (j_ret (s_told (df := (("_law_do", none), "_law_do.<locals>.<lambda>")) (k := k + 1) (kw := 1) t.told rfl rfl c.k_told (by decide) (by kernel_rfl) ap hcode tb hrT hrW (LamX.lamS_by (by kernel_rfl)) rfl (fun _ _ _ _ _ => by rfl) (fun A0 outer0 s0 H0 E0 f0 c0 hr1 => by
      have hr := hr1.mono (show k ≤ k + 1 by omega)
      have hu := room_hu hr
      exact s_me t.c20 hr (lamN_takes _ _ _ _ _ _ _ _ _) flatE (s_var (i := 0) rfl (vis_of rfl) rfl rfl) (a_cons rfl (s_var (i := 3) rfl (vis_of rfl) rfl rfl) (a_cons rfl (s_var (i := 4) rfl (vis_of rfl) rfl rfl) (a_cons rfl (s_idx (hu1 hu) (s_var (i := 1) rfl (vis_of rfl) rfl rfl) (s_int) (fun _ _ => rfl)) (a_nil)))) rfl rfl)))) (j_nil)) (j_cons (j_if (t_cmp (o_in hu) (s_var (i := 2) rfl (vis_of rfl) rfl rfl) (s_tup (a_cons rfl (s_str) (a_cons rfl (s_str) (a_nil)))) rfl) (j_one (j_ret (s_told (df := (("_law_do", none), "_law_do.<locals>.<lambda>")) (k := k + 1) (kw := 1) t.told rfl rfl c.k_told (by decide) (by kernel_rfl) ap hcode tb hrT hrW (LamX.lamS_by (by kernel_rfl)) rfl (fun _ _ _ _ _ => by rfl) (fun A0 outer0 s0 H0 E0 f0 c0 hr1 => by
      have hr := hr1.mono (show k ≤ k + 1 by omega)
      have hu := room_hu hr
      exact s_if (t_cmp (o_eq (hu64 hu)) (s_var (i := 2) rfl (vis_of rfl) rfl rfl) (s_str) (nomark _)) (s_me t.c22 hr (lamN_takes _ _ _ _ _ _ _ _ _) flatE (s_var (i := 0) rfl (vis_of rfl) rfl rfl) (a_cons rfl (s_var (i := 3) rfl (vis_of rfl) rfl rfl) (a_cons rfl (s_var (i := 4) rfl (vis_of rfl) rfl rfl) (a_nil))) rfl rfl) (s_me t.c23 hr (lamN_takes _ _ _ _ _ _ _ _ _) flatE (s_var (i := 0) rfl (vis_of rfl) rfl rfl) (a_cons rfl (s_var (i := 3) rfl (vis_of rfl) rfl rfl) (a_cons rfl (s_var (i := 4) rfl (vis_of rfl) rfl rfl) (a_nil))) rfl rfl))))) (j_nil)) (j_cons (j_if (t_cmp (o_eq (hu64 hu)) (s_var (i := 2) rfl (vis_of rfl) rfl rfl) (s_str) (nomark _)) (j_one (j_ret (s_told (df := (("_law_do", none), "_law_do.<locals>.<lambda>")) (k := k + 1) (kw := 1) t.told rfl rfl c.k_told (by decide) (by kernel_rfl) ap hcode tb hrT hrW (LamX.lamS_by (by kernel_rfl)) rfl (fun _ _ _ _ _ => by rfl) (fun A0 outer0 s0 H0 E0 f0 c0 hr1 => by
      have hr := hr1.mono (show k ≤ k + 1 by omega)
      have hu := room_hu hr
      exact s_meK t.c25 hr (lamN_takes _ _ _ _ _ _ _ _ _) flatE (s_var (i := 0) rfl (vis_of rfl) rfl rfl) (a_cons rfl (s_var (i := 3) rfl (vis_of rfl) rfl rfl) (a_cons rfl (s_var (i := 4) rfl (vis_of rfl) rfl rfl) (a_nil))) (s_idx (hu1 hu) (s_var (i := 1) rfl (vis_of rfl) rfl rfl) (s_int) (fun _ _ => rfl)) rfl rfl rfl rfl rfl)))) (j_nil)) (j_cons (j_if (t_cmp (o_in hu) (s_var (i := 2) rfl (vis_of rfl) rfl rfl) (s_tup (a_cons rfl (s_str) (a_cons rfl (s_str) (a_nil)))) rfl) (j_one (j_ret (s_told (df := (("_law_do", none), "_law_do.<locals>.<lambda>")) (k := k + 1) (kw := 1) t.told rfl rfl c.k_told (by decide) (by kernel_rfl) ap hcode tb hrT hrW (LamX.lamS_by (by kernel_rfl)) rfl (fun _ _ _ _ _ => by rfl) (fun A0 outer0 s0 H0 E0 f0 c0 hr1 => by
      have hr := hr1.mono (show k ≤ k + 1 by omega)
      have hu := room_hu hr
      exact s_if (t_cmp (o_eq (hu64 hu)) (s_var (i := 2) rfl (vis_of rfl) rfl rfl) (s_str) (nomark _)) (s_me t.c24 hr (lamN_takes _ _ _ _ _ _ _ _ _) flatE (s_var (i := 0) rfl (vis_of rfl) rfl rfl) (a_cons rfl (s_var (i := 3) rfl (vis_of rfl) rfl rfl) (a_cons rfl (s_var (i := 4) rfl (vis_of rfl) rfl rfl) (a_nil))) rfl rfl) (s_me t.c27 hr (lamN_takes _ _ _ _ _ _ _ _ _) flatE (s_var (i := 0) rfl (vis_of rfl) rfl rfl) (a_cons rfl (s_var (i := 3) rfl (vis_of rfl) rfl rfl) (a_cons rfl (s_var (i := 4) rfl (vis_of rfl) rfl rfl) (a_nil))) rfl rfl))))) (j_nil)) (j_one (j_ret (s_told (df := (("_law_do", none), "_law_do.<locals>.<lambda>")) (k := k + 1) (kw := 1) t.told rfl rfl c.k_told (by decide) (by kernel_rfl) ap hcode tb hrT hrW (LamX.lamS_by (by kernel_rfl)) rfl (fun _ _ _ _ _ => by rfl) (fun A0 outer0 s0 H0 E0 f0 c0 hr1 => by
      have hr := hr1.mono (show k ≤ k + 1 by omega)
      have hu := room_hu hr
      exact s_if (t_cmp (o_eq (hu64 hu)) (s_var (i := 2) rfl (vis_of rfl) rfl rfl) (s_str) (nomark _)) (s_me t.c28 hr (lamN_takes _ _ _ _ _ _ _ _ _) flatE (s_var (i := 0) rfl (vis_of rfl) rfl rfl) (a_cons rfl (s_var (i := 3) rfl (vis_of rfl) rfl rfl) (a_cons rfl (s_var (i := 4) rfl (vis_of rfl) rfl rfl) (a_nil))) rfl rfl) (s_me t.c29 hr (lamN_takes _ _ _ _ _ _ _ _ _) flatE (s_var (i := 0) rfl (vis_of rfl) rfl rfl) (a_cons rfl (s_var (i := 3) rfl (vis_of rfl) rfl rfl) (a_cons rfl (s_var (i := 4) rfl (vis_of rfl) rfl rfl) (a_nil))) rfl rfl))))))))))
def N_law_alone : List Str := ["_law_e", "_law_own", "_law_some", "_law_at"]
abbrev X_law_alone (w : World) (K : PySem.W.Frag) (mg : Str → Option Value) (base : Heap) (f : Addr) (cdv : Value) (A : Around) (outer : List Env) (s : Shared) (H : Hp) (E : XK) : Cx := cxOf (L2N.CX PP w) PP w K mg base N_law_alone "_law_alone" (defScope (top 62)) f cdv A outer s H E
theorem nd_law_alone : N_law_alone.Nodup := by decide +kernel
theorem sc_law_alone : FnScope N_law_alone ["_law_e", "_law_own"] (defScope (top 62)) := C8.fnScope_by (by kernel_rfl)
theorem wk_law_alone (c : Fx K mg) (t : Tb w K mg base en k) (hr2 : Room (k + 3) (X_law_alone w K mg base f cdv A outer s H E).A) : PSs (X_law_alone w K mg base f cdv A outer s H E) (defBody (top 62)) (tS K en (fun c d _ H => E c d H) d_law_alone) := by
  have nd := nd_law_alone
  have hr := hr2.mono (show k ≤ k + 3 by omega)
  have hr1 := hr2.mono (show k + 1 ≤ k + 3 by omega)
  have hu := room_hu hr
  have hrX : Room (1 + 1) (X_law_alone w K mg base f cdv A outer s H E).A := hr2.mono (show 1 + 1 ≤ k + 3 by omega)
  have tk : L2N.Takes (X_law_alone w K mg base f cdv A outer s H E) (fun c d _ H => E c d H) := L2N.takes_of (X := X_law_alone w K mg base f cdv A outer s H E) (E := E) (E₁ := fun e s' => L2N.CX PP w outer H s E e s') rfl rfl rfl rfl
  have fl : Flat (fun c d (_ : L2.St) H => E c d H) := flatE
  show PSs (X_law_alone w K mg base f cdv A outer s H E) _ (tS K en (fun c d _ H => E c d H) (dSeq (dSet 2 (dLst false (dCons (dIsE (some "NoOne") (dVar 0)) (dCons (dIsE (some "Taken") (dVar 0)) (dCons (dIsE (some "BadJournal") (dVar 0)) (dCons (dIsE (some "BadName") (dVar 0)) (dNil))))))) (dSeq (dSet 2 (dBin (addF false) (dVar 2) (dLst false (dCons (dIsE (some "NoHouse") (dVar 0)) (dCons (dIsE (some "BadRule") (dVar 0)) (dCons (dIsE (some "BadTime") (dVar 0)) (dNil))))))) (dSeq (dSet 2 (dBin (addF false) (dVar 2) (dLst false (dCons (dIsE (some "Nothing") (dVar 0)) (dNil))))) (dRet (dAndV (dIsE none (dVar 0)) (dBin eqF (dVar 2) (dLc false (zRng1 (dCst (.int 8))) (.nm 3) (dYes) (dBin eqF (dVar 3) (dVar 1)) [3]))))))))
  exact j_cons (j_set (i := 2) nd rfl (loc_of rfl) (.inl rfl) (s_lst (cell := false) (a_cons rfl (s_isE t.met.ek (by decide) rfl c.f_isinstance rfl c.g_NoOne rfl rfl (s_var (i := 0) rfl (vis_of rfl) rfl rfl)) (a_cons rfl (s_isE t.met.ek (by decide) rfl c.f_isinstance rfl c.g_Taken rfl rfl (s_var (i := 0) rfl (vis_of rfl) rfl rfl)) (a_cons rfl (s_isE t.met.ek (by decide) rfl c.f_isinstance rfl c.g_BadJournal rfl rfl (s_var (i := 0) rfl (vis_of rfl) rfl rfl)) (a_cons rfl (s_isE t.met.ek (by decide) rfl c.f_isinstance rfl c.g_BadName rfl rfl (s_var (i := 0) rfl (vis_of rfl) rfl rfl)) (a_nil)))))) rfl) (j_cons (j_set (i := 2) nd rfl (loc_of rfl) (.inl rfl) (s_bin (o_add false) (s_var (i := 2) rfl (vis_of rfl) rfl rfl) (s_lst (cell := false) (a_cons rfl (s_isE t.met.ek (by decide) rfl c.f_isinstance rfl c.g_NoHouse rfl rfl (s_var (i := 0) rfl (vis_of rfl) rfl rfl)) (a_cons rfl (s_isE t.met.ek (by decide) rfl c.f_isinstance rfl c.g_BadRule rfl rfl (s_var (i := 0) rfl (vis_of rfl) rfl rfl)) (a_cons rfl (s_isE t.met.ek (by decide) rfl c.f_isinstance rfl c.g_BadTime rfl rfl (s_var (i := 0) rfl (vis_of rfl) rfl rfl)) (a_nil)))))) rfl) (j_cons (j_set (i := 2) nd rfl (loc_of rfl) (.inl rfl) (s_bin (o_add false) (s_var (i := 2) rfl (vis_of rfl) rfl rfl) (s_lst (cell := false) (a_cons rfl (s_isE t.met.ek (by decide) rfl c.f_isinstance rfl c.g_Nothing rfl rfl (s_var (i := 0) rfl (vis_of rfl) rfl rfl)) (a_nil)))) rfl) (j_one (j_ret (v_and (s_isEV t.met.ek rfl c.f_isinstance rfl c.f_ValueError rfl (s_var (i := 0) rfl (vis_of rfl) rfl rfl)) (v_one (s_cmp (o_eq (hu64 hu)) (s_var (i := 2) rfl (vis_of rfl) rfl rfl) (s_lc (own := [("_law_at", 3)]) false rfl nd (i_rng1 rfl c.f_range rfl (s_int)) (blkOk_by (by kernel_rfl)) (by decide) (fun _ _ _ _ _ => g_nm (i := 3) nd rfl (loc_of rfl) (.inr rfl)) (fun _ _ _ _ _ => ts_nil) (fun _ _ _ _ _ => s_cmp (o_eq (hu64 hu)) (s_var (i := 3) rfl (vis_of rfl) rfl rfl) (s_var (i := 1) rfl (vis_of rfl) rfl rfl) (nomark _)) (fun _ => rfl)) (nomark _))))))))
def N_law : List Str := ["_law_script", "_law_dice", "_law_more", "_law_roof", "_law_row", "_law_met_here", "_law_at", "_law_e"]
abbrev X_law (w : World) (K : PySem.W.Frag) (mg : Str → Option Value) (base : Heap) (f : Addr) (cdv : Value) (A : Around) (outer : List Env) (s : Shared) (H : Hp) (E : XK) : Cx := cxOf (L2N.CX PP w) PP w K mg base N_law "law" (defScope (top 63)) f cdv A outer s H E
theorem nd_law : N_law.Nodup := by decide +kernel
theorem sc_law : FnScope N_law ["_law_script"] (defScope (top 63)) := C8.fnScope_by (by kernel_rfl)
theorem wk_law (c : Fx K mg) (t : Tb w K mg base en k) (hr2 : Room (k + 3) (X_law w K mg base f cdv A outer s H E).A) (ap : tabsApart K = true) (hcode : cdv = .ref (He.cT K ("law", none)).1) (tb : LamX.TabB base mg (He.cT K ("law", none)).1 (He.cT K ("law", none)).2) : PSs (X_law w K mg base f cdv A outer s H E) (defBody (top 63)) (tS K en (fun c d _ H => E c d H) d_law) := by
  have nd := nd_law
  have hr := hr2.mono (show k ≤ k + 3 by omega)
  have hr1 := hr2.mono (show k + 1 ≤ k + 3 by omega)
  have hu := room_hu hr
  have hrX : Room (1 + 1) (X_law w K mg base f cdv A outer s H E).A := hr2.mono (show 1 + 1 ≤ k + 3 by omega)
  have tk : L2N.Takes (X_law w K mg base f cdv A outer s H E) (fun c d _ H => E c d H) := L2N.takes_of (X := X_law w K mg base f cdv A outer s H E) (E := E) (E₁ := fun e s' => L2N.CX PP w outer H s E e s') rfl rfl rfl rfl
  have fl : Flat (fun c d (_ : L2.St) H => E c d H) := flatE
  have hrT : Room (k + 3) (X_law w K mg base f cdv A outer s H E).A := hr2
  have hrW : Room (1 + 1) (X_law w K mg base f cdv A outer s H E).A := hr2.mono (show 1 + 1 ≤ k + 3 by omega)
  show PSs (X_law w K mg base f cdv A outer s H E) _ (tS K en (fun c d _ H => E c d H) (dSeq (dFor (zSeq (dFn 65 2 (dCons (dVar 0) (dCons (dCst (.int 4)) (dNil))))) (.nm 1) (dFrS (lv1 1) lawBody)) (dRet (dCst (.bl true)))))
  exact j_cons (j_for (passes_of rfl) rfl (i_seq (s_fn t.c65 hr tk rfl (a_cons rfl (s_var (i := 0) rfl (vis_of rfl) rfl rfl) (a_cons rfl (s_int) (a_nil))) rfl rfl)) (g_nm (i := 1) nd rfl (loc_of rfl) (.inl rfl)) (j_frs (lv1 1) (j_cons (j_set (i := 2) nd rfl (loc_of rfl) (.inl rfl) (s_bin (o_add false) (s_int) (s_fn t.c64 hr tk rfl (a_cons rfl (s_var (i := 1) rfl (vis_of rfl) rfl rfl) (a_cons rfl (s_int) (a_nil))) rfl rfl)) rfl) (j_cons (j_set (i := 3) nd rfl (loc_of rfl) (.inl rfl) (s_mk0 t.c8 hr1 tk fl rfl) rfl) (j_cons (j_for (passes_of rfl) rfl (i_seq (s_lst (cell := false) (a_cons rfl (s_tup (a_cons rfl (s_str) (a_cons rfl (s_str) (a_nil)))) (a_cons rfl (s_tup (a_cons rfl (s_str) (a_cons rfl (s_str) (a_cons rfl (s_str) (a_cons rfl (s_str) (a_nil)))))) (a_nil))))) (g_nm (i := 4) nd rfl (loc_of rfl) (.inl rfl)) (j_one (j_exp (s_fn t.c66 hr tk rfl (a_cons rfl (s_var (i := 3) rfl (vis_of rfl) rfl rfl) (a_cons rfl (s_var (i := 4) rfl (vis_of rfl) rfl rfl) (a_nil))) rfl rfl) rfl)) (fun _ => rfl)) (j_cons (j_set (i := 5) nd rfl (loc_of rfl) (.inl rfl) (s_lst (cell := true) (a_cons rfl (s_met (df := (("law", none), "law.<locals>.<lambda>")) (k := k + 1) t.met rfl rfl c.k_met (by decide) (by kernel_rfl) ap hcode tb hrT (LamX.lamS_by (by kernel_rfl)) rfl (fun _ _ _ _ _ => by rfl) (fun A0 outer0 s0 H0 E0 f0 c0 hr1 => by
      have hr := hr1.mono (show k ≤ k + 1 by omega)
      have hu := room_hu hr
      exact s_me t.c21 hr (lamN_takes _ _ _ _ _ _ _ _ _) flatE (s_var (i := 3) rfl (vis_of rfl) rfl rfl) (a_cons rfl (s_bin (o_add false) (s_int) (s_var (i := 2) rfl (vis_of rfl) rfl rfl)) (a_nil)) rfl rfl)) (a_nil))) rfl) (j_cons (j_exp (k_append (s_var (i := 5) rfl (vis_of rfl) rfl rfl) (a_cons rfl (s_met (df := (("law", none), "law.<locals>.<lambda>")) (k := k + 1) t.met rfl rfl c.k_met (by decide) (by kernel_rfl) ap hcode tb hrT (LamX.lamS_by (by kernel_rfl)) rfl (fun _ _ _ _ _ => by rfl) (fun A0 outer0 s0 H0 E0 f0 c0 hr1 => by
      have hr := hr1.mono (show k ≤ k + 1 by omega)
      have hu := room_hu hr
      exact s_me t.c20 hr (lamN_takes _ _ _ _ _ _ _ _ _) flatE (s_var (i := 3) rfl (vis_of rfl) rfl rfl) (a_cons rfl (s_str) (a_cons rfl (s_str) (a_cons rfl (s_str) (a_nil)))) rfl rfl)) (a_nil)) rfl rfl rfl rfl) rfl) (j_cons (j_exp (k_append (s_var (i := 5) rfl (vis_of rfl) rfl rfl) (a_cons rfl (s_met (df := (("law", none), "law.<locals>.<lambda>")) (k := k + 1) t.met rfl rfl c.k_met (by decide) (by kernel_rfl) ap hcode tb hrT (LamX.lamS_by (by kernel_rfl)) rfl (fun _ _ _ _ _ => by rfl) (fun A0 outer0 s0 H0 E0 f0 c0 hr1 => by
      have hr := hr1.mono (show k ≤ k + 1 by omega)
      have hu := room_hu hr
      exact s_fn t.c61 hr (lamN_takes _ _ _ _ _ _ _ _ _) rfl (a_cons rfl (s_bin (o_add false) (s_str) (s_bin o_mul2 (s_str) (s_var (i := 2) rfl (vis_of rfl) rfl rfl))) (a_nil)) rfl rfl)) (a_nil)) rfl rfl rfl rfl) rfl) (j_cons (j_exp (k_append (s_var (i := 5) rfl (vis_of rfl) rfl rfl) (a_cons rfl (s_met (df := (("law", none), "law.<locals>.<lambda>")) (k := k + 1) t.met rfl rfl c.k_met (by decide) (by kernel_rfl) ap hcode tb hrT (LamX.lamS_by (by kernel_rfl)) rfl (fun _ _ _ _ _ => by rfl) (fun A0 outer0 s0 H0 E0 f0 c0 hr1 => by
      have hr := hr1.mono (show k ≤ k + 1 by omega)
      have hu := room_hu hr
      exact s_me t.c24 hr (lamN_takes _ _ _ _ _ _ _ _ _) flatE (s_var (i := 3) rfl (vis_of rfl) rfl rfl) (a_cons rfl (s_int) (a_cons rfl (s_bin o_mul2 (s_str) (s_bin (o_add false) (s_int) (s_var (i := 2) rfl (vis_of rfl) rfl rfl))) (a_nil))) rfl rfl)) (a_nil)) rfl rfl rfl rfl) rfl) (j_cons (j_exp (k_append (s_var (i := 5) rfl (vis_of rfl) rfl rfl) (a_cons rfl (s_met (df := (("law", none), "law.<locals>.<lambda>")) (k := k + 1) t.met rfl rfl c.k_met (by decide) (by kernel_rfl) ap hcode tb hrT (LamX.lamS_by (by kernel_rfl)) rfl (fun _ _ _ _ _ => by rfl) (fun A0 outer0 s0 H0 E0 f0 c0 hr1 => by
      have hr := hr1.mono (show k ≤ k + 1 by omega)
      have hu := room_hu hr
      exact s_me t.c34 hr (lamN_takes _ _ _ _ _ _ _ _ _) flatE (s_var (i := 3) rfl (vis_of rfl) rfl rfl) (a_cons rfl (s_bin (o_add false) (s_str) (s_callTy c_str rfl c.f_str PyProof.Rows.Boot.«str» (a_cons rfl (s_var (i := 2) rfl (vis_of rfl) rfl rfl) (a_nil)) rfl (by decide) rfl)) (a_nil)) rfl rfl)) (a_nil)) rfl rfl rfl rfl) rfl) (j_cons (j_exp (k_append (s_var (i := 5) rfl (vis_of rfl) rfl rfl) (a_cons rfl (s_met (df := (("law", none), "law.<locals>.<lambda>")) (k := k + 1) t.met rfl rfl c.k_met (by decide) (by kernel_rfl) ap hcode tb hrT (LamX.lamS_by (by kernel_rfl)) rfl (fun _ _ _ _ _ => by rfl) (fun A0 outer0 s0 H0 E0 f0 c0 hr1 => by
      have hr := hr1.mono (show k ≤ k + 1 by omega)
      have hu := room_hu hr
      exact s_fn t.c51 hr (lamN_takes _ _ _ _ _ _ _ _ _) rfl (a_cons rfl (s_var (i := 3) rfl (vis_of rfl) rfl rfl) (a_cons rfl (s_lst (cell := false) (a_cons rfl (s_tup (a_cons rfl (s_str) (a_cons rfl (s_int) (a_cons rfl (s_bin o_mul2 (s_str) (s_bin (o_add false) (s_int) (s_var (i := 2) rfl (vis_of rfl) rfl rfl))) (a_nil))))) (a_nil))) (a_nil))) rfl rfl)) (a_nil)) rfl rfl rfl rfl) rfl) (j_cons (j_exp (k_append (s_var (i := 5) rfl (vis_of rfl) rfl rfl) (a_cons rfl (s_met (df := (("law", none), "law.<locals>.<lambda>")) (k := k + 1) t.met rfl rfl c.k_met (by decide) (by kernel_rfl) ap hcode tb hrT (LamX.lamS_by (by kernel_rfl)) rfl (fun _ _ _ _ _ => by rfl) (fun A0 outer0 s0 H0 E0 f0 c0 hr1 => by
      have hr := hr1.mono (show k ≤ k + 1 by omega)
      have hu := room_hu hr
      exact s_fn t.c58 hr (lamN_takes _ _ _ _ _ _ _ _ _) rfl (a_cons rfl (s_var (i := 3) rfl (vis_of rfl) rfl rfl) (a_cons rfl (s_bin (o_add false) (s_int) (s_var (i := 2) rfl (vis_of rfl) rfl rfl)) (a_nil))) rfl rfl)) (a_nil)) rfl rfl rfl rfl) rfl) (j_cons (j_exp (k_append (s_var (i := 5) rfl (vis_of rfl) rfl rfl) (a_cons rfl (s_met (df := (("law", none), "law.<locals>.<lambda>")) (k := k + 1) t.met rfl rfl c.k_met (by decide) (by kernel_rfl) ap hcode tb hrT (LamX.lamS_by (by kernel_rfl)) rfl (fun _ _ _ _ _ => by rfl) (fun A0 outer0 s0 H0 E0 f0 c0 hr1 => by
      have hr := hr1.mono (show k ≤ k + 1 by omega)
      have hu := room_hu hr
      exact s_me0 t.c30 hr (lamN_takes _ _ _ _ _ _ _ _ _) flatE (s_mk0 t.c8 hr1 (lamN_takes _ _ _ _ _ _ _ _ _) flatE rfl) rfl)) (a_nil)) rfl rfl rfl rfl) rfl) (j_cons (j_if (t_not (t_val (s_callB (c_all rfl) rfl c.f_all PyProof.Rows.Boot.«all» (a_cons rfl (s_lc (own := [("_law_at", 6), ("_law_e", 7)]) false rfl nd (i_enum rfl c.f_enumerate rfl (s_var (i := 5) rfl (vis_of rfl) rfl rfl)) (blkOk_by (by kernel_rfl)) (by decide) (fun _ _ _ _ _ => g_tp rfl (gs_cons (g_nm (i := 6) nd rfl (loc_of rfl) (.inr rfl)) (gs_cons (g_nm (i := 7) nd rfl (loc_of rfl) (.inr rfl)) (gs_nil) rfl) rfl) rfl rfl) (fun _ _ _ _ _ => ts_nil) (fun _ _ _ _ _ => s_fn t.c67 hr takesF rfl (a_cons rfl (s_var (i := 7) rfl (vis_of rfl) rfl rfl) (a_cons rfl (s_var (i := 6) rfl (vis_of rfl) rfl rfl) (a_nil))) rfl rfl) (fun _ => rfl)) (a_nil)) rfl (by decide) rfl) (fun _ => rfl))) (j_one (j_ret (s_bl))) (j_nil)) (j_one (j_if (PW.pt (w_or (t_cmp (o_ne (hu64 hu)) (s_xf t.met.ek (s_idx (hu1 hu) (s_var (i := 5) rfl (vis_of rfl) rfl rfl) (s_int) (fun _ _ => rfl)) rfl) (s_bin (o_add false) (s_int) (s_var (i := 2) rfl (vis_of rfl) rfl rfl)) (nomark _)) (w_or (t_cmp (o_ne (hu64 hu)) (s_xf t.met.ek (s_idx (hu1 hu) (s_var (i := 5) rfl (vis_of rfl) rfl rfl) (s_int) (fun _ _ => rfl)) rfl) (s_tup (a_cons rfl (s_str) (a_cons rfl (s_str) (a_cons rfl (s_str) (a_nil))))) (nomark _)) (w_or1 (t_cmp (o_ne (hu64 hu)) (s_xf t.met.ek (s_idx (hu1 hu) (s_var (i := 5) rfl (vis_of rfl) rfl rfl) (s_int) (fun _ _ => rfl)) rfl) (s_int) (nomark _)))))) (j_one (j_ret (s_bl))) (j_nil)))))))))))))))) (fun _ => rfl)) (j_one (j_ret (s_bl)))
end
section
variable {w : World} {K : PySem.W.Frag} {mg : Str → Option Value} {base : Heap} {f : Addr} {cdv : Value} {A : Around} {outer : List Env} {s : Shared} {H : Hp} {E : XK} {en : En} {k : Nat} {p : Addr × Obj} {x : Str} {d : Option Addr}
def wordB (a : Addr) (b0 b1 b2 b3 b4 b5 b6 b7 : Bool) : Sd := dSeq (dSet 1 (dLst false (dCons (dIsX a b0 (dVar 0)) (dCons (dIsX a b1 (dVar 0)) (dCons (dIsX a b2 (dVar 0)) (dCons (dIsX a b3 (dVar 0)) (dNil))))))) (dSeq (dSet 1 (dBin (addF true) (dVar 1) (dLst false (dCons (dIsX a b4 (dVar 0)) (dCons (dIsX a b5 (dVar 0)) (dCons (dIsX a b6 (dVar 0)) (dNil))))))) (dSeq (dExp (dMt tyL appendF (dVar 1) (dCons (dIsX a b7 (dVar 0)) (dNil)))) (dSeq (dSet 2 (dLst false (dCons (dCst (.str "NoOne")) (dCons (dCst (.str "Taken")) (dCons (dCst (.str "BadJournal")) (dCons (dCst (.str "BadName")) (dCons (dCst (.str "NoHouse")) (dCons (dCst (.str "BadRule")) (dCons (dCst (.str "BadTime")) (dCons (dCst (.str "Nothing")) (dNil))))))))))) (dSeq (dIfS (dOr (dTst (dBin neF (dCall sumF (dCons (dLcI (dVar 1)) (dNil))) (dCst (.int 1)))) (dNot (dTst (dIsX a true (dVar 0))))) (dRet (dTup (dCons (dCst (.str "refused")) (dCons (dCst (.str "other")) (dNil))))) (dNx)) (dRet (dTup (dCons (dCst (.str "refused")) (dCons (dBin idxF (dVar 2) (dMt tyL indexF (dVar 1) (dCons (dCst (.bl true)) (dNil)))) (dNil)))))))))
def wordC (a : Addr) (x : Str) : Sd := wordB a (decide (x = "NoOne")) (decide (x = "Taken")) (decide (x = "BadJournal")) (decide (x = "BadName")) (decide (x = "NoHouse")) (decide (x = "BadRule")) (decide (x = "BadTime")) (decide (x = "Nothing"))
def N_word : List Str := ["_law_e", "_law_flags", "_law_words", "_law_flag"]
abbrev X_word (w : World) (K : PySem.W.Frag) (mg : Str → Option Value) (base : Heap) (f : Addr) (cdv : Value) (A : Around) (outer : List Env) (s : Shared) (H : Hp) (E : XK) (p : Addr × Obj) : Cx := L2H.cxH (L2N.CX PP w) PP w K mg base N_word "_law_word" (defScope (top 58)) f cdv A outer s H E p
theorem nd_word : N_word.Nodup := by decide +kernel
theorem sc_word : FnScope N_word ["_law_e"] (defScope (top 58)) := C8.fnScope_by (by kernel_rfl)
theorem wk_word (c : Fx K mg) (ek : ExK K) (hx : x ∈ exAll) (hot : L2H.Hot1 A p) (hr : L2H.RoomH 0 (X_word w K mg base f cdv A outer s H E p).A) (hh : Held (X_word w K mg base f cdv A outer s H E p) p x d) : PSs (X_word w K mg base f cdv A outer s H E p) (defBody (top 58)) (tS K en WF (wordC p.1 x)) := by
  have nd := nd_word
  have hu : (X_word w K mg base f cdv A outer s H E p).A.units + 65 < cLine := by have := hr.un; omega
  have hc : L2H.HotC (X_word w K mg base f cdv A outer s H E p) := ⟨p, hot, by show p ∈ [p]; simp⟩
  have tk : L2N.Takes (X_word w K mg base f cdv A outer s H E p) WF := takesF
  show PSs (X_word w K mg base f cdv A outer s H E p) _ (tS K en WF (dSeq (dSet 1 (dLst false (dCons (dIsX p.1 (decide (x = "NoOne")) (dVar 0)) (dCons (dIsX p.1 (decide (x = "Taken")) (dVar 0)) (dCons (dIsX p.1 (decide (x = "BadJournal")) (dVar 0)) (dCons (dIsX p.1 (decide (x = "BadName")) (dVar 0)) (dNil))))))) (dSeq (dSet 1 (dBin (addF true) (dVar 1) (dLst false (dCons (dIsX p.1 (decide (x = "NoHouse")) (dVar 0)) (dCons (dIsX p.1 (decide (x = "BadRule")) (dVar 0)) (dCons (dIsX p.1 (decide (x = "BadTime")) (dVar 0)) (dNil))))))) (dSeq (dExp (dMt tyL appendF (dVar 1) (dCons (dIsX p.1 (decide (x = "Nothing")) (dVar 0)) (dNil)))) (dSeq (dSet 2 (dLst false (dCons (dCst (.str "NoOne")) (dCons (dCst (.str "Taken")) (dCons (dCst (.str "BadJournal")) (dCons (dCst (.str "BadName")) (dCons (dCst (.str "NoHouse")) (dCons (dCst (.str "BadRule")) (dCons (dCst (.str "BadTime")) (dCons (dCst (.str "Nothing")) (dNil))))))))))) (dSeq (dIfS (dOr (dTst (dBin neF (dCall sumF (dCons (dLcI (dVar 1)) (dNil))) (dCst (.int 1)))) (dNot (dTst (dIsX p.1 true (dVar 0))))) (dRet (dTup (dCons (dCst (.str "refused")) (dCons (dCst (.str "other")) (dNil))))) (dNx)) (dRet (dTup (dCons (dCst (.str "refused")) (dCons (dBin idxF (dVar 2) (dMt tyL indexF (dVar 1) (dCons (dCst (.bl true)) (dNil)))) (dNil)))))))))))
  exact j_cons (j_set (i := 1) nd rfl (loc_of rfl) (.inl rfl) (s_lst (cell := false) (a_cons rfl (s_isX ek hx (by decide) hh rfl c.f_isinstance rfl c.g_NoOne rfl rfl (s_var (i := 0) rfl (vis_of rfl) rfl rfl)) (a_cons rfl (s_isX ek hx (by decide) hh rfl c.f_isinstance rfl c.g_Taken rfl rfl (s_var (i := 0) rfl (vis_of rfl) rfl rfl)) (a_cons rfl (s_isX ek hx (by decide) hh rfl c.f_isinstance rfl c.g_BadJournal rfl rfl (s_var (i := 0) rfl (vis_of rfl) rfl rfl)) (a_cons rfl (s_isX ek hx (by decide) hh rfl c.f_isinstance rfl c.g_BadName rfl rfl (s_var (i := 0) rfl (vis_of rfl) rfl rfl)) (a_nil)))))) rfl) (j_cons (j_set (i := 1) nd rfl (loc_of rfl) (.inl rfl) (s_bin (o_add true) (s_var (i := 1) rfl (vis_of rfl) rfl rfl) (s_lst (cell := false) (a_cons rfl (s_isX ek hx (by decide) hh rfl c.f_isinstance rfl c.g_NoHouse rfl rfl (s_var (i := 0) rfl (vis_of rfl) rfl rfl)) (a_cons rfl (s_isX ek hx (by decide) hh rfl c.f_isinstance rfl c.g_BadRule rfl rfl (s_var (i := 0) rfl (vis_of rfl) rfl rfl)) (a_cons rfl (s_isX ek hx (by decide) hh rfl c.f_isinstance rfl c.g_BadTime rfl rfl (s_var (i := 0) rfl (vis_of rfl) rfl rfl)) (a_nil)))))) rfl) (j_cons (j_exp (k_append (s_var (i := 1) rfl (vis_of rfl) rfl rfl) (a_cons rfl (s_isX ek hx (by decide) hh rfl c.f_isinstance rfl c.g_Nothing rfl rfl (s_var (i := 0) rfl (vis_of rfl) rfl rfl)) (a_nil)) rfl rfl rfl rfl) rfl) (j_cons (j_set (i := 2) nd rfl (loc_of rfl) (.inl rfl) (s_lst (cell := false) (a_cons rfl (s_str) (a_cons rfl (s_str) (a_cons rfl (s_str) (a_cons rfl (s_str) (a_cons rfl (s_str) (a_cons rfl (s_str) (a_cons rfl (s_str) (a_cons rfl (s_str) (a_nil)))))))))) rfl) (j_cons (j_if (PW.pt (w_or (t_cmp (o_ne (hu64 hu)) (s_callB (c_sumH hc) rfl c.f_sum PyProof.Rows.Boot.«sum» (a_cons rfl (s_lcI hc (s_var (i := 1) rfl (vis_of rfl) rfl rfl) rfl (by decide +kernel) (by decide +kernel) (by decide +kernel) rfl (fun _ _ => rfl) (fun _ _ => rfl) (fun _ _ => rfl) c.f_int rfl (fun _ => rfl)) (a_nil)) rfl (by decide) rfl) (s_int) (nomark _)) (w_or1 (t_not (t_val (s_isV ek hx hh rfl c.f_isinstance rfl c.f_ValueError rfl (s_var (i := 0) rfl (vis_of rfl) rfl rfl)) (fun _ => rfl)))))) (j_one (j_ret (s_tup (a_cons rfl (s_str) (a_cons rfl (s_str) (a_nil)))))) (j_nil)) (j_one (j_ret (s_tup (a_cons rfl (s_str) (a_cons rfl (s_idx (hu1 hu) (s_var (i := 2) rfl (vis_of rfl) rfl rfl) (k_index (s_var (i := 1) rfl (vis_of rfl) rfl rfl) (a_cons rfl (s_bl) (a_nil)) rfl rfl rfl rfl) (fun _ _ => rfl)) (a_nil))))))))))
theorem cell_at (l : List Cell) (c : Cell) : (l ++ [c])[l.length]? = some c := by simp
theorem cell_set (l : List Cell) (c d : Cell) : (l ++ [c]).set l.length d = l ++ [d] := by simp
theorem wordB_0 (a : Addr) (en : En) (S : SH) : wordB a true false false false false false false false en [some (.adr a), none, none, none] S = .ret (.tup [.str "refused", .str "NoOne"]) (S ++ [⟨.lst [.bl true, .bl false, .bl false, .bl false, .bl false, .bl false, .bl false, .bl false], false⟩]) := by
  have z4 : (4 : Nat) ≤ sizeLine := by rw [sizeLine_eq]; omega
  simp [wordB, dSeq, dSet, dLst, dCons, dNil, dIsX, isEx, dVar, R.bind, liftS, mkL, dBin, addF, plL, ofO, dExp, dMt, tyL, rdL, lstAt, appendF, cell_at, cell_set, dIfS, dOr, dNot, dTst, dCall, dLcI, blsI, bInts, sumF, intsI, neF, eqS, dCst, bOf, indexF, flI, flIs, findK, eqV, dRet, dTup, dNx, sizeLine_eq]
  rfl
theorem wordB_1 (a : Addr) (en : En) (S : SH) : wordB a false true false false false false false false en [some (.adr a), none, none, none] S = .ret (.tup [.str "refused", .str "Taken"]) (S ++ [⟨.lst [.bl false, .bl true, .bl false, .bl false, .bl false, .bl false, .bl false, .bl false], false⟩]) := by
  have z4 : (4 : Nat) ≤ sizeLine := by rw [sizeLine_eq]; omega
  simp [wordB, dSeq, dSet, dLst, dCons, dNil, dIsX, isEx, dVar, R.bind, liftS, mkL, dBin, addF, plL, ofO, dExp, dMt, tyL, rdL, lstAt, appendF, cell_at, cell_set, dIfS, dOr, dNot, dTst, dCall, dLcI, blsI, bInts, sumF, intsI, neF, eqS, dCst, bOf, indexF, flI, flIs, findK, eqV, dRet, dTup, dNx, sizeLine_eq]
  rfl
theorem wordB_2 (a : Addr) (en : En) (S : SH) : wordB a false false true false false false false false en [some (.adr a), none, none, none] S = .ret (.tup [.str "refused", .str "BadJournal"]) (S ++ [⟨.lst [.bl false, .bl false, .bl true, .bl false, .bl false, .bl false, .bl false, .bl false], false⟩]) := by
  have z4 : (4 : Nat) ≤ sizeLine := by rw [sizeLine_eq]; omega
  simp [wordB, dSeq, dSet, dLst, dCons, dNil, dIsX, isEx, dVar, R.bind, liftS, mkL, dBin, addF, plL, ofO, dExp, dMt, tyL, rdL, lstAt, appendF, cell_at, cell_set, dIfS, dOr, dNot, dTst, dCall, dLcI, blsI, bInts, sumF, intsI, neF, eqS, dCst, bOf, indexF, flI, flIs, findK, eqV, dRet, dTup, dNx, sizeLine_eq]
  rfl
theorem wordB_3 (a : Addr) (en : En) (S : SH) : wordB a false false false true false false false false en [some (.adr a), none, none, none] S = .ret (.tup [.str "refused", .str "BadName"]) (S ++ [⟨.lst [.bl false, .bl false, .bl false, .bl true, .bl false, .bl false, .bl false, .bl false], false⟩]) := by
  have z4 : (4 : Nat) ≤ sizeLine := by rw [sizeLine_eq]; omega
  simp [wordB, dSeq, dSet, dLst, dCons, dNil, dIsX, isEx, dVar, R.bind, liftS, mkL, dBin, addF, plL, ofO, dExp, dMt, tyL, rdL, lstAt, appendF, cell_at, cell_set, dIfS, dOr, dNot, dTst, dCall, dLcI, blsI, bInts, sumF, intsI, neF, eqS, dCst, bOf, indexF, flI, flIs, findK, eqV, dRet, dTup, dNx, sizeLine_eq]
  rfl
theorem wordB_4 (a : Addr) (en : En) (S : SH) : wordB a false false false false true false false false en [some (.adr a), none, none, none] S = .ret (.tup [.str "refused", .str "NoHouse"]) (S ++ [⟨.lst [.bl false, .bl false, .bl false, .bl false, .bl true, .bl false, .bl false, .bl false], false⟩]) := by
  have z4 : (4 : Nat) ≤ sizeLine := by rw [sizeLine_eq]; omega
  simp [wordB, dSeq, dSet, dLst, dCons, dNil, dIsX, isEx, dVar, R.bind, liftS, mkL, dBin, addF, plL, ofO, dExp, dMt, tyL, rdL, lstAt, appendF, cell_at, cell_set, dIfS, dOr, dNot, dTst, dCall, dLcI, blsI, bInts, sumF, intsI, neF, eqS, dCst, bOf, indexF, flI, flIs, findK, eqV, dRet, dTup, dNx, sizeLine_eq]
  rfl
theorem wordB_5 (a : Addr) (en : En) (S : SH) : wordB a false false false false false true false false en [some (.adr a), none, none, none] S = .ret (.tup [.str "refused", .str "BadRule"]) (S ++ [⟨.lst [.bl false, .bl false, .bl false, .bl false, .bl false, .bl true, .bl false, .bl false], false⟩]) := by
  have z4 : (4 : Nat) ≤ sizeLine := by rw [sizeLine_eq]; omega
  simp [wordB, dSeq, dSet, dLst, dCons, dNil, dIsX, isEx, dVar, R.bind, liftS, mkL, dBin, addF, plL, ofO, dExp, dMt, tyL, rdL, lstAt, appendF, cell_at, cell_set, dIfS, dOr, dNot, dTst, dCall, dLcI, blsI, bInts, sumF, intsI, neF, eqS, dCst, bOf, indexF, flI, flIs, findK, eqV, dRet, dTup, dNx, sizeLine_eq]
  rfl
theorem wordB_6 (a : Addr) (en : En) (S : SH) : wordB a false false false false false false true false en [some (.adr a), none, none, none] S = .ret (.tup [.str "refused", .str "BadTime"]) (S ++ [⟨.lst [.bl false, .bl false, .bl false, .bl false, .bl false, .bl false, .bl true, .bl false], false⟩]) := by
  have z4 : (4 : Nat) ≤ sizeLine := by rw [sizeLine_eq]; omega
  simp [wordB, dSeq, dSet, dLst, dCons, dNil, dIsX, isEx, dVar, R.bind, liftS, mkL, dBin, addF, plL, ofO, dExp, dMt, tyL, rdL, lstAt, appendF, cell_at, cell_set, dIfS, dOr, dNot, dTst, dCall, dLcI, blsI, bInts, sumF, intsI, neF, eqS, dCst, bOf, indexF, flI, flIs, findK, eqV, dRet, dTup, dNx, sizeLine_eq]
  rfl
theorem wordB_7 (a : Addr) (en : En) (S : SH) : wordB a false false false false false false false true en [some (.adr a), none, none, none] S = .ret (.tup [.str "refused", .str "Nothing"]) (S ++ [⟨.lst [.bl false, .bl false, .bl false, .bl false, .bl false, .bl false, .bl false, .bl true], false⟩]) := by
  have z4 : (4 : Nat) ≤ sizeLine := by rw [sizeLine_eq]; omega
  simp [wordB, dSeq, dSet, dLst, dCons, dNil, dIsX, isEx, dVar, R.bind, liftS, mkL, dBin, addF, plL, ofO, dExp, dMt, tyL, rdL, lstAt, appendF, cell_at, cell_set, dIfS, dOr, dNot, dTst, dCall, dLcI, blsI, bInts, sumF, intsI, neF, eqS, dCst, bOf, indexF, flI, flIs, findK, eqV, dRet, dTup, dNx, sizeLine_eq]
  rfl
theorem wordC_run (a : Addr) (x : Str) (hx : x ∈ exAll) (en : En) (S : SH) : wordC a x en (some (.adr a) :: List.replicate (N_word.length - 1) none) S = .ret (wordIV x) (wordS x S) := by
  simp only [exAll, List.mem_cons, List.not_mem_nil, or_false] at hx
  rcases hx with rfl | rfl | rfl | rfl | rfl | rfl | rfl | rfl
  · exact (show wordC a "NoOne" en (some (.adr a) :: List.replicate (N_word.length - 1) none) S = wordB a true false false false false false false false en [some (.adr a), none, none, none] S by kernel_rfl).trans ((wordB_0 a en S).trans (by kernel_rfl))
  · exact (show wordC a "Taken" en (some (.adr a) :: List.replicate (N_word.length - 1) none) S = wordB a false true false false false false false false en [some (.adr a), none, none, none] S by kernel_rfl).trans ((wordB_1 a en S).trans (by kernel_rfl))
  · exact (show wordC a "BadJournal" en (some (.adr a) :: List.replicate (N_word.length - 1) none) S = wordB a false false true false false false false false en [some (.adr a), none, none, none] S by kernel_rfl).trans ((wordB_2 a en S).trans (by kernel_rfl))
  · exact (show wordC a "BadName" en (some (.adr a) :: List.replicate (N_word.length - 1) none) S = wordB a false false false true false false false false en [some (.adr a), none, none, none] S by kernel_rfl).trans ((wordB_3 a en S).trans (by kernel_rfl))
  · exact (show wordC a "NoHouse" en (some (.adr a) :: List.replicate (N_word.length - 1) none) S = wordB a false false false false true false false false en [some (.adr a), none, none, none] S by kernel_rfl).trans ((wordB_4 a en S).trans (by kernel_rfl))
  · exact (show wordC a "BadRule" en (some (.adr a) :: List.replicate (N_word.length - 1) none) S = wordB a false false false false false true false false en [some (.adr a), none, none, none] S by kernel_rfl).trans ((wordB_5 a en S).trans (by kernel_rfl))
  · exact (show wordC a "BadTime" en (some (.adr a) :: List.replicate (N_word.length - 1) none) S = wordB a false false false false false false true false en [some (.adr a), none, none, none] S by kernel_rfl).trans ((wordB_6 a en S).trans (by kernel_rfl))
  · exact (show wordC a "Nothing" en (some (.adr a) :: List.replicate (N_word.length - 1) none) S = wordB a false false false false false false false true en [some (.adr a), none, none, none] S by kernel_rfl).trans ((wordB_7 a en S).trans (by kernel_rfl))
end
section
variable {w : World} {K : PySem.W.Frag} {h : Heap} {mg : Str → Option Value} {base : Heap}
theorem toldK (X : K.In h) (G : h.Ns mainGlobals mg) (c : Fx K mg) (s : He.SaysX fa fn ts tf ex w h K) (ek : ExK K) : CalleeTK PP w K mg base 1 "_law_told" := by
  obtain ⟨fdW, FW⟩ := s.t.d.def_ 69 (d := dd ("_law_word", none) "_law_word" "_law_word" (top 58)) rfl
  obtain ⟨fdT, FT⟩ := s.t.d.def_ 70 (d := dd ("_law_told", none) "_law_told" "_law_told" (top 59)) rfl
  have gW : mg "_law_word" = some (.ref (He.fAd K ("_law_word", none))) := He.glo_ok X G (s.t.d.fact 97 (f := .glo "_law_word") rfl)
  have gT : mg "_law_told" = some (.ref (He.fAd K ("_law_told", none))) := He.glo_ok X G (s.t.d.fact 98 (f := .glo "_law_told") rfl)
  have cl : ∀ x ∈ (["NoOne", "Taken", "BadJournal", "RoofError"] : List Str), mg x = some (.ref (He.ga K x)) := fun x hx => by
    simp only [List.mem_cons, List.not_mem_nil, or_false] at hx
    rcases hx with rfl | rfl | rfl | rfl
    · exact c.g_NoOne
    · exact c.g_Taken
    · exact c.g_BadJournal
    · exact c.g_RoofError
  have bW : L2.Binds K fdW ["_law_e"] [] := FunD.bindsN (ps := ["_law_e"]) FW (fun _ _ _ _ _ _ us hl => match us, hl with | [_], _ => rfl)
  have bT : L2.Binds K fdT ["_law_deed"] [] := FunD.bindsN (ps := ["_law_deed"]) FT (fun _ _ _ _ _ _ us hl => match us, hl with | [_], _ => rfl)
  have wd : CalleeWK PP w K mg base 1 "_law_word" := ⟨_, fdW, fnW_of (k := 0) FW sc_word bW (fun cdv A outer s H E p x d hx hot hr hh => ⟨wordC p.1 x, ⟨fun _ _ _ => .bad, 0⟩, wk_word c ek hx hot hr hh, fun S => wordC_run p.1 x hx _ S⟩), gW, FW.kp⟩
  exact ⟨ek, cl, wd, gT, fdT, _, _, _, "_law_deed", "_law_e", FT, bT, C8.fnScope_by (by kernel_rfl), vis_of rfl, rfl, rfl, rfl, rfl, rfl, rfl, rfl, rfl, rfl, rfl, _, _, _, _, _, _, _, _, _, _, _, _, _, _, _, _, _, _, _, _, _, _, _, _, _, _, _, _, _, _, _, _, _, _, _, _, _, _, _, _, _, _, _, rfl⟩
theorem metK (X : K.In h) (G : h.Ns mainGlobals mg) (c : Fx K mg) (s : He.SaysX fa fn ts tf ex w h K) (ek : ExK K) : CalleeRK PP w K mg base "_law_met" := by
  obtain ⟨fdT, FT⟩ := s.t.d.def_ 72 (d := dd ("_law_met", none) "_law_met" "_law_met" (top 61)) rfl
  have gT : mg "_law_met" = some (.ref (He.fAd K ("_law_met", none))) := He.glo_ok X G (s.t.d.fact 100 (f := .glo "_law_met") rfl)
  have bT : L2.Binds K fdT ["_law_deed"] [] := FunD.bindsN (ps := ["_law_deed"]) FT (fun _ _ _ _ _ _ us hl => match us, hl with | [_], _ => rfl)
  exact ⟨ek, c.g_RoofError, gT, fdT, _, _, _, "_law_deed", "_law_e", FT, bT, C8.fnScope_by (by kernel_rfl), vis_of rfl, rfl, rfl, rfl, rfl, rfl, rfl, _, _, _, _, _, _, _, _, _, _, _, rfl⟩
theorem in_NoOne (c : Fx K mg) (s : He.SaysX fa fn ts tf ex w h K) : CalleeXK PP w K mg base 1 "NoOne" := by
  obtain ⟨fd, F⟩ := s.t.d.def_ 1 (d := dd ("NoOne", some "__init__") "NoOne.__init__" "__init__" (inClass (top 3) 0) [] []) rfl
  have sc : FnScope ["self", "who"] ["self", "who"] (defScope (inClass (top 3) 0)) := C8.fnScope_by (by kernel_rfl)
  have b : L2.Binds K fd ["self", "who"] [] := FunD.bindsN (ps := ["self", "who"]) F (fun _ _ _ _ _ _ us hl => match us, hl with | [_, _], _ => rfl)
  refine ⟨c.fl _ (by decide), c.g_NoOne, fd, "self", "who", ?_, b⟩
  refine FunD.ok (k := 0) (CX := L2N.CX PP w) F sc (fun vs H Q E ⟨a, y, e, _⟩ => by rw [e]; rfl) (fun cdv A outer s H vs Q E hr ⟨a, y, ev, e, q⟩ => ⟨_, pss_cons (ps_expr (pe_rinit c.rf rfl c.g_RoofError (pa_cons (pe_var (i := 0) rfl (vis_of rfl)) (pa_cons pe_str pa_nil)) ⟨_, rfl⟩ rfl rfl) rfl) (pss_one (ps_ost (pe_var (i := 0) rfl (vis_of rfl)) (pe_var (i := 1) rfl (vis_of rfl)))), ?_⟩)
  subst ev
  exact ⟨_, rfl, a, _, _, rfl, by simp, (c.fl "NoOne" (by decide)).oex, e, _, rfl, _, rfl, a, _, rfl, (c.fl "NoOne" (by decide)).oex, (c.fl "NoOne" (by decide)).fld, .inl ⟨e, q⟩⟩
theorem in_Taken (c : Fx K mg) (s : He.SaysX fa fn ts tf ex w h K) : CalleeXK PP w K mg base 1 "Taken" := by
  obtain ⟨fd, F⟩ := s.t.d.def_ 2 (d := dd ("Taken", some "__init__") "Taken.__init__" "__init__" (inClass (top 4) 0) [] []) rfl
  have sc : FnScope ["self", "taken"] ["self", "taken"] (defScope (inClass (top 4) 0)) := C8.fnScope_by (by kernel_rfl)
  have b : L2.Binds K fd ["self", "taken"] [] := FunD.bindsN (ps := ["self", "taken"]) F (fun _ _ _ _ _ _ us hl => match us, hl with | [_, _], _ => rfl)
  refine ⟨c.fl _ (by decide), c.g_Taken, fd, "self", "taken", ?_, b⟩
  refine FunD.ok (k := 0) (CX := L2N.CX PP w) F sc (fun vs H Q E ⟨a, y, e, _⟩ => by rw [e]; rfl) (fun cdv A outer s H vs Q E hr ⟨a, y, ev, e, q⟩ => ⟨_, pss_cons (ps_expr (pe_rinit c.rf rfl c.g_RoofError (pa_cons (pe_var (i := 0) rfl (vis_of rfl)) (pa_cons pe_str pa_nil)) ⟨_, rfl⟩ rfl rfl) rfl) (pss_one (ps_ost (pe_var (i := 0) rfl (vis_of rfl)) (pe_var (i := 1) rfl (vis_of rfl)))), ?_⟩)
  subst ev
  exact ⟨_, rfl, a, _, _, rfl, by simp, (c.fl "Taken" (by decide)).oex, e, _, rfl, _, rfl, a, _, rfl, (c.fl "Taken" (by decide)).oex, (c.fl "Taken" (by decide)).fld, .inl ⟨e, q⟩⟩
theorem in_BadJournal (c : Fx K mg) (s : He.SaysX fa fn ts tf ex w h K) : CalleeXK PP w K mg base 1 "BadJournal" := by
  obtain ⟨fd, F⟩ := s.t.d.def_ 3 (d := dd ("BadJournal", some "__init__") "BadJournal.__init__" "__init__" (inClass (top 5) 0) [] []) rfl
  have sc : FnScope ["self", "row"] ["self", "row"] (defScope (inClass (top 5) 0)) := C8.fnScope_by (by kernel_rfl)
  have b : L2.Binds K fd ["self", "row"] [] := FunD.bindsN (ps := ["self", "row"]) F (fun _ _ _ _ _ _ us hl => match us, hl with | [_, _], _ => rfl)
  refine ⟨c.fl _ (by decide), c.g_BadJournal, fd, "self", "row", ?_, b⟩
  refine FunD.ok (k := 0) (CX := L2N.CX PP w) F sc (fun vs H Q E ⟨a, y, e, _⟩ => by rw [e]; rfl) (fun cdv A outer s H vs Q E hr ⟨a, y, ev, e, q⟩ => ⟨_, pss_cons (ps_expr (pe_rinit c.rf rfl c.g_RoofError (pa_cons (pe_var (i := 0) rfl (vis_of rfl)) (pa_cons pe_str pa_nil)) ⟨_, rfl⟩ rfl rfl) rfl) (pss_one (ps_ost (pe_var (i := 0) rfl (vis_of rfl)) (pe_var (i := 1) rfl (vis_of rfl)))), ?_⟩)
  subst ev
  exact ⟨_, rfl, a, _, _, rfl, by simp, (c.fl "BadJournal" (by decide)).oex, e, _, rfl, _, rfl, a, _, rfl, (c.fl "BadJournal" (by decide)).oex, (c.fl "BadJournal" (by decide)).fld, .inl ⟨e, q⟩⟩
theorem tb_of (X : K.In h) (G : h.Ns mainGlobals mg) (c : Fx K mg) (s : He.SaysX fa fn ts tf ex w h K) (ek : ExK K) (sz : SzK K w) (ap : tabsApart K = true) (TB : ∀ p ∈ tf, LamX.TabB base mg (He.cT K p).1 (He.cT K p).2) : ∀ l, Tb w K mg base (enAt fs 100000 l) (4 * l)
  | 0 => {
    told := toldK X G c s ek
    met := metK X G c s ek
    sz := sz
    x_NoOne := in_NoOne c s
    x_Taken := in_Taken c s
    x_BadJournal := in_BadJournal c s
    c0 := ⟨_, _, ["k"], fn_bad (ps := ["k"]) rfl (fun _ _ => rfl), FunD.bindsN (ps := ["k"]) (s.t.d.def_ 0 (d := dd ("_wall", none) "_wall" "_wall" (top 0)) rfl).choose_spec (fun _ _ _ _ _ _ us hl => match us, hl with | [_], _ => rfl), He.glo_ok X G (s.t.d.fact 0 (f := .glo "_wall") rfl), (s.t.d.def_ 0 (d := dd ("_wall", none) "_wall" "_wall" (top 0)) rfl).choose_spec.kp⟩
    c1 := ⟨_, _, ["thing"], fn_bad (ps := ["thing"]) rfl (fun _ _ => rfl), FunD.bindsN (ps := ["thing"]) (s.t.d.def_ 4 (d := dd ("is_word", none) "is_word" "is_word" (top 16)) rfl).choose_spec (fun _ _ _ _ _ _ us hl => match us, hl with | [_], _ => rfl), He.glo_ok X G (s.t.d.fact 19 (f := .glo "is_word") rfl), (s.t.d.def_ 4 (d := dd ("is_word", none) "is_word" "is_word" (top 16)) rfl).choose_spec.kp⟩
    c2 := ⟨_, _, ["thing"], fn_bad (ps := ["thing"]) rfl (fun _ _ => rfl), FunD.bindsN (ps := ["thing"]) (s.t.d.def_ 5 (d := dd ("is_kind", none) "is_kind" "is_kind" (top 17)) rfl).choose_spec (fun _ _ _ _ _ _ us hl => match us, hl with | [_], _ => rfl), He.glo_ok X G (s.t.d.fact 20 (f := .glo "is_kind") rfl), (s.t.d.def_ 5 (d := dd ("is_kind", none) "is_kind" "is_kind" (top 17)) rfl).choose_spec.kp⟩
    c3 := ⟨_, _, ["thing"], fn_bad (ps := ["thing"]) rfl (fun _ _ => rfl), FunD.bindsN (ps := ["thing"]) (s.t.d.def_ 6 (d := dd ("is_name", none) "is_name" "is_name" (top 18)) rfl).choose_spec (fun _ _ _ _ _ _ us hl => match us, hl with | [_], _ => rfl), He.glo_ok X G (s.t.d.fact 21 (f := .glo "is_name") rfl), (s.t.d.def_ 6 (d := dd ("is_name", none) "is_name" "is_name" (top 18)) rfl).choose_spec.kp⟩
    c4 := ⟨_, _, ["thing"], fn_bad (ps := ["thing"]) rfl (fun _ _ => rfl), FunD.bindsN (ps := ["thing"]) (s.t.d.def_ 7 (d := dd ("need_word", none) "need_word" "need_word" (top 19)) rfl).choose_spec (fun _ _ _ _ _ _ us hl => match us, hl with | [_], _ => rfl), He.glo_ok X G (s.t.d.fact 22 (f := .glo "need_word") rfl), (s.t.d.def_ 7 (d := dd ("need_word", none) "need_word" "need_word" (top 19)) rfl).choose_spec.kp⟩
    c5 := ⟨_, _, ["thing"], fn_bad (ps := ["thing"]) rfl (fun _ _ => rfl), FunD.bindsN (ps := ["thing"]) (s.t.d.def_ 8 (d := dd ("need_name", none) "need_name" "need_name" (top 20)) rfl).choose_spec (fun _ _ _ _ _ _ us hl => match us, hl with | [_], _ => rfl), He.glo_ok X G (s.t.d.fact 23 (f := .glo "need_name") rfl), (s.t.d.def_ 8 (d := dd ("need_name", none) "need_name" "need_name" (top 20)) rfl).choose_spec.kp⟩
    c6 := ⟨_, _, ["word", "number"], fn_bad (ps := ["word", "number"]) rfl (fun _ _ => rfl), FunD.bindsN (ps := ["word", "number"]) (s.t.d.def_ 9 (d := dd ("with_number", none) "with_number" "with_number" (top 21)) rfl).choose_spec (fun _ _ _ _ _ _ us hl => match us, hl with | [_, _], _ => rfl), He.glo_ok X G (s.t.d.fact 24 (f := .glo "with_number") rfl), (s.t.d.def_ 9 (d := dd ("with_number", none) "with_number" "with_number" (top 21)) rfl).choose_spec.kp⟩
    c7 := ⟨_, _, ["thing"], fn_bad (ps := ["thing"]) rfl (fun _ _ => rfl), FunD.bindsN (ps := ["thing"]) (s.t.d.def_ 10 (d := dd ("is_whole", none) "is_whole" "is_whole" (top 25)) rfl).choose_spec (fun _ _ _ _ _ _ us hl => match us, hl with | [_], _ => rfl), He.glo_ok X G (s.t.d.fact 25 (f := .glo "is_whole") rfl), (s.t.d.def_ 10 (d := dd ("is_whole", none) "is_whole" "is_whole" (top 25)) rfl).choose_spec.kp⟩
    c8 := ⟨⟨_, _, ["self"], fn_bad (ps := ["self"]) rfl (fun _ _ => rfl), FunD.bindsN (ps := ["self"]) (s.t.d.def_ 11 (d := dd ("Roof", some "__init__") "Roof.__init__" "__init__" (inClass (top 26) 0) [] []) rfl).choose_spec (fun _ _ _ _ _ _ us hl => match us, hl with | [_], _ => rfl), He.mkr_ok (s.t.d.fact 64 (f := .mkr "Roof") rfl)⟩, c.g_Roof⟩
    c9 := ⟨⟨_, _, ["self", "other"], fn_bad (ps := ["self", "other"]) rfl (fun _ _ => rfl), FunD.bindsN (ps := ["self", "other"]) (s.t.d.def_ 12 (d := dd ("Roof", some "__eq__") "Roof.__eq__" "__eq__" (inClass (top 26) 1) [] []) rfl).choose_spec (fun _ _ _ _ _ _ us hl => match us, hl with | [_, _], _ => rfl), He.meth_ok (s.t.d.fact 29 (f := .meth "Roof" "__eq__") rfl)⟩, c.cls⟩
    c10 := ⟨⟨_, _, ["self"], fn_bad (ps := ["self"]) rfl (fun _ _ => rfl), FunD.bindsN (ps := ["self"]) (s.t.d.def_ 13 (d := dd ("Roof", some "state") "Roof.state" "state" (inClass (top 26) 2) [] []) rfl).choose_spec (fun _ _ _ _ _ _ us hl => match us, hl with | [_], _ => rfl), He.meth_ok (s.t.d.fact 30 (f := .meth "Roof" "state") rfl)⟩, c.cls⟩
    c11 := ⟨⟨_, _, ["self", "row"], fn_bad (ps := ["self", "row"]) rfl (fun _ _ => rfl), FunD.bindsN (ps := ["self", "row"]) (s.t.d.def_ 14 (d := dd ("Roof", some "begin") "Roof.begin" "begin" (inClass (top 26) 3) [] []) rfl).choose_spec (fun _ _ _ _ _ _ us hl => match us, hl with | [_, _], _ => rfl), He.meth_ok (s.t.d.fact 31 (f := .meth "Roof" "begin") rfl)⟩, c.cls⟩
    c12 := ⟨⟨_, _, ["self", "house"], fn_bad (ps := ["self", "house"]) rfl (fun _ _ => rfl), FunD.bindsN (ps := ["self", "house"]) (s.t.d.def_ 15 (d := dd ("Roof", some "need_house") "Roof.need_house" "need_house" (inClass (top 26) 4) [] []) rfl).choose_spec (fun _ _ _ _ _ _ us hl => match us, hl with | [_, _], _ => rfl), He.meth_ok (s.t.d.fact 32 (f := .meth "Roof" "need_house") rfl)⟩, c.cls⟩
    c13 := ⟨⟨_, _, ["self", "house", "other"], fn_bad (ps := ["self", "house", "other"]) rfl (fun _ _ => rfl), FunD.bindsN (ps := ["self", "house", "other"]) (s.t.d.def_ 16 (d := dd ("Roof", some "need_two") "Roof.need_two" "need_two" (inClass (top 26) 5) [] []) rfl).choose_spec (fun _ _ _ _ _ _ us hl => match us, hl with | [_, _, _], _ => rfl), He.meth_ok (s.t.d.fact 33 (f := .meth "Roof" "need_two") rfl)⟩, c.cls⟩
    c14 := ⟨⟨_, _, ["self", "who"], fn_bad (ps := ["self", "who"]) rfl (fun _ _ => rfl), FunD.bindsN (ps := ["self", "who"]) (s.t.d.def_ 17 (d := dd ("Roof", some "need_one") "Roof.need_one" "need_one" (inClass (top 26) 6) [] []) rfl).choose_spec (fun _ _ _ _ _ _ us hl => match us, hl with | [_, _], _ => rfl), He.meth_ok (s.t.d.fact 34 (f := .meth "Roof" "need_one") rfl)⟩, c.cls⟩
    c15 := ⟨⟨_, _, ["self", "who"], fn_bad (ps := ["self", "who"]) rfl (fun _ _ => rfl), FunD.bindsN (ps := ["self", "who"]) (s.t.d.def_ 18 (d := dd ("Roof", some "need_group") "Roof.need_group" "need_group" (inClass (top 26) 7) [] []) rfl).choose_spec (fun _ _ _ _ _ _ us hl => match us, hl with | [_, _], _ => rfl), He.meth_ok (s.t.d.fact 35 (f := .meth "Roof" "need_group") rfl)⟩, c.cls⟩
    c16 := ⟨⟨_, _, ["self", "name"], fn_bad (ps := ["self", "name"]) rfl (fun _ _ => rfl), FunD.bindsN (ps := ["self", "name"]) (s.t.d.def_ 19 (d := dd ("Roof", some "one_of") "Roof.one_of" "one_of" (inClass (top 26) 8) [] []) rfl).choose_spec (fun _ _ _ _ _ _ us hl => match us, hl with | [_, _], _ => rfl), He.meth_ok (s.t.d.fact 36 (f := .meth "Roof" "one_of") rfl)⟩, c.cls⟩
    c17 := ⟨⟨_, _, ["self", "name"], fn_bad (ps := ["self", "name"]) rfl (fun _ _ => rfl), FunD.bindsN (ps := ["self", "name"]) (s.t.d.def_ 20 (d := dd ("Roof", some "need_free") "Roof.need_free" "need_free" (inClass (top 26) 9) [] []) rfl).choose_spec (fun _ _ _ _ _ _ us hl => match us, hl with | [_, _], _ => rfl), He.meth_ok (s.t.d.fact 37 (f := .meth "Roof" "need_free") rfl)⟩, c.cls⟩
    c18 := ⟨⟨_, _, ["self", "house"], fn_bad (ps := ["self", "house"]) rfl (fun _ _ => rfl), FunD.bindsN (ps := ["self", "house"]) (s.t.d.def_ 21 (d := dd ("Roof", some "new_span") "Roof.new_span" "new_span" (inClass (top 26) 10) [] []) rfl).choose_spec (fun _ _ _ _ _ _ us hl => match us, hl with | [_, _], _ => rfl), He.meth_ok (s.t.d.fact 38 (f := .meth "Roof" "new_span") rfl)⟩, c.cls⟩
    c19 := ⟨⟨_, _, ["self", "house"], fn_bad (ps := ["self", "house"]) rfl (fun _ _ => rfl), FunD.bindsN (ps := ["self", "house"]) (s.t.d.def_ 22 (d := dd ("Roof", some "found") "Roof.found" "found" (inClass (top 26) 11) [] []) rfl).choose_spec (fun _ _ _ _ _ _ us hl => match us, hl with | [_, _], _ => rfl), He.meth_ok (s.t.d.fact 39 (f := .meth "Roof" "found") rfl)⟩, c.cls⟩
    c20 := ⟨⟨_, _, ["self", "kind", "word", "house"], fn_bad (ps := ["self", "kind", "word", "house"]) rfl (fun _ _ => rfl), FunD.bindsN (ps := ["self", "kind", "word", "house"]) (s.t.d.def_ 23 (d := dd ("Roof", some "come") "Roof.come" "come" (inClass (top 26) 12) [] []) rfl).choose_spec (fun _ _ _ _ _ _ us hl => match us, hl with | [_, _, _, _], _ => rfl), He.meth_ok (s.t.d.fact 40 (f := .meth "Roof" "come") rfl)⟩, c.cls⟩
    c21 := ⟨⟨_, _, ["self", "who"], fn_bad (ps := ["self", "who"]) rfl (fun _ _ => rfl), FunD.bindsN (ps := ["self", "who"]) (s.t.d.def_ 24 (d := dd ("Roof", some "go") "Roof.go" "go" (inClass (top 26) 13) [] []) rfl).choose_spec (fun _ _ _ _ _ _ us hl => match us, hl with | [_, _], _ => rfl), He.meth_ok (s.t.d.fact 41 (f := .meth "Roof" "go") rfl)⟩, c.cls⟩
    c22 := ⟨⟨_, _, ["self", "who", "group"], fn_bad (ps := ["self", "who", "group"]) rfl (fun _ _ => rfl), FunD.bindsN (ps := ["self", "who", "group"]) (s.t.d.def_ 25 (d := dd ("Roof", some "put_in") "Roof.put_in" "put_in" (inClass (top 26) 14) [] []) rfl).choose_spec (fun _ _ _ _ _ _ us hl => match us, hl with | [_, _, _], _ => rfl), He.meth_ok (s.t.d.fact 42 (f := .meth "Roof" "put_in") rfl)⟩, c.cls⟩
    c23 := ⟨⟨_, _, ["self", "who", "group"], fn_bad (ps := ["self", "who", "group"]) rfl (fun _ _ => rfl), FunD.bindsN (ps := ["self", "who", "group"]) (s.t.d.def_ 26 (d := dd ("Roof", some "take_out") "Roof.take_out" "take_out" (inClass (top 26) 15) [] []) rfl).choose_spec (fun _ _ _ _ _ _ us hl => match us, hl with | [_, _, _], _ => rfl), He.meth_ok (s.t.d.fact 43 (f := .meth "Roof" "take_out") rfl)⟩, c.cls⟩
    c24 := ⟨⟨_, _, ["self", "who", "word"], fn_bad (ps := ["self", "who", "word"]) rfl (fun _ _ => rfl), FunD.bindsN (ps := ["self", "who", "word"]) (s.t.d.def_ 27 (d := dd ("Roof", some "call") "Roof.call" "call" (inClass (top 26) 16) [] []) rfl).choose_spec (fun _ _ _ _ _ _ us hl => match us, hl with | [_, _, _], _ => rfl), He.meth_ok (s.t.d.fact 44 (f := .meth "Roof" "call") rfl)⟩, c.cls⟩
    c25 := ⟨⟨_, _, ["self", "who", "house", "word"], fn_bad (ps := ["self", "who", "house", "word"]) rfl (fun _ _ => rfl), He.meth_ok (s.t.d.fact 45 (f := .meth "Roof" "move") rfl), kk_of (n := 3) (ps := ["self", "who", "house", "word"]) (s.t.d.def_ 28 (d := dd ("Roof", some "move") "Roof.move" "move" (inClass (top 26) 17) [] [("word", .non)]) rfl).choose_spec rfl (fun _ _ _ _ _ _ us ws l1 l2 => match us, ws, l1, l2 with | [_, _, _], [_], _, _ => rfl) (fun _ _ _ _ _ _ us ks l1 l2 => match us, ks, l1, l2 with | [_, _, _], [_], _, _ => ⟨_, _, _, _, _, _, rfl, rfl, rfl⟩)⟩, c.cls⟩
    c26 := ⟨⟨_, _, ["self", "kind", "word", "house"], fn_bad (ps := ["self", "kind", "word", "house"]) rfl (fun _ _ => rfl), FunD.bindsN (ps := ["self", "kind", "word", "house"]) (s.t.d.def_ 29 (d := dd ("Roof", some "free_word") "Roof.free_word" "free_word" (inClass (top 26) 18) [] []) rfl).choose_spec (fun _ _ _ _ _ _ us hl => match us, hl with | [_, _, _, _], _ => rfl), He.meth_ok (s.t.d.fact 46 (f := .meth "Roof" "free_word") rfl)⟩, c.cls⟩
    c27 := ⟨⟨_, _, ["self", "house", "other"], fn_bad (ps := ["self", "house", "other"]) rfl (fun _ _ => rfl), FunD.bindsN (ps := ["self", "house", "other"]) (s.t.d.def_ 30 (d := dd ("Roof", some "merge") "Roof.merge" "merge" (inClass (top 26) 19) [] []) rfl).choose_spec (fun _ _ _ _ _ _ us hl => match us, hl with | [_, _, _], _ => rfl), He.meth_ok (s.t.d.fact 47 (f := .meth "Roof" "merge") rfl)⟩, c.cls⟩
    c28 := ⟨⟨_, _, ["self", "house", "other"], fn_bad (ps := ["self", "house", "other"]) rfl (fun _ _ => rfl), FunD.bindsN (ps := ["self", "house", "other"]) (s.t.d.def_ 31 (d := dd ("Roof", some "trust") "Roof.trust" "trust" (inClass (top 26) 20) [] []) rfl).choose_spec (fun _ _ _ _ _ _ us hl => match us, hl with | [_, _, _], _ => rfl), He.meth_ok (s.t.d.fact 48 (f := .meth "Roof" "trust") rfl)⟩, c.cls⟩
    c29 := ⟨⟨_, _, ["self", "house", "other"], fn_bad (ps := ["self", "house", "other"]) rfl (fun _ _ => rfl), FunD.bindsN (ps := ["self", "house", "other"]) (s.t.d.def_ 32 (d := dd ("Roof", some "mistrust") "Roof.mistrust" "mistrust" (inClass (top 26) 21) [] []) rfl).choose_spec (fun _ _ _ _ _ _ us hl => match us, hl with | [_, _, _], _ => rfl), He.meth_ok (s.t.d.fact 49 (f := .meth "Roof" "mistrust") rfl)⟩, c.cls⟩
    c30 := ⟨⟨_, _, ["self"], fn_bad (ps := ["self"]) rfl (fun _ _ => rfl), FunD.bindsN (ps := ["self"]) (s.t.d.def_ 33 (d := dd ("Roof", some "take_back") "Roof.take_back" "take_back" (inClass (top 26) 22) [] []) rfl).choose_spec (fun _ _ _ _ _ _ us hl => match us, hl with | [_], _ => rfl), He.meth_ok (s.t.d.fact 50 (f := .meth "Roof" "take_back") rfl)⟩, c.cls⟩
    c31 := ⟨⟨_, _, ["self"], fn_bad (ps := ["self"]) rfl (fun _ _ => rfl), FunD.bindsN (ps := ["self"]) (s.t.d.def_ 34 (d := dd ("Roof", some "time") "Roof.time" "time" (inClass (top 26) 23) [] []) rfl).choose_spec (fun _ _ _ _ _ _ us hl => match us, hl with | [_], _ => rfl), He.meth_ok (s.t.d.fact 51 (f := .meth "Roof" "time") rfl)⟩, c.cls⟩
    c32 := ⟨⟨_, _, ["self"], fn_bad (ps := ["self"]) rfl (fun _ _ => rfl), FunD.bindsN (ps := ["self"]) (s.t.d.def_ 35 (d := dd ("Roof", some "all_deeds") "Roof.all_deeds" "all_deeds" (inClass (top 26) 24) [] []) rfl).choose_spec (fun _ _ _ _ _ _ us hl => match us, hl with | [_], _ => rfl), He.meth_ok (s.t.d.fact 52 (f := .meth "Roof" "all_deeds") rfl)⟩, c.cls⟩
    c33 := ⟨⟨_, _, ["self"], fn_bad (ps := ["self"]) rfl (fun _ _ => rfl), FunD.bindsN (ps := ["self"]) (s.t.d.def_ 36 (d := dd ("Roof", some "houses") "Roof.houses" "houses" (inClass (top 26) 25) [] []) rfl).choose_spec (fun _ _ _ _ _ _ us hl => match us, hl with | [_], _ => rfl), He.meth_ok (s.t.d.fact 53 (f := .meth "Roof" "houses") rfl)⟩, c.cls⟩
    c34 := ⟨⟨_, _, ["self", "house"], fn_bad (ps := ["self", "house"]) rfl (fun _ _ => rfl), FunD.bindsN (ps := ["self", "house"]) (s.t.d.def_ 37 (d := dd ("Roof", some "ranges") "Roof.ranges" "ranges" (inClass (top 26) 26) [] []) rfl).choose_spec (fun _ _ _ _ _ _ us hl => match us, hl with | [_, _], _ => rfl), He.meth_ok (s.t.d.fact 54 (f := .meth "Roof" "ranges") rfl)⟩, c.cls⟩
    c35 := ⟨⟨_, _, ["self", "house"], fn_bad (ps := ["self", "house"]) rfl (fun _ _ => rfl), FunD.bindsN (ps := ["self", "house"]) (s.t.d.def_ 38 (d := dd ("Roof", some "everyone") "Roof.everyone" "everyone" (inClass (top 26) 27) [] []) rfl).choose_spec (fun _ _ _ _ _ _ us hl => match us, hl with | [_, _], _ => rfl), He.meth_ok (s.t.d.fact 55 (f := .meth "Roof" "everyone") rfl)⟩, c.cls⟩
    c36 := ⟨⟨_, _, ["self"], fn_bad (ps := ["self"]) rfl (fun _ _ => rfl), FunD.bindsN (ps := ["self"]) (s.t.d.def_ 39 (d := dd ("Roof", some "all_numbers") "Roof.all_numbers" "all_numbers" (inClass (top 26) 28) [] []) rfl).choose_spec (fun _ _ _ _ _ _ us hl => match us, hl with | [_], _ => rfl), He.meth_ok (s.t.d.fact 56 (f := .meth "Roof" "all_numbers") rfl)⟩, c.cls⟩
    c37 := ⟨⟨_, _, ["self", "who"], fn_bad (ps := ["self", "who"]) rfl (fun _ _ => rfl), FunD.bindsN (ps := ["self", "who"]) (s.t.d.def_ 40 (d := dd ("Roof", some "is_group") "Roof.is_group" "is_group" (inClass (top 26) 29) [] []) rfl).choose_spec (fun _ _ _ _ _ _ us hl => match us, hl with | [_, _], _ => rfl), He.meth_ok (s.t.d.fact 57 (f := .meth "Roof" "is_group") rfl)⟩, c.cls⟩
    c38 := ⟨⟨_, _, ["self", "who"], fn_bad (ps := ["self", "who"]) rfl (fun _ _ => rfl), FunD.bindsN (ps := ["self", "who"]) (s.t.d.def_ 41 (d := dd ("Roof", some "name") "Roof.name" "name" (inClass (top 26) 30) [] []) rfl).choose_spec (fun _ _ _ _ _ _ us hl => match us, hl with | [_, _], _ => rfl), He.meth_ok (s.t.d.fact 58 (f := .meth "Roof" "name") rfl)⟩, c.cls⟩
    c39 := ⟨⟨_, _, ["self", "name"], fn_bad (ps := ["self", "name"]) rfl (fun _ _ => rfl), FunD.bindsN (ps := ["self", "name"]) (s.t.d.def_ 42 (d := dd ("Roof", some "number") "Roof.number" "number" (inClass (top 26) 31) [] []) rfl).choose_spec (fun _ _ _ _ _ _ us hl => match us, hl with | [_, _], _ => rfl), He.meth_ok (s.t.d.fact 59 (f := .meth "Roof" "number") rfl)⟩, c.cls⟩
    c40 := ⟨⟨_, _, ["self", "group"], fn_bad (ps := ["self", "group"]) rfl (fun _ _ => rfl), FunD.bindsN (ps := ["self", "group"]) (s.t.d.def_ 43 (d := dd ("Roof", some "members") "Roof.members" "members" (inClass (top 26) 32) [] []) rfl).choose_spec (fun _ _ _ _ _ _ us hl => match us, hl with | [_, _], _ => rfl), He.meth_ok (s.t.d.fact 60 (f := .meth "Roof" "members") rfl)⟩, c.cls⟩
    c41 := ⟨⟨_, _, ["self", "house"], fn_bad (ps := ["self", "house"]) rfl (fun _ _ => rfl), FunD.bindsN (ps := ["self", "house"]) (s.t.d.def_ 44 (d := dd ("Roof", some "trusted") "Roof.trusted" "trusted" (inClass (top 26) 33) [] []) rfl).choose_spec (fun _ _ _ _ _ _ us hl => match us, hl with | [_, _], _ => rfl), He.meth_ok (s.t.d.fact 61 (f := .meth "Roof" "trusted") rfl)⟩, c.cls⟩
    c42 := ⟨⟨_, _, ["self", "who", "group"], fn_bad (ps := ["self", "who", "group"]) rfl (fun _ _ => rfl), FunD.bindsN (ps := ["self", "who", "group"]) (s.t.d.def_ 45 (d := dd ("Roof", some "counts") "Roof.counts" "counts" (inClass (top 26) 34) [] []) rfl).choose_spec (fun _ _ _ _ _ _ us hl => match us, hl with | [_, _, _], _ => rfl), He.meth_ok (s.t.d.fact 62 (f := .meth "Roof" "counts") rfl)⟩, c.cls⟩
    c43 := ⟨_, _, ["roof", "who"], fn_bad (ps := ["roof", "who"]) rfl (fun _ _ => rfl), FunD.bindsN (ps := ["roof", "who"]) (s.t.d.def_ 46 (d := dd ("next_groups", none) "next_groups" "next_groups" (top 28)) rfl).choose_spec (fun _ _ _ _ _ _ us hl => match us, hl with | [_, _], _ => rfl), He.glo_ok X G (s.t.d.fact 74 (f := .glo "next_groups") rfl), (s.t.d.def_ 46 (d := dd ("next_groups", none) "next_groups" "next_groups" (top 28)) rfl).choose_spec.kp⟩
    c44 := ⟨_, _, ["roof", "who"], fn_bad (ps := ["roof", "who"]) rfl (fun _ _ => rfl), FunD.bindsN (ps := ["roof", "who"]) (s.t.d.def_ 47 (d := dd ("closed", none) "closed" "closed" (top 29)) rfl).choose_spec (fun _ _ _ _ _ _ us hl => match us, hl with | [_, _], _ => rfl), He.glo_ok X G (s.t.d.fact 75 (f := .glo "closed") rfl), (s.t.d.def_ 47 (d := dd ("closed", none) "closed" "closed" (top 29)) rfl).choose_spec.kp⟩
    c45 := ⟨_, _, ["thing"], fn_bad (ps := ["thing"]) rfl (fun _ _ => rfl), FunD.bindsN (ps := ["thing"]) (s.t.d.def_ 48 (d := dd ("is_rule", none) "is_rule" "is_rule" (top 33)) rfl).choose_spec (fun _ _ _ _ _ _ us hl => match us, hl with | [_], _ => rfl), He.glo_ok X G (s.t.d.fact 76 (f := .glo "is_rule") rfl), (s.t.d.def_ 48 (d := dd ("is_rule", none) "is_rule" "is_rule" (top 33)) rfl).choose_spec.kp⟩
    c46 := ⟨_, _, ["thing"], fn_bad (ps := ["thing"]) rfl (fun _ _ => rfl), FunD.bindsN (ps := ["thing"]) (s.t.d.def_ 49 (d := dd ("need_rules", none) "need_rules" "need_rules" (top 34)) rfl).choose_spec (fun _ _ _ _ _ _ us hl => match us, hl with | [_], _ => rfl), He.glo_ok X G (s.t.d.fact 77 (f := .glo "need_rules") rfl), (s.t.d.def_ 49 (d := dd ("need_rules", none) "need_rules" "need_rules" (top 34)) rfl).choose_spec.kp⟩
    c47 := ⟨_, _, ["rules", "about", "thing"], fn_bad (ps := ["rules", "about", "thing"]) rfl (fun _ _ => rfl), FunD.bindsN (ps := ["rules", "about", "thing"]) (s.t.d.def_ 50 (d := dd ("place", none) "place" "place" (top 35)) rfl).choose_spec (fun _ _ _ _ _ _ us hl => match us, hl with | [_, _, _], _ => rfl), He.glo_ok X G (s.t.d.fact 78 (f := .glo "place") rfl), (s.t.d.def_ 50 (d := dd ("place", none) "place" "place" (top 35)) rfl).choose_spec.kp⟩
    c48 := ⟨_, _, ["rules", "about", "thing"], fn_bad (ps := ["rules", "about", "thing"]) rfl (fun _ _ => rfl), FunD.bindsN (ps := ["rules", "about", "thing"]) (s.t.d.def_ 51 (d := dd ("lets", none) "lets" "lets" (top 36)) rfl).choose_spec (fun _ _ _ _ _ _ us hl => match us, hl with | [_, _, _], _ => rfl), He.glo_ok X G (s.t.d.fact 79 (f := .glo "lets") rfl), (s.t.d.def_ 51 (d := dd ("lets", none) "lets" "lets" (top 36)) rfl).choose_spec.kp⟩
    c49 := ⟨_, _, ["roof", "who"], fn_bad (ps := ["roof", "who"]) rfl (fun _ _ => rfl), FunD.bindsN (ps := ["roof", "who"]) (s.t.d.def_ 52 (d := dd ("about_of", none) "about_of" "about_of" (top 37)) rfl).choose_spec (fun _ _ _ _ _ _ us hl => match us, hl with | [_, _], _ => rfl), He.glo_ok X G (s.t.d.fact 80 (f := .glo "about_of") rfl), (s.t.d.def_ 52 (d := dd ("about_of", none) "about_of" "about_of" (top 37)) rfl).choose_spec.kp⟩
    c50 := ⟨_, _, ["roof", "rules", "things"], fn_bad (ps := ["roof", "rules", "things"]) rfl (fun _ _ => rfl), FunD.bindsN (ps := ["roof", "rules", "things"]) (s.t.d.def_ 53 (d := dd ("all_lets", none) "all_lets" "all_lets" (top 38)) rfl).choose_spec (fun _ _ _ _ _ _ us hl => match us, hl with | [_, _, _], _ => rfl), He.glo_ok X G (s.t.d.fact 81 (f := .glo "all_lets") rfl), (s.t.d.def_ 53 (d := dd ("all_lets", none) "all_lets" "all_lets" (top 38)) rfl).choose_spec.kp⟩
    c51 := ⟨_, _, ["roof", "rules"], fn_bad (ps := ["roof", "rules"]) rfl (fun _ _ => rfl), FunD.bindsN (ps := ["roof", "rules"]) (s.t.d.def_ 54 (d := dd ("needless", none) "needless" "needless" (top 39)) rfl).choose_spec (fun _ _ _ _ _ _ us hl => match us, hl with | [_, _], _ => rfl), He.glo_ok X G (s.t.d.fact 82 (f := .glo "needless") rfl), (s.t.d.def_ 54 (d := dd ("needless", none) "needless" "needless" (top 39)) rfl).choose_spec.kp⟩
    c52 := ⟨_, _, ["kind", "thing"], fn_bad (ps := ["kind", "thing"]) rfl (fun _ _ => rfl), FunD.bindsN (ps := ["kind", "thing"]) (s.t.d.def_ 55 (d := dd ("is_part", none) "is_part" "is_part" (top 42)) rfl).choose_spec (fun _ _ _ _ _ _ us hl => match us, hl with | [_, _], _ => rfl), He.glo_ok X G (s.t.d.fact 83 (f := .glo "is_part") rfl), (s.t.d.def_ 55 (d := dd ("is_part", none) "is_part" "is_part" (top 42)) rfl).choose_spec.kp⟩
    c53 := ⟨_, _, ["thing"], fn_bad (ps := ["thing"]) rfl (fun _ _ => rfl), FunD.bindsN (ps := ["thing"]) (s.t.d.def_ 56 (d := dd ("is_row", none) "is_row" "is_row" (top 43)) rfl).choose_spec (fun _ _ _ _ _ _ us hl => match us, hl with | [_], _ => rfl), He.glo_ok X G (s.t.d.fact 84 (f := .glo "is_row") rfl), (s.t.d.def_ 56 (d := dd ("is_row", none) "is_row" "is_row" (top 43)) rfl).choose_spec.kp⟩
    c54 := ⟨_, _, ["roof", "row"], fn_bad (ps := ["roof", "row"]) rfl (fun _ _ => rfl), FunD.bindsN (ps := ["roof", "row"]) (s.t.d.def_ 57 (d := dd ("do_more", none) "do_more" "do_more" (top 44)) rfl).choose_spec (fun _ _ _ _ _ _ us hl => match us, hl with | [_, _], _ => rfl), He.glo_ok X G (s.t.d.fact 85 (f := .glo "do_more") rfl), (s.t.d.def_ 57 (d := dd ("do_more", none) "do_more" "do_more" (top 44)) rfl).choose_spec.kp⟩
    c55 := ⟨_, _, ["roof", "row"], fn_bad (ps := ["roof", "row"]) rfl (fun _ _ => rfl), FunD.bindsN (ps := ["roof", "row"]) (s.t.d.def_ 58 (d := dd ("do", none) "do" "do" (top 45)) rfl).choose_spec (fun _ _ _ _ _ _ us hl => match us, hl with | [_, _], _ => rfl), He.glo_ok X G (s.t.d.fact 86 (f := .glo "do") rfl), (s.t.d.def_ 58 (d := dd ("do", none) "do" "do" (top 45)) rfl).choose_spec.kp⟩
    c56 := ⟨_, _, ["rows"], fn_bad (ps := ["rows"]) rfl (fun _ _ => rfl), FunD.bindsN (ps := ["rows"]) (s.t.d.def_ 59 (d := dd ("played", none) "played" "played" (top 46)) rfl).choose_spec (fun _ _ _ _ _ _ us hl => match us, hl with | [_], _ => rfl), He.glo_ok X G (s.t.d.fact 87 (f := .glo "played") rfl), (s.t.d.def_ 59 (d := dd ("played", none) "played" "played" (top 46)) rfl).choose_spec.kp⟩
    c57 := ⟨_, _, ["roof", "time"], fn_bad (ps := ["roof", "time"]) rfl (fun _ _ => rfl), FunD.bindsN (ps := ["roof", "time"]) (s.t.d.def_ 60 (d := dd ("need_time", none) "need_time" "need_time" (top 47)) rfl).choose_spec (fun _ _ _ _ _ _ us hl => match us, hl with | [_, _], _ => rfl), He.glo_ok X G (s.t.d.fact 88 (f := .glo "need_time") rfl), (s.t.d.def_ 60 (d := dd ("need_time", none) "need_time" "need_time" (top 47)) rfl).choose_spec.kp⟩
    c58 := ⟨_, _, ["roof", "time"], fn_bad (ps := ["roof", "time"]) rfl (fun _ _ => rfl), FunD.bindsN (ps := ["roof", "time"]) (s.t.d.def_ 61 (d := dd ("as_of", none) "as_of" "as_of" (top 48)) rfl).choose_spec (fun _ _ _ _ _ _ us hl => match us, hl with | [_, _], _ => rfl), He.glo_ok X G (s.t.d.fact 89 (f := .glo "as_of") rfl), (s.t.d.def_ 61 (d := dd ("as_of", none) "as_of" "as_of" (top 48)) rfl).choose_spec.kp⟩
    c59 := ⟨_, _, ["kind", "word"], fn_bad (ps := ["kind", "word"]) rfl (fun _ _ => rfl), FunD.bindsN (ps := ["kind", "word"]) (s.t.d.def_ 62 (d := dd ("part_of", none) "part_of" "part_of" (top 50)) rfl).choose_spec (fun _ _ _ _ _ _ us hl => match us, hl with | [_, _], _ => rfl), He.glo_ok X G (s.t.d.fact 90 (f := .glo "part_of") rfl), (s.t.d.def_ 62 (d := dd ("part_of", none) "part_of" "part_of" (top 50)) rfl).choose_spec.kp⟩
    c60 := ⟨_, _, ["line"], fn_bad (ps := ["line"]) rfl (fun _ _ => rfl), FunD.bindsN (ps := ["line"]) (s.t.d.def_ 63 (d := dd ("row_of", none) "row_of" "row_of" (top 51)) rfl).choose_spec (fun _ _ _ _ _ _ us hl => match us, hl with | [_], _ => rfl), He.glo_ok X G (s.t.d.fact 91 (f := .glo "row_of") rfl), (s.t.d.def_ 63 (d := dd ("row_of", none) "row_of" "row_of" (top 51)) rfl).choose_spec.kp⟩
    c61 := ⟨_, _, ["text"], fn_bad (ps := ["text"]) rfl (fun _ _ => rfl), FunD.bindsN (ps := ["text"]) (s.t.d.def_ 64 (d := dd ("read_journal", none) "read_journal" "read_journal" (top 52)) rfl).choose_spec (fun _ _ _ _ _ _ us hl => match us, hl with | [_], _ => rfl), He.glo_ok X G (s.t.d.fact 92 (f := .glo "read_journal") rfl), (s.t.d.def_ 64 (d := dd ("read_journal", none) "read_journal" "read_journal" (top 52)) rfl).choose_spec.kp⟩
    c62 := ⟨_, _, ["_law_script", "_law_k"], fn_bad (ps := ["_law_script", "_law_k"]) rfl (fun _ _ => rfl), FunD.bindsN (ps := ["_law_script", "_law_k"]) (s.t.d.def_ 65 (d := dd ("_law_cell", none) "_law_cell" "_law_cell" (top 54)) rfl).choose_spec (fun _ _ _ _ _ _ us hl => match us, hl with | [_, _], _ => rfl), He.glo_ok X G (s.t.d.fact 93 (f := .glo "_law_cell") rfl), (s.t.d.def_ 65 (d := dd ("_law_cell", none) "_law_cell" "_law_cell" (top 54)) rfl).choose_spec.kp⟩
    c63 := ⟨_, _, ["_law_cell_here", "_law_k"], fn_bad (ps := ["_law_cell_here", "_law_k"]) rfl (fun _ _ => rfl), FunD.bindsN (ps := ["_law_cell_here", "_law_k"]) (s.t.d.def_ 66 (d := dd ("_law_drawn", none) "_law_drawn" "_law_drawn" (top 55)) rfl).choose_spec (fun _ _ _ _ _ _ us hl => match us, hl with | [_, _], _ => rfl), He.glo_ok X G (s.t.d.fact 94 (f := .glo "_law_drawn") rfl), (s.t.d.def_ 66 (d := dd ("_law_drawn", none) "_law_drawn" "_law_drawn" (top 55)) rfl).choose_spec.kp⟩
    c64 := ⟨_, _, ["_law_dice", "_law_many"], fn_bad (ps := ["_law_dice", "_law_many"]) rfl (fun _ _ => rfl), FunD.bindsN (ps := ["_law_dice", "_law_many"]) (s.t.d.def_ 67 (d := dd ("_law_roll", none) "_law_roll" "_law_roll" (top 56)) rfl).choose_spec (fun _ _ _ _ _ _ us hl => match us, hl with | [_, _], _ => rfl), He.glo_ok X G (s.t.d.fact 95 (f := .glo "_law_roll") rfl), (s.t.d.def_ 67 (d := dd ("_law_roll", none) "_law_roll" "_law_roll" (top 56)) rfl).choose_spec.kp⟩
    c65 := ⟨_, _, ["_law_script", "_law_most"], fn_bad (ps := ["_law_script", "_law_most"]) rfl (fun _ _ => rfl), FunD.bindsN (ps := ["_law_script", "_law_most"]) (s.t.d.def_ 68 (d := dd ("_law_rounds", none) "_law_rounds" "_law_rounds" (top 57)) rfl).choose_spec (fun _ _ _ _ _ _ us hl => match us, hl with | [_, _], _ => rfl), He.glo_ok X G (s.t.d.fact 96 (f := .glo "_law_rounds") rfl), (s.t.d.def_ 68 (d := dd ("_law_rounds", none) "_law_rounds" "_law_rounds" (top 57)) rfl).choose_spec.kp⟩
    c66 := ⟨_, _, ["_law_roof", "_law_row"], fn_bad (ps := ["_law_roof", "_law_row"]) rfl (fun _ _ => rfl), FunD.bindsN (ps := ["_law_roof", "_law_row"]) (s.t.d.def_ 71 (d := dd ("_law_do", none) "_law_do" "_law_do" (top 60)) rfl).choose_spec (fun _ _ _ _ _ _ us hl => match us, hl with | [_, _], _ => rfl), He.glo_ok X G (s.t.d.fact 99 (f := .glo "_law_do") rfl), (s.t.d.def_ 71 (d := dd ("_law_do", none) "_law_do" "_law_do" (top 60)) rfl).choose_spec.kp⟩
    c67 := ⟨_, _, ["_law_e", "_law_own"], fn_bad (ps := ["_law_e", "_law_own"]) rfl (fun _ _ => rfl), FunD.bindsN (ps := ["_law_e", "_law_own"]) (s.t.d.def_ 73 (d := dd ("_law_alone", none) "_law_alone" "_law_alone" (top 62)) rfl).choose_spec (fun _ _ _ _ _ _ us hl => match us, hl with | [_, _], _ => rfl), He.glo_ok X G (s.t.d.fact 101 (f := .glo "_law_alone") rfl), (s.t.d.def_ 73 (d := dd ("_law_alone", none) "_law_alone" "_law_alone" (top 62)) rfl).choose_spec.kp⟩
    c68 := ⟨_, _, ["_law_script"], fn_bad (ps := ["_law_script"]) rfl (fun _ _ => rfl), FunD.bindsN (ps := ["_law_script"]) (s.t.d.def_ 74 (d := dd ("law", none) "law" "law" (top 63)) rfl).choose_spec (fun _ _ _ _ _ _ us hl => match us, hl with | [_], _ => rfl), He.glo_ok X G (s.t.d.fact 102 (f := .glo "law") rfl), (s.t.d.def_ 74 (d := dd ("law", none) "law" "law" (top 63)) rfl).choose_spec.kp⟩
  }
  | l + 1 => by
    have t := tb_of X G c s ek sz ap TB l
    exact {
      told := toldK X G c s ek
      met := metK X G c s ek
      sz := sz
      x_NoOne := in_NoOne c s
      x_Taken := in_Taken c s
      x_BadJournal := in_BadJournal c s
      c0 := ⟨_, _, ["k"], fn_body (ps := ["k"]) (s.t.d.def_ 0 (d := dd ("_wall", none) "_wall" "_wall" (top 0)) rfl).choose_spec sc_wall rfl (fun _ _ => rfl) (fun cdv A outer s0 H E hr => wk_wall c t hr), FunD.bindsN (ps := ["k"]) (s.t.d.def_ 0 (d := dd ("_wall", none) "_wall" "_wall" (top 0)) rfl).choose_spec (fun _ _ _ _ _ _ us hl => match us, hl with | [_], _ => rfl), He.glo_ok X G (s.t.d.fact 0 (f := .glo "_wall") rfl), (s.t.d.def_ 0 (d := dd ("_wall", none) "_wall" "_wall" (top 0)) rfl).choose_spec.kp⟩
      c1 := ⟨_, _, ["thing"], fn_body (ps := ["thing"]) (s.t.d.def_ 4 (d := dd ("is_word", none) "is_word" "is_word" (top 16)) rfl).choose_spec sc_is_word rfl (fun _ _ => rfl) (fun cdv A outer s0 H E hr => wk_is_word c t hr), FunD.bindsN (ps := ["thing"]) (s.t.d.def_ 4 (d := dd ("is_word", none) "is_word" "is_word" (top 16)) rfl).choose_spec (fun _ _ _ _ _ _ us hl => match us, hl with | [_], _ => rfl), He.glo_ok X G (s.t.d.fact 19 (f := .glo "is_word") rfl), (s.t.d.def_ 4 (d := dd ("is_word", none) "is_word" "is_word" (top 16)) rfl).choose_spec.kp⟩
      c2 := ⟨_, _, ["thing"], fn_body (ps := ["thing"]) (s.t.d.def_ 5 (d := dd ("is_kind", none) "is_kind" "is_kind" (top 17)) rfl).choose_spec sc_is_kind rfl (fun _ _ => rfl) (fun cdv A outer s0 H E hr => wk_is_kind c t hr), FunD.bindsN (ps := ["thing"]) (s.t.d.def_ 5 (d := dd ("is_kind", none) "is_kind" "is_kind" (top 17)) rfl).choose_spec (fun _ _ _ _ _ _ us hl => match us, hl with | [_], _ => rfl), He.glo_ok X G (s.t.d.fact 20 (f := .glo "is_kind") rfl), (s.t.d.def_ 5 (d := dd ("is_kind", none) "is_kind" "is_kind" (top 17)) rfl).choose_spec.kp⟩
      c3 := ⟨_, _, ["thing"], fn_body (ps := ["thing"]) (s.t.d.def_ 6 (d := dd ("is_name", none) "is_name" "is_name" (top 18)) rfl).choose_spec sc_is_name rfl (fun _ _ => rfl) (fun cdv A outer s0 H E hr => wk_is_name c t hr), FunD.bindsN (ps := ["thing"]) (s.t.d.def_ 6 (d := dd ("is_name", none) "is_name" "is_name" (top 18)) rfl).choose_spec (fun _ _ _ _ _ _ us hl => match us, hl with | [_], _ => rfl), He.glo_ok X G (s.t.d.fact 21 (f := .glo "is_name") rfl), (s.t.d.def_ 6 (d := dd ("is_name", none) "is_name" "is_name" (top 18)) rfl).choose_spec.kp⟩
      c4 := ⟨_, _, ["thing"], fn_body (ps := ["thing"]) (s.t.d.def_ 7 (d := dd ("need_word", none) "need_word" "need_word" (top 19)) rfl).choose_spec sc_need_word rfl (fun _ _ => rfl) (fun cdv A outer s0 H E hr => wk_need_word c t hr), FunD.bindsN (ps := ["thing"]) (s.t.d.def_ 7 (d := dd ("need_word", none) "need_word" "need_word" (top 19)) rfl).choose_spec (fun _ _ _ _ _ _ us hl => match us, hl with | [_], _ => rfl), He.glo_ok X G (s.t.d.fact 22 (f := .glo "need_word") rfl), (s.t.d.def_ 7 (d := dd ("need_word", none) "need_word" "need_word" (top 19)) rfl).choose_spec.kp⟩
      c5 := ⟨_, _, ["thing"], fn_body (ps := ["thing"]) (s.t.d.def_ 8 (d := dd ("need_name", none) "need_name" "need_name" (top 20)) rfl).choose_spec sc_need_name rfl (fun _ _ => rfl) (fun cdv A outer s0 H E hr => wk_need_name c t hr), FunD.bindsN (ps := ["thing"]) (s.t.d.def_ 8 (d := dd ("need_name", none) "need_name" "need_name" (top 20)) rfl).choose_spec (fun _ _ _ _ _ _ us hl => match us, hl with | [_], _ => rfl), He.glo_ok X G (s.t.d.fact 23 (f := .glo "need_name") rfl), (s.t.d.def_ 8 (d := dd ("need_name", none) "need_name" "need_name" (top 20)) rfl).choose_spec.kp⟩
      c6 := ⟨_, _, ["word", "number"], fn_body (ps := ["word", "number"]) (s.t.d.def_ 9 (d := dd ("with_number", none) "with_number" "with_number" (top 21)) rfl).choose_spec sc_with_number rfl (fun _ _ => rfl) (fun cdv A outer s0 H E hr => wk_with_number c t hr), FunD.bindsN (ps := ["word", "number"]) (s.t.d.def_ 9 (d := dd ("with_number", none) "with_number" "with_number" (top 21)) rfl).choose_spec (fun _ _ _ _ _ _ us hl => match us, hl with | [_, _], _ => rfl), He.glo_ok X G (s.t.d.fact 24 (f := .glo "with_number") rfl), (s.t.d.def_ 9 (d := dd ("with_number", none) "with_number" "with_number" (top 21)) rfl).choose_spec.kp⟩
      c7 := ⟨_, _, ["thing"], fn_body (ps := ["thing"]) (s.t.d.def_ 10 (d := dd ("is_whole", none) "is_whole" "is_whole" (top 25)) rfl).choose_spec sc_is_whole rfl (fun _ _ => rfl) (fun cdv A outer s0 H E hr => wk_is_whole c t hr), FunD.bindsN (ps := ["thing"]) (s.t.d.def_ 10 (d := dd ("is_whole", none) "is_whole" "is_whole" (top 25)) rfl).choose_spec (fun _ _ _ _ _ _ us hl => match us, hl with | [_], _ => rfl), He.glo_ok X G (s.t.d.fact 25 (f := .glo "is_whole") rfl), (s.t.d.def_ 10 (d := dd ("is_whole", none) "is_whole" "is_whole" (top 25)) rfl).choose_spec.kp⟩
      c8 := ⟨⟨_, _, ["self"], fn_body (ps := ["self"]) (s.t.d.def_ 11 (d := dd ("Roof", some "__init__") "Roof.__init__" "__init__" (inClass (top 26) 0) [] []) rfl).choose_spec sc_Roof_init rfl (fun _ _ => rfl) (fun cdv A outer s0 H E hr => wk_Roof_init c t hr), FunD.bindsN (ps := ["self"]) (s.t.d.def_ 11 (d := dd ("Roof", some "__init__") "Roof.__init__" "__init__" (inClass (top 26) 0) [] []) rfl).choose_spec (fun _ _ _ _ _ _ us hl => match us, hl with | [_], _ => rfl), He.mkr_ok (s.t.d.fact 64 (f := .mkr "Roof") rfl)⟩, c.g_Roof⟩
      c9 := ⟨⟨_, _, ["self", "other"], fn_body (ps := ["self", "other"]) (s.t.d.def_ 12 (d := dd ("Roof", some "__eq__") "Roof.__eq__" "__eq__" (inClass (top 26) 1) [] []) rfl).choose_spec sc_Roof_eq rfl (fun _ _ => rfl) (fun cdv A outer s0 H E hr => wk_Roof_eq c t hr), FunD.bindsN (ps := ["self", "other"]) (s.t.d.def_ 12 (d := dd ("Roof", some "__eq__") "Roof.__eq__" "__eq__" (inClass (top 26) 1) [] []) rfl).choose_spec (fun _ _ _ _ _ _ us hl => match us, hl with | [_, _], _ => rfl), He.meth_ok (s.t.d.fact 29 (f := .meth "Roof" "__eq__") rfl)⟩, c.cls⟩
      c10 := ⟨⟨_, _, ["self"], fn_body (ps := ["self"]) (s.t.d.def_ 13 (d := dd ("Roof", some "state") "Roof.state" "state" (inClass (top 26) 2) [] []) rfl).choose_spec sc_Roof_state rfl (fun _ _ => rfl) (fun cdv A outer s0 H E hr => wk_Roof_state c t hr), FunD.bindsN (ps := ["self"]) (s.t.d.def_ 13 (d := dd ("Roof", some "state") "Roof.state" "state" (inClass (top 26) 2) [] []) rfl).choose_spec (fun _ _ _ _ _ _ us hl => match us, hl with | [_], _ => rfl), He.meth_ok (s.t.d.fact 30 (f := .meth "Roof" "state") rfl)⟩, c.cls⟩
      c11 := ⟨⟨_, _, ["self", "row"], fn_body (ps := ["self", "row"]) (s.t.d.def_ 14 (d := dd ("Roof", some "begin") "Roof.begin" "begin" (inClass (top 26) 3) [] []) rfl).choose_spec sc_Roof_begin rfl (fun _ _ => rfl) (fun cdv A outer s0 H E hr => wk_Roof_begin c t hr), FunD.bindsN (ps := ["self", "row"]) (s.t.d.def_ 14 (d := dd ("Roof", some "begin") "Roof.begin" "begin" (inClass (top 26) 3) [] []) rfl).choose_spec (fun _ _ _ _ _ _ us hl => match us, hl with | [_, _], _ => rfl), He.meth_ok (s.t.d.fact 31 (f := .meth "Roof" "begin") rfl)⟩, c.cls⟩
      c12 := ⟨⟨_, _, ["self", "house"], fn_body (ps := ["self", "house"]) (s.t.d.def_ 15 (d := dd ("Roof", some "need_house") "Roof.need_house" "need_house" (inClass (top 26) 4) [] []) rfl).choose_spec sc_Roof_need_house rfl (fun _ _ => rfl) (fun cdv A outer s0 H E hr => wk_Roof_need_house c t hr), FunD.bindsN (ps := ["self", "house"]) (s.t.d.def_ 15 (d := dd ("Roof", some "need_house") "Roof.need_house" "need_house" (inClass (top 26) 4) [] []) rfl).choose_spec (fun _ _ _ _ _ _ us hl => match us, hl with | [_, _], _ => rfl), He.meth_ok (s.t.d.fact 32 (f := .meth "Roof" "need_house") rfl)⟩, c.cls⟩
      c13 := ⟨⟨_, _, ["self", "house", "other"], fn_body (ps := ["self", "house", "other"]) (s.t.d.def_ 16 (d := dd ("Roof", some "need_two") "Roof.need_two" "need_two" (inClass (top 26) 5) [] []) rfl).choose_spec sc_Roof_need_two rfl (fun _ _ => rfl) (fun cdv A outer s0 H E hr => wk_Roof_need_two c t hr), FunD.bindsN (ps := ["self", "house", "other"]) (s.t.d.def_ 16 (d := dd ("Roof", some "need_two") "Roof.need_two" "need_two" (inClass (top 26) 5) [] []) rfl).choose_spec (fun _ _ _ _ _ _ us hl => match us, hl with | [_, _, _], _ => rfl), He.meth_ok (s.t.d.fact 33 (f := .meth "Roof" "need_two") rfl)⟩, c.cls⟩
      c14 := ⟨⟨_, _, ["self", "who"], fn_body (ps := ["self", "who"]) (s.t.d.def_ 17 (d := dd ("Roof", some "need_one") "Roof.need_one" "need_one" (inClass (top 26) 6) [] []) rfl).choose_spec sc_Roof_need_one rfl (fun _ _ => rfl) (fun cdv A outer s0 H E hr => wk_Roof_need_one c t hr), FunD.bindsN (ps := ["self", "who"]) (s.t.d.def_ 17 (d := dd ("Roof", some "need_one") "Roof.need_one" "need_one" (inClass (top 26) 6) [] []) rfl).choose_spec (fun _ _ _ _ _ _ us hl => match us, hl with | [_, _], _ => rfl), He.meth_ok (s.t.d.fact 34 (f := .meth "Roof" "need_one") rfl)⟩, c.cls⟩
      c15 := ⟨⟨_, _, ["self", "who"], fn_body (ps := ["self", "who"]) (s.t.d.def_ 18 (d := dd ("Roof", some "need_group") "Roof.need_group" "need_group" (inClass (top 26) 7) [] []) rfl).choose_spec sc_Roof_need_group rfl (fun _ _ => rfl) (fun cdv A outer s0 H E hr => wk_Roof_need_group c t hr), FunD.bindsN (ps := ["self", "who"]) (s.t.d.def_ 18 (d := dd ("Roof", some "need_group") "Roof.need_group" "need_group" (inClass (top 26) 7) [] []) rfl).choose_spec (fun _ _ _ _ _ _ us hl => match us, hl with | [_, _], _ => rfl), He.meth_ok (s.t.d.fact 35 (f := .meth "Roof" "need_group") rfl)⟩, c.cls⟩
      c16 := ⟨⟨_, _, ["self", "name"], fn_body (ps := ["self", "name"]) (s.t.d.def_ 19 (d := dd ("Roof", some "one_of") "Roof.one_of" "one_of" (inClass (top 26) 8) [] []) rfl).choose_spec sc_Roof_one_of rfl (fun _ _ => rfl) (fun cdv A outer s0 H E hr => wk_Roof_one_of c t hr), FunD.bindsN (ps := ["self", "name"]) (s.t.d.def_ 19 (d := dd ("Roof", some "one_of") "Roof.one_of" "one_of" (inClass (top 26) 8) [] []) rfl).choose_spec (fun _ _ _ _ _ _ us hl => match us, hl with | [_, _], _ => rfl), He.meth_ok (s.t.d.fact 36 (f := .meth "Roof" "one_of") rfl)⟩, c.cls⟩
      c17 := ⟨⟨_, _, ["self", "name"], fn_body (ps := ["self", "name"]) (s.t.d.def_ 20 (d := dd ("Roof", some "need_free") "Roof.need_free" "need_free" (inClass (top 26) 9) [] []) rfl).choose_spec sc_Roof_need_free rfl (fun _ _ => rfl) (fun cdv A outer s0 H E hr => wk_Roof_need_free c t hr), FunD.bindsN (ps := ["self", "name"]) (s.t.d.def_ 20 (d := dd ("Roof", some "need_free") "Roof.need_free" "need_free" (inClass (top 26) 9) [] []) rfl).choose_spec (fun _ _ _ _ _ _ us hl => match us, hl with | [_, _], _ => rfl), He.meth_ok (s.t.d.fact 37 (f := .meth "Roof" "need_free") rfl)⟩, c.cls⟩
      c18 := ⟨⟨_, _, ["self", "house"], fn_body (ps := ["self", "house"]) (s.t.d.def_ 21 (d := dd ("Roof", some "new_span") "Roof.new_span" "new_span" (inClass (top 26) 10) [] []) rfl).choose_spec sc_Roof_new_span rfl (fun _ _ => rfl) (fun cdv A outer s0 H E hr => wk_Roof_new_span c t hr), FunD.bindsN (ps := ["self", "house"]) (s.t.d.def_ 21 (d := dd ("Roof", some "new_span") "Roof.new_span" "new_span" (inClass (top 26) 10) [] []) rfl).choose_spec (fun _ _ _ _ _ _ us hl => match us, hl with | [_, _], _ => rfl), He.meth_ok (s.t.d.fact 38 (f := .meth "Roof" "new_span") rfl)⟩, c.cls⟩
      c19 := ⟨⟨_, _, ["self", "house"], fn_body (ps := ["self", "house"]) (s.t.d.def_ 22 (d := dd ("Roof", some "found") "Roof.found" "found" (inClass (top 26) 11) [] []) rfl).choose_spec sc_Roof_found rfl (fun _ _ => rfl) (fun cdv A outer s0 H E hr => wk_Roof_found c t hr), FunD.bindsN (ps := ["self", "house"]) (s.t.d.def_ 22 (d := dd ("Roof", some "found") "Roof.found" "found" (inClass (top 26) 11) [] []) rfl).choose_spec (fun _ _ _ _ _ _ us hl => match us, hl with | [_, _], _ => rfl), He.meth_ok (s.t.d.fact 39 (f := .meth "Roof" "found") rfl)⟩, c.cls⟩
      c20 := ⟨⟨_, _, ["self", "kind", "word", "house"], fn_body (ps := ["self", "kind", "word", "house"]) (s.t.d.def_ 23 (d := dd ("Roof", some "come") "Roof.come" "come" (inClass (top 26) 12) [] []) rfl).choose_spec sc_Roof_come rfl (fun _ _ => rfl) (fun cdv A outer s0 H E hr => wk_Roof_come c t hr), FunD.bindsN (ps := ["self", "kind", "word", "house"]) (s.t.d.def_ 23 (d := dd ("Roof", some "come") "Roof.come" "come" (inClass (top 26) 12) [] []) rfl).choose_spec (fun _ _ _ _ _ _ us hl => match us, hl with | [_, _, _, _], _ => rfl), He.meth_ok (s.t.d.fact 40 (f := .meth "Roof" "come") rfl)⟩, c.cls⟩
      c21 := ⟨⟨_, _, ["self", "who"], fn_body (ps := ["self", "who"]) (s.t.d.def_ 24 (d := dd ("Roof", some "go") "Roof.go" "go" (inClass (top 26) 13) [] []) rfl).choose_spec sc_Roof_go rfl (fun _ _ => rfl) (fun cdv A outer s0 H E hr => wk_Roof_go c t hr), FunD.bindsN (ps := ["self", "who"]) (s.t.d.def_ 24 (d := dd ("Roof", some "go") "Roof.go" "go" (inClass (top 26) 13) [] []) rfl).choose_spec (fun _ _ _ _ _ _ us hl => match us, hl with | [_, _], _ => rfl), He.meth_ok (s.t.d.fact 41 (f := .meth "Roof" "go") rfl)⟩, c.cls⟩
      c22 := ⟨⟨_, _, ["self", "who", "group"], fn_bodyK (ps := ["self", "who", "group"]) (s.t.d.def_ 25 (d := dd ("Roof", some "put_in") "Roof.put_in" "put_in" (inClass (top 26) 14) [] []) rfl).choose_spec sc_Roof_put_in rfl (fun _ _ => rfl) (fun cdv A outer s0 H E hcd hr => wk_Roof_put_in c t hr hcd), FunD.bindsN (ps := ["self", "who", "group"]) (s.t.d.def_ 25 (d := dd ("Roof", some "put_in") "Roof.put_in" "put_in" (inClass (top 26) 14) [] []) rfl).choose_spec (fun _ _ _ _ _ _ us hl => match us, hl with | [_, _, _], _ => rfl), He.meth_ok (s.t.d.fact 42 (f := .meth "Roof" "put_in") rfl)⟩, c.cls⟩
      c23 := ⟨⟨_, _, ["self", "who", "group"], fn_body (ps := ["self", "who", "group"]) (s.t.d.def_ 26 (d := dd ("Roof", some "take_out") "Roof.take_out" "take_out" (inClass (top 26) 15) [] []) rfl).choose_spec sc_Roof_take_out rfl (fun _ _ => rfl) (fun cdv A outer s0 H E hr => wk_Roof_take_out c t hr), FunD.bindsN (ps := ["self", "who", "group"]) (s.t.d.def_ 26 (d := dd ("Roof", some "take_out") "Roof.take_out" "take_out" (inClass (top 26) 15) [] []) rfl).choose_spec (fun _ _ _ _ _ _ us hl => match us, hl with | [_, _, _], _ => rfl), He.meth_ok (s.t.d.fact 43 (f := .meth "Roof" "take_out") rfl)⟩, c.cls⟩
      c24 := ⟨⟨_, _, ["self", "who", "word"], fn_body (ps := ["self", "who", "word"]) (s.t.d.def_ 27 (d := dd ("Roof", some "call") "Roof.call" "call" (inClass (top 26) 16) [] []) rfl).choose_spec sc_Roof_call rfl (fun _ _ => rfl) (fun cdv A outer s0 H E hr => wk_Roof_call c t hr), FunD.bindsN (ps := ["self", "who", "word"]) (s.t.d.def_ 27 (d := dd ("Roof", some "call") "Roof.call" "call" (inClass (top 26) 16) [] []) rfl).choose_spec (fun _ _ _ _ _ _ us hl => match us, hl with | [_, _, _], _ => rfl), He.meth_ok (s.t.d.fact 44 (f := .meth "Roof" "call") rfl)⟩, c.cls⟩
      c25 := ⟨⟨_, _, ["self", "who", "house", "word"], fn_body (ps := ["self", "who", "house", "word"]) (s.t.d.def_ 28 (d := dd ("Roof", some "move") "Roof.move" "move" (inClass (top 26) 17) [] [("word", .non)]) rfl).choose_spec sc_Roof_move rfl (fun _ _ => rfl) (fun cdv A outer s0 H E hr => wk_Roof_move c t hr), He.meth_ok (s.t.d.fact 45 (f := .meth "Roof" "move") rfl), kk_of (n := 3) (ps := ["self", "who", "house", "word"]) (s.t.d.def_ 28 (d := dd ("Roof", some "move") "Roof.move" "move" (inClass (top 26) 17) [] [("word", .non)]) rfl).choose_spec rfl (fun _ _ _ _ _ _ us ws l1 l2 => match us, ws, l1, l2 with | [_, _, _], [_], _, _ => rfl) (fun _ _ _ _ _ _ us ks l1 l2 => match us, ks, l1, l2 with | [_, _, _], [_], _, _ => ⟨_, _, _, _, _, _, rfl, rfl, rfl⟩)⟩, c.cls⟩
      c26 := ⟨⟨_, _, ["self", "kind", "word", "house"], fn_body (ps := ["self", "kind", "word", "house"]) (s.t.d.def_ 29 (d := dd ("Roof", some "free_word") "Roof.free_word" "free_word" (inClass (top 26) 18) [] []) rfl).choose_spec sc_Roof_free_word rfl (fun _ _ => rfl) (fun cdv A outer s0 H E hr => wk_Roof_free_word c t hr), FunD.bindsN (ps := ["self", "kind", "word", "house"]) (s.t.d.def_ 29 (d := dd ("Roof", some "free_word") "Roof.free_word" "free_word" (inClass (top 26) 18) [] []) rfl).choose_spec (fun _ _ _ _ _ _ us hl => match us, hl with | [_, _, _, _], _ => rfl), He.meth_ok (s.t.d.fact 46 (f := .meth "Roof" "free_word") rfl)⟩, c.cls⟩
      c27 := ⟨⟨_, _, ["self", "house", "other"], fn_body (ps := ["self", "house", "other"]) (s.t.d.def_ 30 (d := dd ("Roof", some "merge") "Roof.merge" "merge" (inClass (top 26) 19) [] []) rfl).choose_spec sc_Roof_merge rfl (fun _ _ => rfl) (fun cdv A outer s0 H E hr => wk_Roof_merge c t hr), FunD.bindsN (ps := ["self", "house", "other"]) (s.t.d.def_ 30 (d := dd ("Roof", some "merge") "Roof.merge" "merge" (inClass (top 26) 19) [] []) rfl).choose_spec (fun _ _ _ _ _ _ us hl => match us, hl with | [_, _, _], _ => rfl), He.meth_ok (s.t.d.fact 47 (f := .meth "Roof" "merge") rfl)⟩, c.cls⟩
      c28 := ⟨⟨_, _, ["self", "house", "other"], fn_body (ps := ["self", "house", "other"]) (s.t.d.def_ 31 (d := dd ("Roof", some "trust") "Roof.trust" "trust" (inClass (top 26) 20) [] []) rfl).choose_spec sc_Roof_trust rfl (fun _ _ => rfl) (fun cdv A outer s0 H E hr => wk_Roof_trust c t hr), FunD.bindsN (ps := ["self", "house", "other"]) (s.t.d.def_ 31 (d := dd ("Roof", some "trust") "Roof.trust" "trust" (inClass (top 26) 20) [] []) rfl).choose_spec (fun _ _ _ _ _ _ us hl => match us, hl with | [_, _, _], _ => rfl), He.meth_ok (s.t.d.fact 48 (f := .meth "Roof" "trust") rfl)⟩, c.cls⟩
      c29 := ⟨⟨_, _, ["self", "house", "other"], fn_body (ps := ["self", "house", "other"]) (s.t.d.def_ 32 (d := dd ("Roof", some "mistrust") "Roof.mistrust" "mistrust" (inClass (top 26) 21) [] []) rfl).choose_spec sc_Roof_mistrust rfl (fun _ _ => rfl) (fun cdv A outer s0 H E hr => wk_Roof_mistrust c t hr), FunD.bindsN (ps := ["self", "house", "other"]) (s.t.d.def_ 32 (d := dd ("Roof", some "mistrust") "Roof.mistrust" "mistrust" (inClass (top 26) 21) [] []) rfl).choose_spec (fun _ _ _ _ _ _ us hl => match us, hl with | [_, _, _], _ => rfl), He.meth_ok (s.t.d.fact 49 (f := .meth "Roof" "mistrust") rfl)⟩, c.cls⟩
      c30 := ⟨⟨_, _, ["self"], fn_body (ps := ["self"]) (s.t.d.def_ 33 (d := dd ("Roof", some "take_back") "Roof.take_back" "take_back" (inClass (top 26) 22) [] []) rfl).choose_spec sc_Roof_take_back rfl (fun _ _ => rfl) (fun cdv A outer s0 H E hr => wk_Roof_take_back c t hr), FunD.bindsN (ps := ["self"]) (s.t.d.def_ 33 (d := dd ("Roof", some "take_back") "Roof.take_back" "take_back" (inClass (top 26) 22) [] []) rfl).choose_spec (fun _ _ _ _ _ _ us hl => match us, hl with | [_], _ => rfl), He.meth_ok (s.t.d.fact 50 (f := .meth "Roof" "take_back") rfl)⟩, c.cls⟩
      c31 := ⟨⟨_, _, ["self"], fn_body (ps := ["self"]) (s.t.d.def_ 34 (d := dd ("Roof", some "time") "Roof.time" "time" (inClass (top 26) 23) [] []) rfl).choose_spec sc_Roof_time rfl (fun _ _ => rfl) (fun cdv A outer s0 H E hr => wk_Roof_time c t hr), FunD.bindsN (ps := ["self"]) (s.t.d.def_ 34 (d := dd ("Roof", some "time") "Roof.time" "time" (inClass (top 26) 23) [] []) rfl).choose_spec (fun _ _ _ _ _ _ us hl => match us, hl with | [_], _ => rfl), He.meth_ok (s.t.d.fact 51 (f := .meth "Roof" "time") rfl)⟩, c.cls⟩
      c32 := ⟨⟨_, _, ["self"], fn_body (ps := ["self"]) (s.t.d.def_ 35 (d := dd ("Roof", some "all_deeds") "Roof.all_deeds" "all_deeds" (inClass (top 26) 24) [] []) rfl).choose_spec sc_Roof_all_deeds rfl (fun _ _ => rfl) (fun cdv A outer s0 H E hr => wk_Roof_all_deeds c t hr), FunD.bindsN (ps := ["self"]) (s.t.d.def_ 35 (d := dd ("Roof", some "all_deeds") "Roof.all_deeds" "all_deeds" (inClass (top 26) 24) [] []) rfl).choose_spec (fun _ _ _ _ _ _ us hl => match us, hl with | [_], _ => rfl), He.meth_ok (s.t.d.fact 52 (f := .meth "Roof" "all_deeds") rfl)⟩, c.cls⟩
      c33 := ⟨⟨_, _, ["self"], fn_body (ps := ["self"]) (s.t.d.def_ 36 (d := dd ("Roof", some "houses") "Roof.houses" "houses" (inClass (top 26) 25) [] []) rfl).choose_spec sc_Roof_houses rfl (fun _ _ => rfl) (fun cdv A outer s0 H E hr => wk_Roof_houses c t hr), FunD.bindsN (ps := ["self"]) (s.t.d.def_ 36 (d := dd ("Roof", some "houses") "Roof.houses" "houses" (inClass (top 26) 25) [] []) rfl).choose_spec (fun _ _ _ _ _ _ us hl => match us, hl with | [_], _ => rfl), He.meth_ok (s.t.d.fact 53 (f := .meth "Roof" "houses") rfl)⟩, c.cls⟩
      c34 := ⟨⟨_, _, ["self", "house"], fn_body (ps := ["self", "house"]) (s.t.d.def_ 37 (d := dd ("Roof", some "ranges") "Roof.ranges" "ranges" (inClass (top 26) 26) [] []) rfl).choose_spec sc_Roof_ranges rfl (fun _ _ => rfl) (fun cdv A outer s0 H E hr => wk_Roof_ranges c t hr), FunD.bindsN (ps := ["self", "house"]) (s.t.d.def_ 37 (d := dd ("Roof", some "ranges") "Roof.ranges" "ranges" (inClass (top 26) 26) [] []) rfl).choose_spec (fun _ _ _ _ _ _ us hl => match us, hl with | [_, _], _ => rfl), He.meth_ok (s.t.d.fact 54 (f := .meth "Roof" "ranges") rfl)⟩, c.cls⟩
      c35 := ⟨⟨_, _, ["self", "house"], fn_body (ps := ["self", "house"]) (s.t.d.def_ 38 (d := dd ("Roof", some "everyone") "Roof.everyone" "everyone" (inClass (top 26) 27) [] []) rfl).choose_spec sc_Roof_everyone rfl (fun _ _ => rfl) (fun cdv A outer s0 H E hr => wk_Roof_everyone c t hr), FunD.bindsN (ps := ["self", "house"]) (s.t.d.def_ 38 (d := dd ("Roof", some "everyone") "Roof.everyone" "everyone" (inClass (top 26) 27) [] []) rfl).choose_spec (fun _ _ _ _ _ _ us hl => match us, hl with | [_, _], _ => rfl), He.meth_ok (s.t.d.fact 55 (f := .meth "Roof" "everyone") rfl)⟩, c.cls⟩
      c36 := ⟨⟨_, _, ["self"], fn_body (ps := ["self"]) (s.t.d.def_ 39 (d := dd ("Roof", some "all_numbers") "Roof.all_numbers" "all_numbers" (inClass (top 26) 28) [] []) rfl).choose_spec sc_Roof_all_numbers rfl (fun _ _ => rfl) (fun cdv A outer s0 H E hr => wk_Roof_all_numbers c t hr), FunD.bindsN (ps := ["self"]) (s.t.d.def_ 39 (d := dd ("Roof", some "all_numbers") "Roof.all_numbers" "all_numbers" (inClass (top 26) 28) [] []) rfl).choose_spec (fun _ _ _ _ _ _ us hl => match us, hl with | [_], _ => rfl), He.meth_ok (s.t.d.fact 56 (f := .meth "Roof" "all_numbers") rfl)⟩, c.cls⟩
      c37 := ⟨⟨_, _, ["self", "who"], fn_body (ps := ["self", "who"]) (s.t.d.def_ 40 (d := dd ("Roof", some "is_group") "Roof.is_group" "is_group" (inClass (top 26) 29) [] []) rfl).choose_spec sc_Roof_is_group rfl (fun _ _ => rfl) (fun cdv A outer s0 H E hr => wk_Roof_is_group c t hr), FunD.bindsN (ps := ["self", "who"]) (s.t.d.def_ 40 (d := dd ("Roof", some "is_group") "Roof.is_group" "is_group" (inClass (top 26) 29) [] []) rfl).choose_spec (fun _ _ _ _ _ _ us hl => match us, hl with | [_, _], _ => rfl), He.meth_ok (s.t.d.fact 57 (f := .meth "Roof" "is_group") rfl)⟩, c.cls⟩
      c38 := ⟨⟨_, _, ["self", "who"], fn_body (ps := ["self", "who"]) (s.t.d.def_ 41 (d := dd ("Roof", some "name") "Roof.name" "name" (inClass (top 26) 30) [] []) rfl).choose_spec sc_Roof_name rfl (fun _ _ => rfl) (fun cdv A outer s0 H E hr => wk_Roof_name c t hr), FunD.bindsN (ps := ["self", "who"]) (s.t.d.def_ 41 (d := dd ("Roof", some "name") "Roof.name" "name" (inClass (top 26) 30) [] []) rfl).choose_spec (fun _ _ _ _ _ _ us hl => match us, hl with | [_, _], _ => rfl), He.meth_ok (s.t.d.fact 58 (f := .meth "Roof" "name") rfl)⟩, c.cls⟩
      c39 := ⟨⟨_, _, ["self", "name"], fn_body (ps := ["self", "name"]) (s.t.d.def_ 42 (d := dd ("Roof", some "number") "Roof.number" "number" (inClass (top 26) 31) [] []) rfl).choose_spec sc_Roof_number rfl (fun _ _ => rfl) (fun cdv A outer s0 H E hr => wk_Roof_number c t hr), FunD.bindsN (ps := ["self", "name"]) (s.t.d.def_ 42 (d := dd ("Roof", some "number") "Roof.number" "number" (inClass (top 26) 31) [] []) rfl).choose_spec (fun _ _ _ _ _ _ us hl => match us, hl with | [_, _], _ => rfl), He.meth_ok (s.t.d.fact 59 (f := .meth "Roof" "number") rfl)⟩, c.cls⟩
      c40 := ⟨⟨_, _, ["self", "group"], fn_body (ps := ["self", "group"]) (s.t.d.def_ 43 (d := dd ("Roof", some "members") "Roof.members" "members" (inClass (top 26) 32) [] []) rfl).choose_spec sc_Roof_members rfl (fun _ _ => rfl) (fun cdv A outer s0 H E hr => wk_Roof_members c t hr), FunD.bindsN (ps := ["self", "group"]) (s.t.d.def_ 43 (d := dd ("Roof", some "members") "Roof.members" "members" (inClass (top 26) 32) [] []) rfl).choose_spec (fun _ _ _ _ _ _ us hl => match us, hl with | [_, _], _ => rfl), He.meth_ok (s.t.d.fact 60 (f := .meth "Roof" "members") rfl)⟩, c.cls⟩
      c41 := ⟨⟨_, _, ["self", "house"], fn_body (ps := ["self", "house"]) (s.t.d.def_ 44 (d := dd ("Roof", some "trusted") "Roof.trusted" "trusted" (inClass (top 26) 33) [] []) rfl).choose_spec sc_Roof_trusted rfl (fun _ _ => rfl) (fun cdv A outer s0 H E hr => wk_Roof_trusted c t hr), FunD.bindsN (ps := ["self", "house"]) (s.t.d.def_ 44 (d := dd ("Roof", some "trusted") "Roof.trusted" "trusted" (inClass (top 26) 33) [] []) rfl).choose_spec (fun _ _ _ _ _ _ us hl => match us, hl with | [_, _], _ => rfl), He.meth_ok (s.t.d.fact 61 (f := .meth "Roof" "trusted") rfl)⟩, c.cls⟩
      c42 := ⟨⟨_, _, ["self", "who", "group"], fn_body (ps := ["self", "who", "group"]) (s.t.d.def_ 45 (d := dd ("Roof", some "counts") "Roof.counts" "counts" (inClass (top 26) 34) [] []) rfl).choose_spec sc_Roof_counts rfl (fun _ _ => rfl) (fun cdv A outer s0 H E hr => wk_Roof_counts c t hr), FunD.bindsN (ps := ["self", "who", "group"]) (s.t.d.def_ 45 (d := dd ("Roof", some "counts") "Roof.counts" "counts" (inClass (top 26) 34) [] []) rfl).choose_spec (fun _ _ _ _ _ _ us hl => match us, hl with | [_, _, _], _ => rfl), He.meth_ok (s.t.d.fact 62 (f := .meth "Roof" "counts") rfl)⟩, c.cls⟩
      c43 := ⟨_, _, ["roof", "who"], fn_body (ps := ["roof", "who"]) (s.t.d.def_ 46 (d := dd ("next_groups", none) "next_groups" "next_groups" (top 28)) rfl).choose_spec sc_next_groups rfl (fun _ _ => rfl) (fun cdv A outer s0 H E hr => wk_next_groups c t hr), FunD.bindsN (ps := ["roof", "who"]) (s.t.d.def_ 46 (d := dd ("next_groups", none) "next_groups" "next_groups" (top 28)) rfl).choose_spec (fun _ _ _ _ _ _ us hl => match us, hl with | [_, _], _ => rfl), He.glo_ok X G (s.t.d.fact 74 (f := .glo "next_groups") rfl), (s.t.d.def_ 46 (d := dd ("next_groups", none) "next_groups" "next_groups" (top 28)) rfl).choose_spec.kp⟩
      c44 := ⟨_, _, ["roof", "who"], fn_body (ps := ["roof", "who"]) (s.t.d.def_ 47 (d := dd ("closed", none) "closed" "closed" (top 29)) rfl).choose_spec sc_closed rfl (fun _ _ => rfl) (fun cdv A outer s0 H E hr => wk_closed c t hr), FunD.bindsN (ps := ["roof", "who"]) (s.t.d.def_ 47 (d := dd ("closed", none) "closed" "closed" (top 29)) rfl).choose_spec (fun _ _ _ _ _ _ us hl => match us, hl with | [_, _], _ => rfl), He.glo_ok X G (s.t.d.fact 75 (f := .glo "closed") rfl), (s.t.d.def_ 47 (d := dd ("closed", none) "closed" "closed" (top 29)) rfl).choose_spec.kp⟩
      c45 := ⟨_, _, ["thing"], fn_body (ps := ["thing"]) (s.t.d.def_ 48 (d := dd ("is_rule", none) "is_rule" "is_rule" (top 33)) rfl).choose_spec sc_is_rule rfl (fun _ _ => rfl) (fun cdv A outer s0 H E hr => wk_is_rule c t hr), FunD.bindsN (ps := ["thing"]) (s.t.d.def_ 48 (d := dd ("is_rule", none) "is_rule" "is_rule" (top 33)) rfl).choose_spec (fun _ _ _ _ _ _ us hl => match us, hl with | [_], _ => rfl), He.glo_ok X G (s.t.d.fact 76 (f := .glo "is_rule") rfl), (s.t.d.def_ 48 (d := dd ("is_rule", none) "is_rule" "is_rule" (top 33)) rfl).choose_spec.kp⟩
      c46 := ⟨_, _, ["thing"], fn_body (ps := ["thing"]) (s.t.d.def_ 49 (d := dd ("need_rules", none) "need_rules" "need_rules" (top 34)) rfl).choose_spec sc_need_rules rfl (fun _ _ => rfl) (fun cdv A outer s0 H E hr => wk_need_rules c t hr), FunD.bindsN (ps := ["thing"]) (s.t.d.def_ 49 (d := dd ("need_rules", none) "need_rules" "need_rules" (top 34)) rfl).choose_spec (fun _ _ _ _ _ _ us hl => match us, hl with | [_], _ => rfl), He.glo_ok X G (s.t.d.fact 77 (f := .glo "need_rules") rfl), (s.t.d.def_ 49 (d := dd ("need_rules", none) "need_rules" "need_rules" (top 34)) rfl).choose_spec.kp⟩
      c47 := ⟨_, _, ["rules", "about", "thing"], fn_body (ps := ["rules", "about", "thing"]) (s.t.d.def_ 50 (d := dd ("place", none) "place" "place" (top 35)) rfl).choose_spec sc_place rfl (fun _ _ => rfl) (fun cdv A outer s0 H E hr => wk_place c t hr), FunD.bindsN (ps := ["rules", "about", "thing"]) (s.t.d.def_ 50 (d := dd ("place", none) "place" "place" (top 35)) rfl).choose_spec (fun _ _ _ _ _ _ us hl => match us, hl with | [_, _, _], _ => rfl), He.glo_ok X G (s.t.d.fact 78 (f := .glo "place") rfl), (s.t.d.def_ 50 (d := dd ("place", none) "place" "place" (top 35)) rfl).choose_spec.kp⟩
      c48 := ⟨_, _, ["rules", "about", "thing"], fn_body (ps := ["rules", "about", "thing"]) (s.t.d.def_ 51 (d := dd ("lets", none) "lets" "lets" (top 36)) rfl).choose_spec sc_lets rfl (fun _ _ => rfl) (fun cdv A outer s0 H E hr => wk_lets c t hr), FunD.bindsN (ps := ["rules", "about", "thing"]) (s.t.d.def_ 51 (d := dd ("lets", none) "lets" "lets" (top 36)) rfl).choose_spec (fun _ _ _ _ _ _ us hl => match us, hl with | [_, _, _], _ => rfl), He.glo_ok X G (s.t.d.fact 79 (f := .glo "lets") rfl), (s.t.d.def_ 51 (d := dd ("lets", none) "lets" "lets" (top 36)) rfl).choose_spec.kp⟩
      c49 := ⟨_, _, ["roof", "who"], fn_body (ps := ["roof", "who"]) (s.t.d.def_ 52 (d := dd ("about_of", none) "about_of" "about_of" (top 37)) rfl).choose_spec sc_about_of rfl (fun _ _ => rfl) (fun cdv A outer s0 H E hr => wk_about_of c t hr), FunD.bindsN (ps := ["roof", "who"]) (s.t.d.def_ 52 (d := dd ("about_of", none) "about_of" "about_of" (top 37)) rfl).choose_spec (fun _ _ _ _ _ _ us hl => match us, hl with | [_, _], _ => rfl), He.glo_ok X G (s.t.d.fact 80 (f := .glo "about_of") rfl), (s.t.d.def_ 52 (d := dd ("about_of", none) "about_of" "about_of" (top 37)) rfl).choose_spec.kp⟩
      c50 := ⟨_, _, ["roof", "rules", "things"], fn_body (ps := ["roof", "rules", "things"]) (s.t.d.def_ 53 (d := dd ("all_lets", none) "all_lets" "all_lets" (top 38)) rfl).choose_spec sc_all_lets rfl (fun _ _ => rfl) (fun cdv A outer s0 H E hr => wk_all_lets c t hr), FunD.bindsN (ps := ["roof", "rules", "things"]) (s.t.d.def_ 53 (d := dd ("all_lets", none) "all_lets" "all_lets" (top 38)) rfl).choose_spec (fun _ _ _ _ _ _ us hl => match us, hl with | [_, _, _], _ => rfl), He.glo_ok X G (s.t.d.fact 81 (f := .glo "all_lets") rfl), (s.t.d.def_ 53 (d := dd ("all_lets", none) "all_lets" "all_lets" (top 38)) rfl).choose_spec.kp⟩
      c51 := ⟨_, _, ["roof", "rules"], fn_body (ps := ["roof", "rules"]) (s.t.d.def_ 54 (d := dd ("needless", none) "needless" "needless" (top 39)) rfl).choose_spec sc_needless rfl (fun _ _ => rfl) (fun cdv A outer s0 H E hr => wk_needless c t hr), FunD.bindsN (ps := ["roof", "rules"]) (s.t.d.def_ 54 (d := dd ("needless", none) "needless" "needless" (top 39)) rfl).choose_spec (fun _ _ _ _ _ _ us hl => match us, hl with | [_, _], _ => rfl), He.glo_ok X G (s.t.d.fact 82 (f := .glo "needless") rfl), (s.t.d.def_ 54 (d := dd ("needless", none) "needless" "needless" (top 39)) rfl).choose_spec.kp⟩
      c52 := ⟨_, _, ["kind", "thing"], fn_body (ps := ["kind", "thing"]) (s.t.d.def_ 55 (d := dd ("is_part", none) "is_part" "is_part" (top 42)) rfl).choose_spec sc_is_part rfl (fun _ _ => rfl) (fun cdv A outer s0 H E hr => wk_is_part c t hr), FunD.bindsN (ps := ["kind", "thing"]) (s.t.d.def_ 55 (d := dd ("is_part", none) "is_part" "is_part" (top 42)) rfl).choose_spec (fun _ _ _ _ _ _ us hl => match us, hl with | [_, _], _ => rfl), He.glo_ok X G (s.t.d.fact 83 (f := .glo "is_part") rfl), (s.t.d.def_ 55 (d := dd ("is_part", none) "is_part" "is_part" (top 42)) rfl).choose_spec.kp⟩
      c53 := ⟨_, _, ["thing"], fn_body (ps := ["thing"]) (s.t.d.def_ 56 (d := dd ("is_row", none) "is_row" "is_row" (top 43)) rfl).choose_spec sc_is_row rfl (fun _ _ => rfl) (fun cdv A outer s0 H E hr => wk_is_row c t hr), FunD.bindsN (ps := ["thing"]) (s.t.d.def_ 56 (d := dd ("is_row", none) "is_row" "is_row" (top 43)) rfl).choose_spec (fun _ _ _ _ _ _ us hl => match us, hl with | [_], _ => rfl), He.glo_ok X G (s.t.d.fact 84 (f := .glo "is_row") rfl), (s.t.d.def_ 56 (d := dd ("is_row", none) "is_row" "is_row" (top 43)) rfl).choose_spec.kp⟩
      c54 := ⟨_, _, ["roof", "row"], fn_body (ps := ["roof", "row"]) (s.t.d.def_ 57 (d := dd ("do_more", none) "do_more" "do_more" (top 44)) rfl).choose_spec sc_do_more rfl (fun _ _ => rfl) (fun cdv A outer s0 H E hr => wk_do_more c t hr), FunD.bindsN (ps := ["roof", "row"]) (s.t.d.def_ 57 (d := dd ("do_more", none) "do_more" "do_more" (top 44)) rfl).choose_spec (fun _ _ _ _ _ _ us hl => match us, hl with | [_, _], _ => rfl), He.glo_ok X G (s.t.d.fact 85 (f := .glo "do_more") rfl), (s.t.d.def_ 57 (d := dd ("do_more", none) "do_more" "do_more" (top 44)) rfl).choose_spec.kp⟩
      c55 := ⟨_, _, ["roof", "row"], fn_body (ps := ["roof", "row"]) (s.t.d.def_ 58 (d := dd ("do", none) "do" "do" (top 45)) rfl).choose_spec sc_do rfl (fun _ _ => rfl) (fun cdv A outer s0 H E hr => wk_do c t hr), FunD.bindsN (ps := ["roof", "row"]) (s.t.d.def_ 58 (d := dd ("do", none) "do" "do" (top 45)) rfl).choose_spec (fun _ _ _ _ _ _ us hl => match us, hl with | [_, _], _ => rfl), He.glo_ok X G (s.t.d.fact 86 (f := .glo "do") rfl), (s.t.d.def_ 58 (d := dd ("do", none) "do" "do" (top 45)) rfl).choose_spec.kp⟩
      c56 := ⟨_, _, ["rows"], fn_body (ps := ["rows"]) (s.t.d.def_ 59 (d := dd ("played", none) "played" "played" (top 46)) rfl).choose_spec sc_played rfl (fun _ _ => rfl) (fun cdv A outer s0 H E hr => wk_played c t hr), FunD.bindsN (ps := ["rows"]) (s.t.d.def_ 59 (d := dd ("played", none) "played" "played" (top 46)) rfl).choose_spec (fun _ _ _ _ _ _ us hl => match us, hl with | [_], _ => rfl), He.glo_ok X G (s.t.d.fact 87 (f := .glo "played") rfl), (s.t.d.def_ 59 (d := dd ("played", none) "played" "played" (top 46)) rfl).choose_spec.kp⟩
      c57 := ⟨_, _, ["roof", "time"], fn_body (ps := ["roof", "time"]) (s.t.d.def_ 60 (d := dd ("need_time", none) "need_time" "need_time" (top 47)) rfl).choose_spec sc_need_time rfl (fun _ _ => rfl) (fun cdv A outer s0 H E hr => wk_need_time c t hr), FunD.bindsN (ps := ["roof", "time"]) (s.t.d.def_ 60 (d := dd ("need_time", none) "need_time" "need_time" (top 47)) rfl).choose_spec (fun _ _ _ _ _ _ us hl => match us, hl with | [_, _], _ => rfl), He.glo_ok X G (s.t.d.fact 88 (f := .glo "need_time") rfl), (s.t.d.def_ 60 (d := dd ("need_time", none) "need_time" "need_time" (top 47)) rfl).choose_spec.kp⟩
      c58 := ⟨_, _, ["roof", "time"], fn_body (ps := ["roof", "time"]) (s.t.d.def_ 61 (d := dd ("as_of", none) "as_of" "as_of" (top 48)) rfl).choose_spec sc_as_of rfl (fun _ _ => rfl) (fun cdv A outer s0 H E hr => wk_as_of c t hr), FunD.bindsN (ps := ["roof", "time"]) (s.t.d.def_ 61 (d := dd ("as_of", none) "as_of" "as_of" (top 48)) rfl).choose_spec (fun _ _ _ _ _ _ us hl => match us, hl with | [_, _], _ => rfl), He.glo_ok X G (s.t.d.fact 89 (f := .glo "as_of") rfl), (s.t.d.def_ 61 (d := dd ("as_of", none) "as_of" "as_of" (top 48)) rfl).choose_spec.kp⟩
      c59 := ⟨_, _, ["kind", "word"], fn_body (ps := ["kind", "word"]) (s.t.d.def_ 62 (d := dd ("part_of", none) "part_of" "part_of" (top 50)) rfl).choose_spec sc_part_of rfl (fun _ _ => rfl) (fun cdv A outer s0 H E hr => wk_part_of c t hr), FunD.bindsN (ps := ["kind", "word"]) (s.t.d.def_ 62 (d := dd ("part_of", none) "part_of" "part_of" (top 50)) rfl).choose_spec (fun _ _ _ _ _ _ us hl => match us, hl with | [_, _], _ => rfl), He.glo_ok X G (s.t.d.fact 90 (f := .glo "part_of") rfl), (s.t.d.def_ 62 (d := dd ("part_of", none) "part_of" "part_of" (top 50)) rfl).choose_spec.kp⟩
      c60 := ⟨_, _, ["line"], fn_body (ps := ["line"]) (s.t.d.def_ 63 (d := dd ("row_of", none) "row_of" "row_of" (top 51)) rfl).choose_spec sc_row_of rfl (fun _ _ => rfl) (fun cdv A outer s0 H E hr => wk_row_of c t hr), FunD.bindsN (ps := ["line"]) (s.t.d.def_ 63 (d := dd ("row_of", none) "row_of" "row_of" (top 51)) rfl).choose_spec (fun _ _ _ _ _ _ us hl => match us, hl with | [_], _ => rfl), He.glo_ok X G (s.t.d.fact 91 (f := .glo "row_of") rfl), (s.t.d.def_ 63 (d := dd ("row_of", none) "row_of" "row_of" (top 51)) rfl).choose_spec.kp⟩
      c61 := ⟨_, _, ["text"], fn_body (ps := ["text"]) (s.t.d.def_ 64 (d := dd ("read_journal", none) "read_journal" "read_journal" (top 52)) rfl).choose_spec sc_read_journal rfl (fun _ _ => rfl) (fun cdv A outer s0 H E hr => wk_read_journal c t hr), FunD.bindsN (ps := ["text"]) (s.t.d.def_ 64 (d := dd ("read_journal", none) "read_journal" "read_journal" (top 52)) rfl).choose_spec (fun _ _ _ _ _ _ us hl => match us, hl with | [_], _ => rfl), He.glo_ok X G (s.t.d.fact 92 (f := .glo "read_journal") rfl), (s.t.d.def_ 64 (d := dd ("read_journal", none) "read_journal" "read_journal" (top 52)) rfl).choose_spec.kp⟩
      c62 := ⟨_, _, ["_law_script", "_law_k"], fn_body (ps := ["_law_script", "_law_k"]) (s.t.d.def_ 65 (d := dd ("_law_cell", none) "_law_cell" "_law_cell" (top 54)) rfl).choose_spec sc_law_cell rfl (fun _ _ => rfl) (fun cdv A outer s0 H E hr => wk_law_cell c t hr), FunD.bindsN (ps := ["_law_script", "_law_k"]) (s.t.d.def_ 65 (d := dd ("_law_cell", none) "_law_cell" "_law_cell" (top 54)) rfl).choose_spec (fun _ _ _ _ _ _ us hl => match us, hl with | [_, _], _ => rfl), He.glo_ok X G (s.t.d.fact 93 (f := .glo "_law_cell") rfl), (s.t.d.def_ 65 (d := dd ("_law_cell", none) "_law_cell" "_law_cell" (top 54)) rfl).choose_spec.kp⟩
      c63 := ⟨_, _, ["_law_cell_here", "_law_k"], fn_body (ps := ["_law_cell_here", "_law_k"]) (s.t.d.def_ 66 (d := dd ("_law_drawn", none) "_law_drawn" "_law_drawn" (top 55)) rfl).choose_spec sc_law_drawn rfl (fun _ _ => rfl) (fun cdv A outer s0 H E hr => wk_law_drawn c t hr), FunD.bindsN (ps := ["_law_cell_here", "_law_k"]) (s.t.d.def_ 66 (d := dd ("_law_drawn", none) "_law_drawn" "_law_drawn" (top 55)) rfl).choose_spec (fun _ _ _ _ _ _ us hl => match us, hl with | [_, _], _ => rfl), He.glo_ok X G (s.t.d.fact 94 (f := .glo "_law_drawn") rfl), (s.t.d.def_ 66 (d := dd ("_law_drawn", none) "_law_drawn" "_law_drawn" (top 55)) rfl).choose_spec.kp⟩
      c64 := ⟨_, _, ["_law_dice", "_law_many"], fn_body (ps := ["_law_dice", "_law_many"]) (s.t.d.def_ 67 (d := dd ("_law_roll", none) "_law_roll" "_law_roll" (top 56)) rfl).choose_spec sc_law_roll rfl (fun _ _ => rfl) (fun cdv A outer s0 H E hr => wk_law_roll c t hr), FunD.bindsN (ps := ["_law_dice", "_law_many"]) (s.t.d.def_ 67 (d := dd ("_law_roll", none) "_law_roll" "_law_roll" (top 56)) rfl).choose_spec (fun _ _ _ _ _ _ us hl => match us, hl with | [_, _], _ => rfl), He.glo_ok X G (s.t.d.fact 95 (f := .glo "_law_roll") rfl), (s.t.d.def_ 67 (d := dd ("_law_roll", none) "_law_roll" "_law_roll" (top 56)) rfl).choose_spec.kp⟩
      c65 := ⟨_, _, ["_law_script", "_law_most"], fn_body (ps := ["_law_script", "_law_most"]) (s.t.d.def_ 68 (d := dd ("_law_rounds", none) "_law_rounds" "_law_rounds" (top 57)) rfl).choose_spec sc_law_rounds rfl (fun _ _ => rfl) (fun cdv A outer s0 H E hr => wk_law_rounds c t hr), FunD.bindsN (ps := ["_law_script", "_law_most"]) (s.t.d.def_ 68 (d := dd ("_law_rounds", none) "_law_rounds" "_law_rounds" (top 57)) rfl).choose_spec (fun _ _ _ _ _ _ us hl => match us, hl with | [_, _], _ => rfl), He.glo_ok X G (s.t.d.fact 96 (f := .glo "_law_rounds") rfl), (s.t.d.def_ 68 (d := dd ("_law_rounds", none) "_law_rounds" "_law_rounds" (top 57)) rfl).choose_spec.kp⟩
      c66 := ⟨_, _, ["_law_roof", "_law_row"], fn_bodyC (ps := ["_law_roof", "_law_row"]) (df := ("_law_do", none)) (s.t.d.def_ 71 (d := dd ("_law_do", none) "_law_do" "_law_do" (top 60)) rfl).choose_spec sc_law_do rfl (fun _ _ => rfl) (fun cdv A outer s0 H E hc hr => wk_law_do c t hr ap hc (TB _ (by simp [tf]))), FunD.bindsN (ps := ["_law_roof", "_law_row"]) (s.t.d.def_ 71 (d := dd ("_law_do", none) "_law_do" "_law_do" (top 60)) rfl).choose_spec (fun _ _ _ _ _ _ us hl => match us, hl with | [_, _], _ => rfl), He.glo_ok X G (s.t.d.fact 99 (f := .glo "_law_do") rfl), (s.t.d.def_ 71 (d := dd ("_law_do", none) "_law_do" "_law_do" (top 60)) rfl).choose_spec.kp⟩
      c67 := ⟨_, _, ["_law_e", "_law_own"], fn_body (ps := ["_law_e", "_law_own"]) (s.t.d.def_ 73 (d := dd ("_law_alone", none) "_law_alone" "_law_alone" (top 62)) rfl).choose_spec sc_law_alone rfl (fun _ _ => rfl) (fun cdv A outer s0 H E hr => wk_law_alone c t hr), FunD.bindsN (ps := ["_law_e", "_law_own"]) (s.t.d.def_ 73 (d := dd ("_law_alone", none) "_law_alone" "_law_alone" (top 62)) rfl).choose_spec (fun _ _ _ _ _ _ us hl => match us, hl with | [_, _], _ => rfl), He.glo_ok X G (s.t.d.fact 101 (f := .glo "_law_alone") rfl), (s.t.d.def_ 73 (d := dd ("_law_alone", none) "_law_alone" "_law_alone" (top 62)) rfl).choose_spec.kp⟩
      c68 := ⟨_, _, ["_law_script"], fn_bodyC (ps := ["_law_script"]) (df := ("law", none)) (s.t.d.def_ 74 (d := dd ("law", none) "law" "law" (top 63)) rfl).choose_spec sc_law rfl (fun _ _ => rfl) (fun cdv A outer s0 H E hc hr => wk_law c t hr ap hc (TB _ (by simp [tf]))), FunD.bindsN (ps := ["_law_script"]) (s.t.d.def_ 74 (d := dd ("law", none) "law" "law" (top 63)) rfl).choose_spec (fun _ _ _ _ _ _ us hl => match us, hl with | [_], _ => rfl), He.glo_ok X G (s.t.d.fact 102 (f := .glo "law") rfl), (s.t.d.def_ 74 (d := dd ("law", none) "law" "law" (top 63)) rfl).choose_spec.kp⟩
    }
end
/-- the law's def, over its table -/
theorem law_at {w : World} {mg : Str → Option Value} {f : Addr} {h : Heap} {K : PySem.W.Frag} (X : K.In h) (G : h.Ns mainGlobals mg) (s : He.SaysX fa fn ts tf ex w h K) (hf : mg ("law" : Str) = some (.ref f)) (n L : Nat) (run : ∀ ns : List Int, ns.length ≤ n → ∃ S', runF d_law N_law.length (enAt fs 100000 L) [.scr ns] [] = .ok (.bl true) S') :
    LamX.LawAtS PySem.Challenge.rw_joinedfolk_k61_refusals_apart w K (L2N.CX PP w) (4 * L + 4) n "_law_script" mg f h := by
  have m := Bool.and_eq_true_iff.mp s.more
  have m2 := Bool.and_eq_true_iff.mp m.2
  have m3 := Bool.and_eq_true_iff.mp m2.2
  have m4 := Bool.and_eq_true_iff.mp m3.2
  have ek := exK_of m.1 m2.1
  have m5 := Bool.and_eq_true_iff.mp m4.2
  have sz : SzK K w := szK_of (s.t.tab 0) m5.2
  have c := fx_of X G s ⟨roofErrB_ok m4.1, m5.1⟩
  obtain ⟨fd, F⟩ := s.t.d.def_ 74 (d := dd ("law", none) "law" "law" (top 63)) rfl
  have e := hf.symm.trans (He.glo_ok X G (s.t.d.fact 102 (f := .glo "law") rfl))
  cases e
  have bA := FunD.bindsA (ps := ["_law_script"]) F (fun _ _ _ _ _ _ us hl => match us, hl with | [_], _ => rfl)
  refine ⟨fd, tf.map (He.cT K), spLaw K d_law N_law.length (enAt fs 100000 L), fun p hp => ?_, fun p hp => ?_, fun p hp => ?_, fun s v => bA s [v] rfl, fun H a ns hl _ ht hs => ?_, fun base KB GB TB => ?_⟩
  · obtain ⟨q, hq, rfl⟩ := List.mem_map.mp hp
    exact s.empty q hq
  · obtain ⟨q, hq, rfl⟩ := List.mem_map.mp hp
    exact s.out q hq
  · obtain ⟨q, hq, rfl⟩ := List.mem_map.mp hp
    exact PySem.W.codeHd_of_K X (s.hd q hq)
  · obtain ⟨S', r⟩ := run ns hl
    refine ⟨a, ns, S', rfl, hs, fun p hp => ?_, r, fun _ => rfl⟩
    obtain ⟨q, hq, rfl⟩ := List.mem_map.mp hp
    exact LamX.TabS.nil (ht _ (List.mem_map.mpr ⟨q.1, List.mem_map.mpr ⟨q, hq, rfl⟩, rfl⟩))
  · have TB2 : ∀ p ∈ tf, LamX.TabB base mg (He.cT K p).1 (He.cT K p).2 := fun p hp => TB _ (List.mem_map.mpr ⟨p, hp, rfl⟩)
    exact fn_law (df := ("law", none)) (k := 4 * L + 3) F sc_law (fun cdv A outer s0 H E hc hr => wk_law c (tb_of X G c s ek sz m3.1 TB2 L) hr m3.1 hc (TB2 _ (by simp [tf])))
end WK
set_option maxHeartbeats 0
namespace PL
open PySem PySem.Spec PyProof.Rows L2 JF WK
theorem f62 (l : Nat) {S : SH} {ns : List Int} {i : Nat} (hz : ns.length ≤ 1000) (hi : i < max 1 ns.length) : (enAt fs 100000 (l + 1)).fn 62 [.scr ns, .int i] S = .ok (.int (cellV ns i)) S := cell_run (enAt fs 100000 l) hz hi
theorem f63 (l : Nat) (S : SH) (a k : Int) : (enAt fs 100000 (l + 1)).fn 63 [.int a, .int k] S = .ok (.int (drawV a k)) S := drawn_run (enAt fs 100000 l) S a k
theorem f64 (l : Nat) {S : SH} {n : Nat} {a b : Int} (h : S[n]? = some (diceC a b)) {many : Int} (h0 : 0 < many) (h1 : many < 2 ^ 64) : ∃ r a' b', 0 ≤ r ∧ r < many ∧ (enAt fs 100000 (l + 2)).fn 64 [.ref n, .int many] S = .ok (.int r) (S.set n (diceC a' b')) :=
  roll_run (en := enAt fs 100000 (l + 1)) (jd := 63) (fun S a k => f63 l S a k) h0 h1 h
theorem f65 (l : Nat) {ns : List Int} (hz : ns.length ≤ 63) : (enAt fs 100000 (l + 2)).fn 65 [.scr ns, .int 4] [] = .ok (.lst (refsOf (max 1 (min 4 ns.length)))) (diceOf (cellV ns) (max 1 (min 4 ns.length))) :=
  rounds_run (en := enAt fs 100000 (l + 1)) (jc := 62) (most := 4) (by omega) (by decide) fun i S hi => f62 l (by omega) (by omega)
abbrev en8 : En := enAt fs 100000 8
theorem p0 (a b : Int) (t0 t2 t3 t4 t5 t6 t7 : Option IV) : ∃ r a' b', 0 ≤ r ∧ r < 9 ∧ lawP0 en8 [t0, some (.ref 0), t2, t3, t4, t5, t6, t7] [diceC a b] = .nx [t0, some (.ref 0), some (.int (1 + r)), t3, t4, t5, t6, t7] [diceC a' b'] := by
  obtain ⟨r, a', b', h0, h1, e⟩ := f64 6 (S := [diceC a b]) (n := 0) (a := a) (b := b) rfl (many := 9) (by decide) (by decide)
  refine ⟨r, a', b', h0, h1, ?_⟩
  rw [List.set_cons_zero] at e
  simp [lawP0, dSet, dBin, addF, dFn, dCons, dNil, dCst, dVar, R.bind, liftS, ofO, e]
def Y (m : Int) : SH := ((endS (lawRest en8 [none, some (.ref 0), some (.int m), none, none, none, none, none] [diceC 0 0])).getD []).tail
theorem q1 (a b : Int) (t0 t3 t4 t5 t6 t7 : Option IV) : endS (lawRest en8 [t0, some (.ref 0), some (.int 1), t3, t4, t5, t6, t7] [diceC a b]) = some (diceC a b :: Y 1) ∧ (endT (lawRest en8 [t0, some (.ref 0), some (.int 1), t3, t4, t5, t6, t7] [diceC a b])).length = 8 := ⟨by kernel_rfl, by kernel_rfl⟩
theorem q2 (a b : Int) (t0 t3 t4 t5 t6 t7 : Option IV) : endS (lawRest en8 [t0, some (.ref 0), some (.int 2), t3, t4, t5, t6, t7] [diceC a b]) = some (diceC a b :: Y 2) ∧ (endT (lawRest en8 [t0, some (.ref 0), some (.int 2), t3, t4, t5, t6, t7] [diceC a b])).length = 8 := ⟨by kernel_rfl, by kernel_rfl⟩
theorem q3 (a b : Int) (t0 t3 t4 t5 t6 t7 : Option IV) : endS (lawRest en8 [t0, some (.ref 0), some (.int 3), t3, t4, t5, t6, t7] [diceC a b]) = some (diceC a b :: Y 3) ∧ (endT (lawRest en8 [t0, some (.ref 0), some (.int 3), t3, t4, t5, t6, t7] [diceC a b])).length = 8 := ⟨by kernel_rfl, by kernel_rfl⟩
theorem q4 (a b : Int) (t0 t3 t4 t5 t6 t7 : Option IV) : endS (lawRest en8 [t0, some (.ref 0), some (.int 4), t3, t4, t5, t6, t7] [diceC a b]) = some (diceC a b :: Y 4) ∧ (endT (lawRest en8 [t0, some (.ref 0), some (.int 4), t3, t4, t5, t6, t7] [diceC a b])).length = 8 := ⟨by kernel_rfl, by kernel_rfl⟩
theorem q5 (a b : Int) (t0 t3 t4 t5 t6 t7 : Option IV) : endS (lawRest en8 [t0, some (.ref 0), some (.int 5), t3, t4, t5, t6, t7] [diceC a b]) = some (diceC a b :: Y 5) ∧ (endT (lawRest en8 [t0, some (.ref 0), some (.int 5), t3, t4, t5, t6, t7] [diceC a b])).length = 8 := ⟨by kernel_rfl, by kernel_rfl⟩
theorem q6 (a b : Int) (t0 t3 t4 t5 t6 t7 : Option IV) : endS (lawRest en8 [t0, some (.ref 0), some (.int 6), t3, t4, t5, t6, t7] [diceC a b]) = some (diceC a b :: Y 6) ∧ (endT (lawRest en8 [t0, some (.ref 0), some (.int 6), t3, t4, t5, t6, t7] [diceC a b])).length = 8 := ⟨by kernel_rfl, by kernel_rfl⟩
theorem q7 (a b : Int) (t0 t3 t4 t5 t6 t7 : Option IV) : endS (lawRest en8 [t0, some (.ref 0), some (.int 7), t3, t4, t5, t6, t7] [diceC a b]) = some (diceC a b :: Y 7) ∧ (endT (lawRest en8 [t0, some (.ref 0), some (.int 7), t3, t4, t5, t6, t7] [diceC a b])).length = 8 := ⟨by kernel_rfl, by kernel_rfl⟩
theorem q8 (a b : Int) (t0 t3 t4 t5 t6 t7 : Option IV) : endS (lawRest en8 [t0, some (.ref 0), some (.int 8), t3, t4, t5, t6, t7] [diceC a b]) = some (diceC a b :: Y 8) ∧ (endT (lawRest en8 [t0, some (.ref 0), some (.int 8), t3, t4, t5, t6, t7] [diceC a b])).length = 8 := ⟨by kernel_rfl, by kernel_rfl⟩
theorem q9 (a b : Int) (t0 t3 t4 t5 t6 t7 : Option IV) : endS (lawRest en8 [t0, some (.ref 0), some (.int 9), t3, t4, t5, t6, t7] [diceC a b]) = some (diceC a b :: Y 9) ∧ (endT (lawRest en8 [t0, some (.ref 0), some (.int 9), t3, t4, t5, t6, t7] [diceC a b])).length = 8 := ⟨by kernel_rfl, by kernel_rfl⟩
theorem qr {r : Int} (h0 : 0 ≤ r) (h1 : r < 9) (a b : Int) (t0 t3 t4 t5 t6 t7 : Option IV) : ∃ Z, endS (lawRest en8 [t0, some (.ref 0), some (.int (1 + r)), t3, t4, t5, t6, t7] [diceC a b]) = some (diceC a b :: Z) ∧ (endT (lawRest en8 [t0, some (.ref 0), some (.int (1 + r)), t3, t4, t5, t6, t7] [diceC a b])).length = 8 := by
  have : r = 0 ∨ r = 1 ∨ r = 2 ∨ r = 3 ∨ r = 4 ∨ r = 5 ∨ r = 6 ∨ r = 7 ∨ r = 8 := by omega
  rcases this with rfl | rfl | rfl | rfl | rfl | rfl | rfl | rfl | rfl
  · exact ⟨_, q1 a b t0 t3 t4 t5 t6 t7⟩
  · exact ⟨_, q2 a b t0 t3 t4 t5 t6 t7⟩
  · exact ⟨_, q3 a b t0 t3 t4 t5 t6 t7⟩
  · exact ⟨_, q4 a b t0 t3 t4 t5 t6 t7⟩
  · exact ⟨_, q5 a b t0 t3 t4 t5 t6 t7⟩
  · exact ⟨_, q6 a b t0 t3 t4 t5 t6 t7⟩
  · exact ⟨_, q7 a b t0 t3 t4 t5 t6 t7⟩
  · exact ⟨_, q8 a b t0 t3 t4 t5 t6 t7⟩
  · exact ⟨_, q9 a b t0 t3 t4 t5 t6 t7⟩
theorem body (a b : Int) (t0 t2 t3 t4 t5 t6 t7 : Option IV) : ∃ τ2 a' b' Z, lawBody en8 [t0, some (.ref 0), t2, t3, t4, t5, t6, t7] [diceC a b] = .nx τ2 (diceC a' b' :: Z) ∧ τ2.length = 8 := by
  obtain ⟨r, a', b', h0, h1, e⟩ := p0 a b t0 t2 t3 t4 t5 t6 t7
  obtain ⟨Z, e2, e3⟩ := qr h0 h1 a' b' t0 t3 t4 t5 t6 t7
  refine ⟨_, a', b', Z, ?_, e3⟩
  show dSeq lawP0 lawRest en8 _ _ = _
  unfold dSeq
  rw [e]
  exact rs_nx e2
theorem eight {τ : Ta} (h : τ.length = 8) : ∃ t0 t1 t2 t3 t4 t5 t6 t7, τ = [t0, t1, t2, t3, t4, t5, t6, t7] := by
  match τ, h with
  | [a0, a1, a2, a3, a4, a5, a6, a7], _ => exact ⟨a0, a1, a2, a3, a4, a5, a6, a7, rfl⟩
/-- a round -/
theorem round {m i : Nat} (hi : i < m) {τ : Ta} {S : SH} (h : τ.length = 8 ∧ Dice m S) : ∃ τ' S', stepT (.nm 1) (dFrS (lv1 1) lawBody en8) S (.ref i) τ = .nx τ' S' ∧ τ'.length = 8 ∧ Dice m S' := by
  obtain ⟨t0, t1, t2, t3, t4, t5, t6, t7, rfl⟩ := eight h.1
  obtain ⟨a, b, e⟩ := h.2 i hi
  have dn : downT [i] [t0, some (.ref i), t2, t3, t4, t5, t6, t7] = [t0.bind (mapI (ren [i])), some (.ref 0), t2.bind (mapI (ren [i])), t3.bind (mapI (ren [i])), t4.bind (mapI (ren [i])), t5.bind (mapI (ren [i])), t6.bind (mapI (ren [i])), t7.bind (mapI (ren [i]))] := by
    simp [downT, mapI, ren]
  obtain ⟨τ2, a', b', Z, e2, l2⟩ := body a b (t0.bind (mapI (ren [i]))) (t2.bind (mapI (ren [i]))) (t3.bind (mapI (ren [i]))) (t4.bind (mapI (ren [i]))) (t5.bind (mapI (ren [i]))) (t6.bind (mapI (ren [i]))) (t7.bind (mapI (ren [i])))
  rw [← dn] at e2
  obtain ⟨τ3, S3, e4, l4, d4⟩ := fr_dice (k := 1) (i := i) rfl e e2 h.2
  exact ⟨τ3, S3, e4, l4.trans l2, d4⟩
theorem lawRun {ns : List Int} (hz : ns.length ≤ 63) : ∃ S', runF d_law N_law.length (enAt fs 100000 8) [.scr ns] [] = .ok (.bl true) S' := by
  have e9 := f65 6 hz
  obtain ⟨τ', S', e, _⟩ := loop_go (b := stepT (.nm 1) (dFrS (lv1 1) lawBody (enAt fs 100000 8))) (m := max 1 (min 4 ns.length)) (P := fun τ S => τ.length = 8 ∧ Dice (max 1 (min 4 ns.length)) S) (fun i hi τ S h => round hi h) (max 1 (min 4 ns.length)) 0 (by omega)
    [some (.scr ns), none, none, none, none, none, none, none] (diceOf (cellV ns) (max 1 (min 4 ns.length))) ⟨rfl, dice_of⟩
  refine ⟨S', ?_⟩
  have lenR : (refsOf (max 1 (min 4 ns.length))).length = max 1 (min 4 ns.length) := by simp [refsOf]
  have e' : forGo (Src.vs (refsOf (max 1 (min 4 ns.length)))).get (stepT (.nm 1) (dFrS (lv1 1) lawBody (enAt fs 100000 8))) ((Src.vs (refsOf (max 1 (min 4 ns.length)))).fuel (enAt fs 100000 8)) 0 [some (.scr ns), none, none, none, none, none, none, none] (diceOf (cellV ns) (max 1 (min 4 ns.length))) = .nx τ' S' := by
    simp only [Src.fuel, lenR]
    exact e
  show runF (dSeq (dFor (zSeq (dFn 65 2 (dCons (dVar 0) (dCons (dCst (.int 4)) dNil)))) (.nm 1) (dFrS (lv1 1) lawBody)) (dRet (dCst (.bl true)))) 8 (enAt fs 100000 8) [.scr ns] [] = _
  simp only [runF, dSeq, dFor, zSeq, dFn, dCons, dNil, dVar, dCst, dRet, R.bind, liftS, okS, seqSrc, List.map, List.replicate, List.length, List.cons_append, List.nil_append, List.getElem?_cons_zero, if_true, e9, e']
end PL
set_option maxHeartbeats 0
open PySem PySem.W PySem.Calls PyProof.Rows
theorem PySem.Challenge.cw_joinedfolk_k61_refusals_apart_holds : PySem.Challenge.rw_joinedfolk_k61_refusals_apart.Holds := by
  w_on; o_law
  refine HandSHeadRun.head_any (r := OpenLaw.row PySem.Challenge.rw_joinedfolk_k61_refusals_apart) (q := view (OpenLaw.row PySem.Challenge.rw_joinedfolk_k61_refusals_apart).prog [63]) (H := HT.hk) (ob := HT.ob) (M := 20000) (loose := HT.loose) (d := HandSHeadRun.topDef (OpenLaw.row PySem.Challenge.rw_joinedfolk_k61_refusals_apart).prog 63) (kwd := []) HT.ob_eq
    (by kernel_rfl) (fun s => by kernel_rfl) HT.run (by kernel_rfl) (by kernel_rfl) (by kernel_rfl) (by rfl) (by first | assumption | decide +kernel) (by decide +kernel) ⟨rfl, rfl, rfl, rfl, rfl, by decide +kernel⟩ ?hw ?hc
  case hw => w_witness2
  case hc =>
    refine LamX.walk_ofTsE (l := PySem.Challenge.rw_joinedfolk_k61_refusals_apart) (n := 63) (k := 4 * 8 + 4) (x := "_law_script") (CX := fun w => L2N.CX HT.PP w) rfl (by decide) (by kernel_rfl) ⟨rfl, by decide, by decide⟩ ?F (fun w H s e s' z => ?_)
    · intro w mg fa h Y G hmg0
      obtain ⟨K, KX, c⟩ := Y
      have hmg : mg ("law" : PySem.Str) = some (.ref fa) := by
        have e : (HandSHeadRun.topDef (OpenLaw.row PySem.Challenge.rw_joinedfolk_k61_refusals_apart).prog 63).name = ("law" : PySem.Str) := by kernel_rfl
        rw [← e]
        exact hmg0
      exact ⟨K, KX, WK.law_at KX G c hmg 63 8 fun ns hl => PL.lawRun hl⟩
    · obtain ⟨_, _, _, _, _, _, _, _, _, _, _, _, z⟩ := z
      exact z.elim
