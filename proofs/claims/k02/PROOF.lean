import PyProof.Rows.All
import Wide.All
import OpenK.AllK
import Wide.FinOn
import HandS.ForMost
import HandS.ForExc
import HandS.ExcInit
import HandS.Nested
import HandS.TupAny
import HandS.Deep
import HandS.Wide
import HandS.Conv
import HandS.IsInst
import HandS.SortInts
import HandS.RaiseMore
import HandS.WideBits
import PyProof.ReprRoads
import HandS.Zip
import PyProof.EnumMake
import PyProof.Draws
import HandS.Comp
import HandS.WordsExc
import HandS.ExcField
import HandS.TryMany
import HandS.ReplaceLit
import HandS.ReplaceDef
import HandS.HeadHook4
import HandS.HeadWalk
import HandS.Head0
import HandS.Head1
import HandS.Head2
import HandS.HeadEnd
import KE.SortData
import HandS.Style
import PyProof.Rows.ListMulArg
import HandS.TupSets
import HandS.SetFor
import HandS.Strs
import HandS.TryOnly
import PyProof.StrLawsRepr
import PySem.Challenge.RW_plainvoices_k02_whole_schools_judged
import HandS.HeadHook1
import HandS.HeadHook2
import KE.KStateDown
set_option Elab.async false
set_option linter.all false
set_option maxRecDepth 100000
set_option maxHeartbeats 2000000
namespace TT
open PySem PySem.Spec PyProof.Rows L2

/-! ## trees of values -/
abbrev D := PyData

/-- what a name may hold -/
inductive U where
  | d (x : D)
  | ref (n : Nat)
  | fn (f : Str)
  | clo (own : Bool) (k : Nat) (caps : List U)
  | tup (l : List U)

/-- what may change -/
inductive Cell where
  | lst (l : List U)
  | dct (l : List (D × U))

abbrev Sto := List Cell
abbrev Nv := List (Option U)

inductive Res (α : Type) where
  | ok (a : α) (s : Sto)
  | exn (c : Str) (u : Option U) (s : Sto)
  | bad

/-- how a statement ends -/
inductive RS where
  | nx (e : Nv) (s : Sto)
  | rt (u : U) (s : Sto)
  | bk (e : Nv) (s : Sto)
  | ct (e : Nv) (s : Sto)
  | exn (c : Str) (u : Option U) (e : Nv) (s : Sto)
  | bad

/-! ## the code of a made function -/
structure CodeI where
  name : Str
  qual : Str
  params : Arguments
  body : FuncBody
  scope : Scope
  fr : List Str

/-- what is fixed through the law -/
structure Gd where
  K : PySem.W.Frag
  fnA : Str → Option Addr
  clsA : Str → Option Addr
  clsF : Str → Str
  cod : Nat → Option CodeI
  T : List NdefX.NTab

def nt (o : HO) : Prop := ∀ ps, o ≠ .tbl ps
def Le (H H' : Hp) : Prop := ∀ b o, H b = some o → nt o → H' b = some o
theorem Le.refl (H : Hp) : Le H H := fun _ _ h _ => h
theorem Le.trans {H H1 H2 : Hp} (a : Le H H1) (b : Le H1 H2) : Le H H2 := fun c o h n => b c o (a c o h n) n
def dat (o : HO) : Prop := nt o ∧ ∀ φ, o ≠ .ext φ
theorem nt_lst {xs : List V} : nt (.lst xs) := fun _ z => nomatch z
theorem nt_tup {xs : List V} : nt (.tup xs) := fun _ z => nomatch z
theorem nt_dK {xs : List (Key × V)} : nt (.dK xs) := fun _ z => nomatch z
theorem nt_dT {xs : List (List Key × V)} : nt (.dT xs) := fun _ z => nomatch z
theorem nt_frz {o : Obj} {u : HO} : nt (.frz o u) := fun _ z => nomatch z
theorem nt_ext {f : Heap → Prop} : nt (.ext f) := fun _ z => nomatch z
theorem nt_xd {fs : List (Str × V)} : nt (.xd fs) := fun _ z => nomatch z
theorem dat_lst {xs : List V} : dat (.lst xs) := ⟨nt_lst, fun _ z => nomatch z⟩
theorem dat_tup {xs : List V} : dat (.tup xs) := ⟨nt_tup, fun _ z => nomatch z⟩
theorem dat_dK {xs : List (Key × V)} : dat (.dK xs) := ⟨nt_dK, fun _ z => nomatch z⟩
theorem dat_dT {xs : List (List Key × V)} : dat (.dT xs) := ⟨nt_dT, fun _ z => nomatch z⟩
theorem dat_frz {o : Obj} {u : HO} : dat (.frz o u) := ⟨nt_frz, fun _ z => nomatch z⟩

/-- the object at c is o, a captured cell -/
def CellO (c : Addr) (o : Obj) : HO := .ext fun h => h.get? c = some o
theorem cellO_nt {c : Addr} {o : Obj} : nt (CellO c o) := nt_ext
/-- the object at f is a function of the code ci that captured cl; its code object stands at c -/
def CloO (f : Addr) (ci : CodeI) (cl : List (Str × Addr)) (c : Addr) : HO := .ext fun h => ∃ (od : Option Addr) (sl : Array (Option Value)) (doc pm ctv : Value),
  h.get? f = some (⟨.type "function", od, .func { name := ci.name, qualname := ci.qual, params := ci.params, body := ci.body, scope := ci.scope, globals := mainGlobals, closure := cl, defaults := .none, kwdefaults := .none, doc := doc, pyModule := pm, annotations := none, code := .ref c, closureTuple := ctv, builtins := builtinsNs }, sl⟩ : Obj)
theorem cloO_nt {f : Addr} {ci : CodeI} {cl : List (Str × Addr)} {c : Addr} : nt (CloO f ci cl c) := nt_ext
theorem codeO_nt {c : Addr} {q : Str} : nt (LamX.CodeO c q) := nt_ext
/-- what a function captured -/
structure CapsOk (fr : List Str) (cl : List (Str × Addr)) : Prop where
  mem : ∀ y c, cl.lookup y = some c → y ∈ fr
  inj : ∀ x y c, cl.lookup x = some c → cl.lookup y = some c → x = y

/-! ## a key of a dict -/
def keyOf : D → Option Key
  | .int i => some (.inl i)
  | .str x => some (.inr x)
  | _ => none
def keysOf : List D → Option (List Key)
  | [] => some []
  | d :: ds => match keyOf d, keysOf ds with
    | some k, some ks => some (k :: ks)
    | _, _ => none

/-! ## values stand for trees -/
mutual
inductive RepD (K : PySem.W.Frag) (H : Hp) : D → V → Prop
  | none : RepD K H .none .non
  | bool (b : Bool) : RepD K H (.bool b) (.bl b)
  | int (i : Int) : RepD K H (.int i) (.int i)
  | str (x : Str) : RepD K H (.str x) (.str x)
  | tuple {a : Addr} {vs : List V} {l : List D} : SqT K H a vs → vs.length ≤ sizeLine → RepDs K H l vs → RepD K H (.tuple l) (.ref a)
  | list {a : Addr} {vs : List V} {l : List D} : Rd H a (.lst vs) → vs.length ≤ sizeLine → RepDs K H l vs → RepD K H (.list l) (.ref a)
  | dK {a : Addr} {kvs : List (Key × V)} {l : List (D × D)} : Rd H a (.dK kvs) → RepK K H l kvs → RepD K H (.dict l) (.ref a)
  | dT {a : Addr} {kvs : List (List Key × V)} {l : List (D × D)} : Rd H a (.dT kvs) → RepT K H l kvs → RepD K H (.dict l) (.ref a)
inductive RepDs (K : PySem.W.Frag) (H : Hp) : List D → List V → Prop
  | nil : RepDs K H [] []
  | cons {d : D} {v : V} {ds : List D} {vs : List V} : RepD K H d v → RepDs K H ds vs → RepDs K H (d :: ds) (v :: vs)
inductive RepK (K : PySem.W.Frag) (H : Hp) : List (D × D) → List (Key × V) → Prop
  | nil : RepK K H [] []
  | cons {k d : D} {q : Key} {v : V} {ds : List (D × D)} {vs : List (Key × V)} : keyOf k = some q → RepD K H d v → RepK K H ds vs → RepK K H ((k, d) :: ds) ((q, v) :: vs)
inductive RepT (K : PySem.W.Frag) (H : Hp) : List (D × D) → List (List Key × V) → Prop
  | nil : RepT K H [] []
  | cons {ks : List D} {d : D} {q : List Key} {v : V} {ds : List (D × D)} {vs : List (List Key × V)} : keysOf ks = some q → RepD K H d v → RepT K H ds vs → RepT K H ((.tuple ks, d) :: ds) ((q, v) :: vs)
end

theorem SqL.le {K : PySem.W.Frag} {H H' : Hp} {a : Addr} {xs : List V} (e : Le H H') (h : SqL K H a xs) : SqL K H' a xs := by
  rcases h with (h | ⟨o, h⟩) | h
  · exact .inl (.inl (e _ _ h nt_lst))
  · exact .inl (.inr ⟨o, e _ _ h nt_frz⟩)
  · exact .inr h
theorem SqT.le {K : PySem.W.Frag} {H H' : Hp} {a : Addr} {xs : List V} (e : Le H H') (h : SqT K H a xs) : SqT K H' a xs := by
  rcases h with (h | ⟨o, h⟩) | h
  · exact .inl (.inl (e _ _ h nt_tup))
  · exact .inl (.inr ⟨o, e _ _ h nt_frz⟩)
  · exact .inr h
theorem Rd.le {H H' : Hp} {a : Addr} {u : HO} (e : Le H H') (n : nt u) (h : Rd H a u) : Rd H' a u := by
  rcases h with h | ⟨o, h⟩
  · exact .inl (e _ _ h n)
  · exact .inr ⟨o, e _ _ h nt_frz⟩

mutual
theorem RepD.le {K : PySem.W.Frag} {H H' : Hp} (e : Le H H') : ∀ {d : D} {v : V}, RepD K H d v → RepD K H' d v
  | _, _, .none => .none
  | _, _, .bool b => .bool b
  | _, _, .int i => .int i
  | _, _, .str x => .str x
  | _, _, .tuple s z r => .tuple (SqT.le e s) z (RepDs.le e r)
  | _, _, .list s z r => .list (Rd.le e nt_lst s) z (RepDs.le e r)
  | _, _, .dK s r => .dK (Rd.le e nt_dK s) (RepK.le e r)
  | _, _, .dT s r => .dT (Rd.le e nt_dT s) (RepT.le e r)
theorem RepDs.le {K : PySem.W.Frag} {H H' : Hp} (e : Le H H') : ∀ {d : List D} {v : List V}, RepDs K H d v → RepDs K H' d v
  | _, _, .nil => .nil
  | _, _, .cons a b => .cons (RepD.le e a) (RepDs.le e b)
theorem RepK.le {K : PySem.W.Frag} {H H' : Hp} (e : Le H H') : ∀ {d : List (D × D)} {v : List (Key × V)}, RepK K H d v → RepK K H' d v
  | _, _, .nil => .nil
  | _, _, .cons k a b => .cons k (RepD.le e a) (RepK.le e b)
theorem RepT.le {K : PySem.W.Frag} {H H' : Hp} (e : Le H H') : ∀ {d : List (D × D)} {v : List (List Key × V)}, RepT K H d v → RepT K H' d v
  | _, _, .nil => .nil
  | _, _, .cons k a b => .cons k (RepD.le e a) (RepT.le e b)
end

/-- a captured cell's value: of the running def's own frame, or known to the heap -/
abbrev OwnV := Addr → V → Prop

mutual
inductive RepU (G : Gd) (H : Hp) (ρ : List Addr) (own : OwnV) : U → V → Prop
  | d {x : D} {v : V} : RepD G.K H x v → RepU G H ρ own (.d x) v
  | ref {n : Nat} {a : Addr} : ρ[n]? = some a → RepU G H ρ own (.ref n) (.ref a)
  | fn {f : Str} {a : Addr} : G.fnA f = some a → RepU G H ρ own (.fn f) (.ref a)
  | tup {a : Addr} {vs : List V} {l : List U} : SqT G.K H a vs → vs.length ≤ sizeLine → RepUs G H ρ own l vs → RepU G H ρ own (.tup l) (.ref a)
  | cloO {k : Nat} {ci : CodeI} {cl : List (Str × Addr)} {f c : Addr} {caps : List U} {vs : List V} : G.cod k = some ci → H f = some (CloO f ci cl c) → H c = some (LamX.CodeO c ci.qual) → CapsOk ci.fr cl →
      Paired (fun (y : Str) (v : V) => ∃ c, cl.lookup y = some c ∧ own c v) ci.fr vs → RepUs G H ρ own caps vs → RepU G H ρ own (.clo true k caps) (.ref f)
  | cloH {k : Nat} {ci : CodeI} {cl : List (Str × Addr)} {f c : Addr} {caps : List U} {vs : List V} : G.cod k = some ci → H f = some (CloO f ci cl c) → H c = some (LamX.CodeO c ci.qual) → CapsOk ci.fr cl →
      Paired (fun (y : Str) (v : V) => ∃ c o u, cl.lookup y = some c ∧ H c = some (CellO c o) ∧ o.data = .cell (some u) ∧ RelV v u) ci.fr vs → RepUs G H ρ own caps vs → RepU G H ρ own (.clo false k caps) (.ref f)
inductive RepUs (G : Gd) (H : Hp) (ρ : List Addr) (own : OwnV) : List U → List V → Prop
  | nil : RepUs G H ρ own [] []
  | cons {d : U} {v : V} {ds : List U} {vs : List V} : RepU G H ρ own d v → RepUs G H ρ own ds vs → RepUs G H ρ own (d :: ds) (v :: vs)
end

mutual
theorem RepU.le {G : Gd} {H H' : Hp} {ρ ρ' : List Addr} {own own' : OwnV} (e : Le H H') (p : ∀ (n : Nat) (a : Addr), ρ[n]? = some a → ρ'[n]? = some a) (ow : ∀ c v, own c v → own' c v) : ∀ {d : U} {v : V}, RepU G H ρ own d v → RepU G H' ρ' own' d v
  | _, _, .d r => .d (r.le e)
  | _, _, .ref h => .ref (p _ _ h)
  | _, _, .fn h => .fn h
  | _, _, .tup s z r => .tup (SqT.le e s) z (RepUs.le e p ow r)
  | _, _, .cloO k h h' co q r => .cloO k (e _ _ h cloO_nt) (e _ _ h' codeO_nt) co (Paired.mapP q fun _ _ ⟨c, z1, z2⟩ => ⟨c, z1, ow _ _ z2⟩) (RepUs.le e p ow r)
  | _, _, .cloH k h h' co q r => .cloH k (e _ _ h cloO_nt) (e _ _ h' codeO_nt) co (Paired.mapP q fun _ _ ⟨c, o, u, z1, z2, z3⟩ => ⟨c, o, u, z1, e _ _ z2 cellO_nt, z3⟩) (RepUs.le e p ow r)
theorem RepUs.le {G : Gd} {H H' : Hp} {ρ ρ' : List Addr} {own own' : OwnV} (e : Le H H') (p : ∀ (n : Nat) (a : Addr), ρ[n]? = some a → ρ'[n]? = some a) (ow : ∀ c v, own c v → own' c v) : ∀ {d : List U} {v : List V}, RepUs G H ρ own d v → RepUs G H' ρ' own' d v
  | _, _, .nil => .nil
  | _, _, .cons a b => .cons (RepU.le e p ow a) (RepUs.le e p ow b)
end

/-! ## what is hidden; steps -/
/-- the part of the heap that stays: neither hidden by callers nor one's own mutable -/
def vis (B ρ : List Addr) (H : Hp) : Hp := fun a => if a ∈ B ∨ a ∈ ρ then none else H a
theorem vis_some {B ρ : List Addr} {H : Hp} {a : Addr} {o : HO} (h : vis B ρ H a = some o) : a ∉ B ∧ a ∉ ρ ∧ H a = some o := by
  unfold vis at h
  split at h
  · cases h
  · rename_i n
    exact ⟨fun z => n (.inl z), fun z => n (.inr z), h⟩
theorem vis_of {B ρ : List Addr} {H : Hp} {a : Addr} {o : HO} (h1 : a ∉ B) (h2 : a ∉ ρ) (h : H a = some o) : vis B ρ H a = some o := by
  unfold vis
  rw [if_neg (fun z => z.elim h1 h2)]
  exact h
theorem vis_le {B ρ : List Addr} {H : Hp} : Le (vis B ρ H) H := fun _ _ h _ => (vis_some h).2.2

structure Stp (ρ : List Addr) (H : Hp) (ρ' : List Addr) (H' : Hp) : Prop where
  keep : ∀ b o, H b = some o → b ∉ ρ → nt o → H' b = some o
  dom : ∀ b, H' b = none → H b = none
  pre : ∀ (n : Nat) (a : Addr), ρ[n]? = some a → ρ'[n]? = some a
  new : ∀ b, b ∈ ρ' → b ∈ ρ ∨ H b = none
theorem Stp.refl (ρ : List Addr) (H : Hp) : Stp ρ H ρ H := ⟨fun _ _ h _ _ => h, fun _ h => h, fun _ _ h => h, fun _ h => .inl h⟩
theorem Stp.trans {ρ ρ1 ρ2 : List Addr} {H H1 H2 : Hp} (a : Stp ρ H ρ1 H1) (b : Stp ρ1 H1 ρ2 H2) : Stp ρ H ρ2 H2 where
  keep := fun c o h n t => b.keep c o (a.keep c o h n t) (fun z => by
    rcases a.new c z with z | z
    · exact n z
    · rw [z] at h; cases h) t
  dom := fun c h => a.dom c (b.dom c h)
  pre := fun n x h => b.pre n x (a.pre n x h)
  new := fun c h => by
    rcases b.new c h with z | z
    · exact a.new c z
    · exact .inr (a.dom c z)
/-- a step in which what is hidden may change -/
structure StpB (B ρ : List Addr) (H : Hp) (ρ' : List Addr) (H' : Hp) : Prop where
  keep : ∀ b o, H b = some o → b ∉ ρ → b ∉ B → nt o → H' b = some o
  dom : ∀ b, H' b = none → H b = none
  pre : ∀ (n : Nat) (a : Addr), ρ[n]? = some a → ρ'[n]? = some a
  new : ∀ b, b ∈ ρ' → b ∈ ρ ∨ H b = none
theorem Stp.toB {B ρ ρ' : List Addr} {H H' : Hp} (s : Stp ρ H ρ' H') : StpB B ρ H ρ' H' := ⟨fun b o h n _ t => s.keep b o h n t, s.dom, s.pre, s.new⟩
theorem StpB.trans {B ρ ρ1 ρ2 : List Addr} {H H1 H2 : Hp} (a : StpB B ρ H ρ1 H1) (b : StpB B ρ1 H1 ρ2 H2) : StpB B ρ H ρ2 H2 where
  keep := fun c o h n nb t => b.keep c o (a.keep c o h n nb t) (fun z => by
    rcases a.new c z with z | z
    · exact n z
    · rw [z] at h; cases h) nb t
  dom := fun c h => a.dom c (b.dom c h)
  pre := fun n x h => b.pre n x (a.pre n x h)
  new := fun c h => by
    rcases b.new c h with z | z
    · exact a.new c z
    · exact .inr (a.dom c z)
theorem StpB.le {B ρ ρ' : List Addr} {H H' : Hp} (s : StpB B ρ H ρ' H') : Le (vis B ρ H) (vis B ρ' H') := fun b o h t => by
  obtain ⟨h1, h2, h3⟩ := vis_some h
  refine vis_of h1 (fun z => ?_) (s.keep b o h3 h2 h1 t)
  rcases s.new b z with z | z
  · exact h2 z
  · rw [z] at h3; cases h3
theorem upd_dom {H : Hp} {p : Addr} {o : HO} {b : Addr} (h : upd H p o b = none) : H b = none := by
  by_cases e : b = p
  · rw [e, upd_same] at h; cases h
  · rw [upd_ne e] at h; exact h
theorem Stp.le {B ρ ρ' : List Addr} {H H' : Hp} (s : Stp ρ H ρ' H') : Le (vis B ρ H) (vis B ρ' H') := fun b o h t => by
  obtain ⟨h1, h2, h3⟩ := vis_some h
  refine vis_of h1 (fun z => ?_) (s.keep b o h3 h2 t)
  rcases s.new b z with z | z
  · exact h2 z
  · rw [z] at h3; cases h3
/-- a new object -/
theorem Stp.laid {ρ : List Addr} {H : Hp} {p : Addr} {o : HO} (h : H p = none) : Stp ρ H ρ (upd H p o) :=
  ⟨fun b o' e _ _ => by rw [upd_ne (ne_of_none e h)]; exact e, fun _ e => upd_dom e, fun _ _ h => h, fun _ h => .inl h⟩
/-- a new mutable object -/
theorem Stp.laidRef {ρ : List Addr} {H : Hp} {p : Addr} {o : HO} (h : H p = none) : Stp ρ H (ρ ++ [p]) (upd H p o) :=
  ⟨fun b o' e _ _ => by rw [upd_ne (ne_of_none e h)]; exact e, fun _ e => upd_dom e, fun n a e => by
    have hn : n < ρ.length := (List.getElem?_eq_some_iff.mp e).1
    rw [List.getElem?_append_left hn]; exact e, fun b hb => by
    rcases List.mem_append.mp hb with z | z
    · exact .inl z
    · have e : b = p := by simpa using z
      rw [e]; exact .inr h⟩
/-- a mutable object is written -/
theorem Stp.write {ρ : List Addr} {H : Hp} {a : Addr} {o : HO} (h : a ∈ ρ) : Stp ρ H ρ (upd H a o) :=
  ⟨fun b o' e hb _ => by rw [upd_ne (fun z => hb (by rw [z]; exact h))]; exact e, fun _ e => upd_dom e, fun _ _ h => h, fun _ h => .inl h⟩

/-! ## the state -/
abbrev OwnS := L2.St → OwnV
def ownV (X : Cx) : OwnS := fun σ c v => ∃ (j : Nat) (x : Str), X.N[j]? = some x ∧ X.env.cells.lookup x = some c ∧ σ[j]? = some (some v)
def ownVold (X : Cx) (σ : L2.St) : OwnV := fun c v => ∃ (j : Nat) (x : Str), X.N[j]? = some x ∧ X.env.cells.lookup x = some c ∧ σ[j]? = some (some v)

inductive RepC (G : Gd) (H : Hp) (ρ : List Addr) (own : OwnV) : Cell → HO → Prop
  | lst {l : List U} {vs : List V} : vs.length ≤ sizeLine → RepUs G H ρ own l vs → RepC G H ρ own (.lst l) (.lst vs)
  | dK {l : List (D × U)} {kvs : List (Key × V)} : Paired (fun (p : D × U) (q : Key × V) => keyOf p.1 = some q.1 ∧ RepU G H ρ own p.2 q.2) l kvs → RepC G H ρ own (.dct l) (.dK kvs)
  | dT {l : List (D × U)} {kvs : List (List Key × V)} : Paired (fun (p : D × U) (q : List Key × V) => (∃ ks, p.1 = .tuple ks ∧ keysOf ks = some q.1) ∧ RepU G H ρ own p.2 q.2) l kvs → RepC G H ρ own (.dct l) (.dT kvs)
theorem RepC.le {G : Gd} {H H' : Hp} {ρ ρ' : List Addr} {own own' : OwnV} (e : Le H H') (p : ∀ (n : Nat) (a : Addr), ρ[n]? = some a → ρ'[n]? = some a) (ow : ∀ c v, own c v → own' c v) {c : Cell} {o : HO} (r : RepC G H ρ own c o) : RepC G H' ρ' own' c o := by
  cases r with
  | lst z r => exact .lst z (r.le e p ow)
  | dK r => exact .dK (Paired.mapP r fun _ _ z => ⟨z.1, z.2.le e p ow⟩)
  | dT r => exact .dT (Paired.mapP r fun _ _ z => ⟨z.1, z.2.le e p ow⟩)
theorem RepC.nt {G : Gd} {H : Hp} {ρ : List Addr} {own : OwnV} {c : Cell} {o : HO} (r : RepC G H ρ own c o) : TT.nt o := by
  cases r with
  | lst z r => exact nt_lst
  | dK r => exact nt_dK
  | dT r => exact nt_dT

/-- the store's cells stand in the heap -/
structure RelS (G : Gd) (B ρ : List Addr) (own : OwnV) (st : Sto) (H : Hp) : Prop where
  len : st.length = ρ.length
  nd : ρ.Nodup
  cell : ∀ (n : Nat) c, st[n]? = some c → ∃ a o, ρ[n]? = some a ∧ H a = some o ∧ RepC G (vis B ρ H) ρ own c o
  hid : ∀ b ∈ B, b ∉ ρ ∧ ∃ o, H b = some o ∧ dat o
  tabs : NdefX.TabsN G.T H
structure Rel (oS : OwnS) (G : Gd) (B ρ : List Addr) (en : Nv) (st : Sto) (σ : L2.St) (H : Hp) : Prop where
  sto : RelS G B ρ (oS σ) st H
  len : en.length = σ.length
  env : ∀ (i : Nat) u, en[i]? = some (some u) → ∃ v, σ[i]? = some (some v) ∧ RepU G (vis B ρ H) ρ (oS σ) u v
theorem RelS.own {G : Gd} {B ρ : List Addr} {own own' : OwnV} {st : Sto} {H : Hp} (r : RelS G B ρ own st H) (ow : ∀ c v, own c v → own' c v) : RelS G B ρ own' st H :=
  ⟨r.len, r.nd, fun n c h => by
    obtain ⟨a, o, h1, h2, h3⟩ := r.cell n c h
    exact ⟨a, o, h1, h2, h3.le (Le.refl _) (fun _ _ z => z) ow⟩, r.hid, r.tabs⟩
theorem RelS.at {G : Gd} {B ρ : List Addr} {own : OwnV} {st : Sto} {H : Hp} (r : RelS G B ρ own st H) {n : Nat} {a : Addr} (h : ρ[n]? = some a) : ∃ c o, st[n]? = some c ∧ H a = some o ∧ RepC G (vis B ρ H) ρ own c o := by
  have hn : n < st.length := by rw [r.len]; exact (List.getElem?_eq_some_iff.mp h).1
  obtain ⟨a', o, h1, h2, h3⟩ := r.cell n st[n] (List.getElem?_eq_getElem hn)
  rw [h] at h1
  cases h1
  exact ⟨st[n], o, List.getElem?_eq_getElem hn, h2, h3⟩
theorem RelS.mem {G : Gd} {B ρ : List Addr} {own : OwnV} {st : Sto} {H : Hp} (r : RelS G B ρ own st H) {a : Addr} (h : a ∈ ρ) : ∃ o, H a = some o ∧ TT.nt o := by
  obtain ⟨n, hn⟩ := List.getElem?_of_mem h
  obtain ⟨c, o, _, h2, h3⟩ := r.at hn
  exact ⟨o, h2, h3.nt⟩
/-- a new object that stays -/
theorem RelS.laid {G : Gd} {B ρ : List Addr} {own : OwnV} {st : Sto} {H : Hp} (r : RelS G B ρ own st H) {p : Addr} {o : HO} (h : H p = none) : RelS G B ρ own st (upd H p o) := by
  have s : Stp ρ H ρ (upd H p o) := Stp.laid h
  refine ⟨r.len, r.nd, fun n c hc => ?_, fun b hb => ?_, r.tabs.ext fun b o' e => by rw [upd_ne (ne_of_none e h)]; exact e⟩
  · obtain ⟨a, o', h1, h2, h3⟩ := r.cell n c hc
    exact ⟨a, o', h1, by rw [upd_ne (ne_of_none h2 h)]; exact h2, h3.le s.le (fun _ _ z => z) fun _ _ z => z⟩
  · obtain ⟨h1, o', h2, h3⟩ := r.hid b hb
    exact ⟨h1, o', by rw [upd_ne (ne_of_none h2 h)]; exact h2, h3⟩
theorem RelS.fresh {G : Gd} {B ρ : List Addr} {own : OwnV} {st : Sto} {H : Hp} (r : RelS G B ρ own st H) {p : Addr} (h : H p = none) : p ∉ B ∧ p ∉ ρ :=
  ⟨fun z => (by
    obtain ⟨_, o, e, _⟩ := r.hid p z
    rw [h] at e; cases e), fun z => (by
    obtain ⟨o, e, _⟩ := r.mem z
    rw [h] at e; cases e)⟩
theorem Rel.laid {oS : OwnS} {G : Gd} {B ρ : List Addr} {en : Nv} {st : Sto} {σ : L2.St} {H : Hp} (r : Rel oS G B ρ en st σ H) {p : Addr} {o : HO} (h : H p = none) : Rel oS G B ρ en st σ (upd H p o) :=
  ⟨r.sto.laid h, r.len, fun i u hu => by
    obtain ⟨v, h1, h2⟩ := r.env i u hu
    exact ⟨v, h1, h2.le (Stp.laid h).le (fun _ _ z => z) fun _ _ z => z⟩⟩
theorem RepU.stp {oS : OwnS} {G : Gd} {B ρ ρ' : List Addr} {σ : L2.St} {H H' : Hp} {u : U} {v : V} (s : Stp ρ H ρ' H') (r : RepU G (vis B ρ H) ρ (oS σ) u v) : RepU G (vis B ρ' H') ρ' (oS σ) u v := r.le s.le s.pre fun _ _ z => z
theorem RepUs.stp {oS : OwnS} {G : Gd} {B ρ ρ' : List Addr} {σ : L2.St} {H H' : Hp} {u : List U} {v : List V} (s : Stp ρ H ρ' H') (r : RepUs G (vis B ρ H) ρ (oS σ) u v) : RepUs G (vis B ρ' H') ρ' (oS σ) u v := r.le s.le s.pre fun _ _ z => z
/-! ## what is asked -/
def ExcR (oS : OwnS) (G : Gd) (B ρ' : List Addr) (σ : L2.St) (H' : Hp) (c : Str) (u : Option U) (C : Addr) (d : Option Addr) : Prop := G.clsA c = some C ∧
  match u with
  | some u => ∃ dd v, d = some dd ∧ H' dd = some (.xd [(G.clsF c, v)]) ∧ RepU G (vis B ρ' H') ρ' (oS σ) u v
  | none => d = none
/-- behind an expression -/
def PostE {α : Type} (oS : OwnS) (G : Gd) (W : WX) (B ρ : List Addr) (en : Nv) (σ : L2.St) (H : Hp) (Q : α → List Addr → Hp → Sto → Prop) : Res α → Prop
  | .ok u st' => ∀ ρ' H', Stp ρ H ρ' H' → Rel oS G B ρ' en st' σ H' → Q u ρ' H' st'
  | .exn c u st' => ∀ ρ' H' (C : Addr) (d : Option Addr), Stp ρ H ρ' H' → RelS G B ρ' (oS σ) st' H' → ExcR oS G B ρ' σ H' c u C d → W (.ref C) d σ H'
  | .bad => False
def Res.bind {α β : Type} : Res α → (α → Sto → Res β) → Res β
  | .ok a s, k => k a s
  | .exn c u s, _ => .exn c u s
  | .bad, _ => .bad
section
variable {α β : Type} {X : Cx} {oS : OwnS} {G : Gd} {W : WX} {B ρ ρ' : List Addr} {en : Nv} {σ : L2.St} {H H' : Hp}
theorem PostE.step {Q : α → List Addr → Hp → Sto → Prop} {r : Res α} (s : Stp ρ H ρ' H') (h : PostE oS G W B ρ en σ H Q r) : PostE oS G W B ρ' en σ H' Q r := by
  cases r with
  | ok u st => exact fun ρ2 H2 s2 r2 => h ρ2 H2 (s.trans s2) r2
  | exn c u st => exact fun ρ2 H2 C d s2 r2 => h ρ2 H2 C d (s.trans s2) r2
  | bad => exact h
theorem PostE.mono {Q Q' : α → List Addr → Hp → Sto → Prop} {r : Res α} (h : PostE oS G W B ρ en σ H Q r) (i : ∀ u st ρ' H', r = .ok u st → Stp ρ H ρ' H' → Rel oS G B ρ' en st σ H' → Q u ρ' H' st → Q' u ρ' H' st) : PostE oS G W B ρ en σ H Q' r := by
  cases r with
  | ok u st => exact fun ρ2 H2 s2 r2 => i u st ρ2 H2 rfl s2 r2 (h ρ2 H2 s2 r2)
  | exn c u st => exact h
  | bad => exact h
theorem PostE.bind {Q : β → List Addr → Hp → Sto → Prop} {r : Res α} {k : α → Sto → Res β} (h : PostE oS G W B ρ en σ H Q (r.bind k)) :
    PostE oS G W B ρ en σ H (fun u ρ1 H1 st1 => PostE oS G W B ρ1 en σ H1 Q (k u st1)) r := by
  cases r with
  | ok u st => exact fun ρ2 H2 s2 r2 => PostE.step s2 h
  | exn c u st => exact h
  | bad => exact h
end
abbrev SemE := Nv → Sto → Res U
abbrev SemA := Nv → Sto → Res (List U)
abbrev SemT := Nv → Sto → Res Bool
def rdE (oS : OwnS) (G : Gd) (W : WX) (f : SemE) : TE := fun σ H Q => ∃ B ρ en st, Rel oS G B ρ en st σ H ∧
  PostE oS G W B ρ en σ H (fun u ρ' H' _ => ∀ v, RepU G (vis B ρ' H') ρ' (oS σ) u v → Q v H') (f en st)
def rdA (oS : OwnS) (G : Gd) (W : WX) (f : SemA) : TA := fun σ H Q => ∃ B ρ en st, Rel oS G B ρ en st σ H ∧
  PostE oS G W B ρ en σ H (fun u ρ' H' _ => ∀ v, RepUs G (vis B ρ' H') ρ' (oS σ) u v → Q v H') (f en st)
def rdT (oS : OwnS) (G : Gd) (W : WX) (f : SemT) : TT := fun σ H Q => ∃ B ρ en st, Rel oS G B ρ en st σ H ∧
  PostE oS G W B ρ en σ H (fun u ρ' H' _ => Q u H') (f en st)
/-! ## the judgements -/
def SE (X : Cx) (oS : OwnS) (G : Gd) (W : WX) (e : Expr) (f : SemE) : Prop := PE X e (rdE oS G W f)
def SA (X : Cx) (oS : OwnS) (G : Gd) (W : WX) (es : List Expr) (f : SemA) : Prop := PA X es (rdA oS G W f)
def ST (X : Cx) (oS : OwnS) (G : Gd) (W : WX) (e : Expr) (f : SemT) : Prop := PT X e (rdT oS G W f)
theorem PE.imp {X : Cx} {e : Expr} {t t' : TE} (h : PE X e t) (i : ∀ σ H Q, t' σ H Q → t σ H Q) : PE X e t' := ⟨fun pins s σ H Q I w => h.run pins s σ H Q I (i σ H Q w)⟩
theorem PT.imp {X : Cx} {e : Expr} {t t' : TT} (h : PT X e t) (i : ∀ σ H Q, t' σ H Q → t σ H Q) : PT X e t' := ⟨fun pins s σ H Q I w => h.run pins s σ H Q I (i σ H Q w)⟩
theorem PA.imp {X : Cx} {e : List Expr} {t t' : TA} (h : PA X e t) (i : ∀ σ H Q, t' σ H Q → t σ H Q) : PA X e t' := ⟨fun pos pins s σ H Q I w => h.run pos pins s σ H Q I (i σ H Q w)⟩

/-! ## names, constants -/
section
variable {X : Cx} {oS : OwnS} {G : Gd} {W : WX}
def mVar (i : Nat) : SemE := fun en st => match en[i]? with
  | some (some u) => .ok u st
  | _ => .bad
def mC (d : D) : SemE := fun _ st => .ok (.d d) st
theorem se_var (i : Nat) {x : Str} {pos : Pos} (hN : X.N[i]? = some x) (hv : Vis X.env.scope x) (hd : (x == ("__debug__" : Str)) = false := by decide) (hcd : (x == ("__classdict__" : Str)) = false := by decide) : SE X oS G W (.Name x pos) (mVar i) := by
  refine PE.imp (pe_var hN hv hd hcd) fun σ H Q ⟨B, ρ, en, st, R, h⟩ => ?_
  unfold mVar at h
  split at h
  · rename_i u hu
    obtain ⟨v, h1, h2⟩ := R.env i u hu
    exact ⟨v, h1, h ρ H (Stp.refl _ _) R v h2⟩
  · exact h.elim
theorem se_c {e : Expr} {d : D} {v : V} (h : PE X e (tC v)) (r : ∀ H, RepD G.K H d v) : SE X oS G W e (mC d) := by
  refine PE.imp h fun σ H Q ⟨B, ρ, en, st, R, h⟩ => ?_
  exact h ρ H (Stp.refl _ _) R v (.d (r _))
theorem se_int {i j pos} : SE X oS G W (.Constant (.int i) j pos) (mC (.int i)) := se_c pe_int fun _ => .int i
theorem se_bool {i j pos} : SE X oS G W (.Constant (.bool i) j pos) (mC (.bool i)) := se_c pe_bl fun _ => .bool i
theorem se_str {i j pos} : SE X oS G W (.Constant (.str i) j pos) (mC (.str i)) := se_c pe_str fun _ => .str i
theorem se_none {j pos} : SE X oS G W (.Constant .none j pos) (mC .none) := se_c pe_non fun _ => .none
/-- a module's constant -/
theorem se_gl {x : Str} {d : D} {v : V} {u : Value} {pos : Pos} (hg : Gl X x) (hm : X.mg x = some u) (rv : RelV v u) (r : ∀ H, RepD G.K H d v) (hd : (x == ("__debug__" : Str)) = false := by decide) : SE X oS G W (.Name x pos) (mC d) := se_c (pe_glob hg hm rv hd) r
/-- a def as a value -/
theorem se_fn {x : Str} {a : Addr} {pos : Pos} (hg : Gl X x) (hm : X.mg x = some (.ref a)) (ha : G.fnA x = some a) (hd : (x == ("__debug__" : Str)) = false := by decide) : SE X oS G W (.Name x pos) (fun _ st => .ok (.fn x) st) := by
  refine PE.imp (pe_glob hg hm (show RelV (V.ref a) _ from rfl) hd) fun σ H Q ⟨B, ρ, en, st, R, h⟩ => ?_
  exact h ρ H (Stp.refl _ _) R _ (.fn ha)

/-! ## lists of arguments -/
def mNil : SemA := fun _ st => .ok [] st
def mCons (f : SemE) (g : SemA) : SemA := fun en st => (f en st).bind fun u st => (g en st).bind fun us st => .ok (u :: us) st
theorem sa_nil : SA X oS G W [] mNil := PA.imp pa_nil fun σ H Q ⟨B, ρ, en, st, R, h⟩ => h ρ H (Stp.refl _ _) R [] .nil
theorem sa_cons {e : Expr} {es : List Expr} {f : SemE} {g : SemA} (he : SE X oS G W e f) (hs : SA X oS G W es g) (hst : starEach (e :: es) X.env = (false, eval e X.env) :: starEach es X.env := by rfl) : SA X oS G W (e :: es) (mCons f g) := by
  refine PA.imp (pa_cons he hs hst) fun σ H Q ⟨B, ρ, en, st, R, h⟩ => ?_
  refine ⟨B, ρ, en, st, R, (PostE.bind h).mono fun u st1 ρ1 H1 _ s1 R1 h1 v rv => ?_⟩
  refine ⟨B, ρ1, en, st1, R1, (PostE.bind h1).mono fun us st2 ρ2 H2 _ s2 R2 h2 vs rvs => ?_⟩
  exact h2 ρ2 H2 (Stp.refl _ _) R2 (v :: vs) (.cons (rv.stp s2) rvs)

/-! ## operators -/
/-- what a two-place operation is worth, as the layer's reading r lets it be shown -/
def OpS (oS : OwnS) (G : Gd) (W : WX) (r : R2) (g : U → U → Sto → Res U) : Prop :=
  ∀ (B ρ : List Addr) (en : Nv) (st : Sto) (σ : L2.St) (H : Hp) (u w : U) (x y : V) (Q : VK), Rel oS G B ρ en st σ H → RepU G (vis B ρ H) ρ (oS σ) u x → RepU G (vis B ρ H) ρ (oS σ) w y →
    PostE oS G W B ρ en σ H (fun u ρ' H' _ => ∀ v, RepU G (vis B ρ' H') ρ' (oS σ) u v → Q v H') (g u w st) → r x y H Q
def mOp (g : U → U → Sto → Res U) (fa fb : SemE) : SemE := fun en st => (fa en st).bind fun u st => (fb en st).bind fun w st => g u w st
theorem rd_op {r : R2} {g : U → U → Sto → Res U} {fa fb : SemE} (hg : OpS oS G W r g) {σ : L2.St} {H : Hp} {Q : VK} (h : rdE oS G W (mOp g fa fb) σ H Q) : tOp r (rdE oS G W fa) (rdE oS G W fb) σ H Q := by
  obtain ⟨B, ρ, en, st, R, h⟩ := h
  refine ⟨B, ρ, en, st, R, (PostE.bind h).mono fun u st1 ρ1 H1 _ s1 R1 h1 v rv => ?_⟩
  refine ⟨B, ρ1, en, st1, R1, (PostE.bind h1).mono fun w st2 ρ2 H2 _ s2 R2 h2 y ry => ?_⟩
  exact hg B ρ2 en st2 σ H2 u w v y Q R2 (rv.stp s2) ry h2
theorem se_op {op : Operator} {r : R2} {g : U → U → Sto → Res U} {a b : Expr} {fa fb : SemE} {pos : Pos} (ho : OpR X (binaryOp op) r) (hg : OpS oS G W r g) (ha : SE X oS G W a fa) (hb : SE X oS G W b fb) : SE X oS G W (.BinOp a op b pos) (mOp g fa fb) :=
  PE.imp (pe_op ho ha hb) fun _ _ _ h => rd_op hg h
theorem se_cmp {op : CmpOp} {r : R2} {g : U → U → Sto → Res U} {a b : Expr} {fa fb : SemE} {pos : Pos} (ho : OpR X (compareOp op) r) (hg : OpS oS G W r g) (ha : SE X oS G W a fa) (hb : SE X oS G W b fb) (hm : behindInMarks op b = false) : SE X oS G W (.Compare a [op] [b] pos) (mOp g fa fb) :=
  PE.imp (pe_cmpR ho ha hb hm) fun _ _ _ h => rd_op hg h
theorem OpR.or {f : Value → Value → Sem Value} {r r' : R2} (h : OpR X f r) (h' : OpR X f r') : OpR X f (fun x y H Q => r x y H Q ∨ r' x y H Q) := fun pins s σ H x y v u Q I rx ry q => q.elim (h pins s σ H x y v u Q I rx ry) (h' pins s σ H x y v u Q I rx ry)
theorem OpR.inv {f : Value → Value → Sem Value} {r r' : R2} (h : OpR X f r) (i : ∀ pins s σ H x y Q, Inv X pins σ H s → r' x y H Q → r x y H Q) : OpR X f r' := fun pins s σ H x y v u Q I rx ry q => h pins s σ H x y v u Q I rx ry (i pins s σ H x y Q I q)
end
end TT
set_option Elab.async false
set_option linter.all false
set_option maxRecDepth 100000
set_option maxHeartbeats 2000000
namespace TT
open PySem PySem.Spec PyProof.Rows L2

/-! ## operators on trees -/
/-- a result r is handed out: something that stands already, or one new object -/
def Out (K : PySem.W.Frag) (Hv H : Hp) (r : D) (Q : VK) : Prop := (∀ v, RepD K Hv r v → Q v H) ∧ ∀ p o v, H p = none → RepD K (upd Hv p o) r v → Q v (upd H p o)
def rD2 (K : PySem.W.Frag) (g : D → D → Option D) : R2 := fun x y H Q => ∃ Hv d e r, Le Hv H ∧ RepD K Hv d x ∧ RepD K Hv e y ∧ g d e = some r ∧ Out K Hv H r Q
def gD2 (g : D → D → Option D) : U → U → Sto → Res U := fun u w st => match u, w with
  | .d a, .d b => (match g a b with
    | some r => .ok (.d r) st
    | none => .bad)
  | _, _ => .bad
theorem le_upd {B ρ : List Addr} {H : Hp} {p : Addr} {o : HO} (h1 : p ∉ B) (h2 : p ∉ ρ) : Le (upd (vis B ρ H) p o) (vis B ρ (upd H p o)) := fun b o' e _ => by
  by_cases hb : b = p
  · subst hb
    rw [upd_same] at e
    exact vis_of h1 h2 (by rw [upd_same]; exact e)
  · rw [upd_ne hb] at e
    obtain ⟨q1, q2, q3⟩ := vis_some e
    exact vis_of q1 q2 (by rw [upd_ne hb]; exact q3)
section
variable {X : Cx} {oS : OwnS} {G : Gd} {W : WX}
/-- what is handed out is what the wish behind asks -/
theorem out_of {B ρ : List Addr} {en : Nv} {st : Sto} {σ : L2.St} {H : Hp} {r : D} {Q : VK} (R : Rel oS G B ρ en st σ H) (h : PostE oS G W B ρ en σ H (fun u ρ' H' _ => ∀ v, RepU G (vis B ρ' H') ρ' (oS σ) u v → Q v H') (.ok (.d r) st)) :
    Out G.K (vis B ρ H) H r Q := by
  refine ⟨fun v rv => h ρ H (Stp.refl _ _) R v (.d rv), fun p o v hp rv => ?_⟩
  have f := R.sto.fresh hp
  exact h ρ (upd H p o) (Stp.laid hp) (R.laid hp) v (.d (rv.le (le_upd f.1 f.2)))
theorem ops_D2 {g : D → D → Option D} : OpS oS G W (rD2 G.K g) (gD2 g) := by
  intro B ρ en st σ H u w x y Q R ru rw' h
  unfold gD2 at h
  split at h
  · rename_i a b
    split at h
    · rename_i r hr
      cases ru with
      | d ru => cases rw' with
        | d rw' => exact ⟨vis B ρ H, a, b, r, vis_le, ru, rw', hr, out_of R h⟩
    · exact h.elim
  · exact h.elim

/-! ### numbers, texts, tuples, lists: + -/
def addD : D → D → Option D
  | .int i, .int j => some (.int (i + j))
  | .str x, .str y => if x.length + y.length ≤ sizeLine then some (.str (x ++ y)) else none
  | .tuple a, .tuple b => if a.length + b.length ≤ sizeLine then some (.tuple (a ++ b)) else none
  | .list a, .list b => if a.length + b.length ≤ sizeLine then some (.list (a ++ b)) else none
  | _, _ => none
theorem RepDs.length {K : PySem.W.Frag} {H : Hp} : ∀ {ds : List D} {vs : List V}, RepDs K H ds vs → ds.length = vs.length
  | _, _, .nil => rfl
  | _, _, .cons _ b => by rw [List.length_cons, List.length_cons, RepDs.length b]
theorem RepDs.append {K : PySem.W.Frag} {H : Hp} : ∀ {ds es : List D} {vs us : List V}, RepDs K H ds vs → RepDs K H es us → RepDs K H (ds ++ es) (vs ++ us)
  | _, _, _, _, .nil, h => h
  | _, _, _, _, .cons a b, h => .cons a (RepDs.append b h)
theorem RepDs.take {K : PySem.W.Frag} {H : Hp} : ∀ {ds : List D} {vs : List V} (n : Nat), RepDs K H ds vs → RepDs K H (ds.take n) (vs.take n)
  | _, _, 0, _ => .nil
  | _, _, _ + 1, .nil => .nil
  | _, _, n + 1, .cons a b => .cons a (RepDs.take n b)
theorem RepDs.drop {K : PySem.W.Frag} {H : Hp} : ∀ {ds : List D} {vs : List V} (n : Nat), RepDs K H ds vs → RepDs K H (ds.drop n) (vs.drop n)
  | _, _, 0, h => h
  | _, _, _ + 1, .nil => .nil
  | _, _, n + 1, .cons _ b => RepDs.drop n b
theorem RepDs.get {K : PySem.W.Frag} {H : Hp} : ∀ {ds : List D} {vs : List V} {i : Nat} {d : D}, RepDs K H ds vs → ds[i]? = some d → ∃ v, vs[i]? = some v ∧ RepD K H d v
  | _, _, _, _, .nil, e => by simp at e
  | _, _, 0, _, .cons a _, e => by simp at e; subst e; exact ⟨_, rfl, a⟩
  | _, _, i + 1, d, .cons _ b, e => by
    obtain ⟨v, h1, h2⟩ := RepDs.get (i := i) (d := d) b (by simpa using e)
    exact ⟨v, by simpa using h1, h2⟩
theorem RepDs.getV {K : PySem.W.Frag} {H : Hp} : ∀ {ds : List D} {vs : List V} {i : Nat} {v : V}, RepDs K H ds vs → vs[i]? = some v → ∃ d, ds[i]? = some d ∧ RepD K H d v
  | _, _, _, _, .nil, e => by simp at e
  | _, _, 0, _, .cons a _, e => by simp at e; subst e; exact ⟨_, rfl, a⟩
  | _, _, i + 1, d, .cons _ b, e => by
    obtain ⟨v, h1, h2⟩ := RepDs.getV (i := i) (v := d) b (by simpa using e)
    exact ⟨v, by simpa using h1, h2⟩
theorem Inv.rdL {pins : List (Addr × Obj)} {s : Shared} {σ : L2.St} {H : Hp} {l : Addr} {xs : List V} (I : Inv X pins σ H s) (h : Rd H l (.lst xs)) :
    xs.length ≤ sizeLine ∧ ∃ (its : List Value) (n : Nat), Vals xs its ∧ xs.length = its.length ∧ s.heap.get? l = some { cls := .type "list", data := .seq its.toArray n } := by
  obtain ⟨z, its, n, r, e⟩ := h.ok I.hok
  exact ⟨z, its, n, r, r.length, e⟩
theorem op_catL : OpR X (binaryOp .Add) (fun x y H Q => ∃ l b xs zs, x = .ref l ∧ y = .ref b ∧ Rd H l (.lst xs) ∧ Rd H b (.lst zs) ∧ xs.length + zs.length ≤ sizeLine ∧ ∀ p, H p = none → Q (.ref p) (upd H p (.lst (xs ++ zs)))) := by
  intro pins s σ H x y v u Q I rx ry h
  obtain ⟨l, b, xs, zs, rfl, rfl, hH, hB, hz, q⟩ := h
  cases rx
  cases ry
  obtain ⟨z, its, n, r, hl, e⟩ := TT.Inv.rdL I hH
  obtain ⟨z2, its2, n2, r2, hl2, e2⟩ := TT.Inv.rdL I hB
  refine PySem.P.add_list e e2 ?_ (by rw [List.size_toArray, List.size_toArray]; omega)
  have ea : its.toArray ++ its2.toArray = (its ++ its2).toArray := by simp
  rw [ea]
  exact ⟨.ref _, _, I.lnew (t' := s.toks) (r.append r2) (by rw [List.length_append]; omega), rfl, q _ I.fresh⟩
theorem Out.new {K : PySem.W.Frag} {Hv H : Hp} {r : D} {Q : VK} (h : Out K Hv H r Q) {p : Addr} {o : HO} (hp : H p = none) {v : V} (r : RepD K (upd Hv p o) r v) : Q v (upd H p o) := h.2 p o v hp r
theorem le_new {Hv H : Hp} {p : Addr} {o : HO} (l : Le Hv H) (hp : H p = none) : Le Hv (upd Hv p o) := fun b o' e t => by
  have e' := l b o' e t
  rw [upd_ne (ne_of_none e' hp)]
  exact e
theorem op_addD : OpR X (binaryOp .Add) (rD2 X.K addD) := by
  intro pins s σ H x y v u Q I rx ry h
  obtain ⟨Hv, d, e, r, le, rd, re, hg, out⟩ := h
  cases rd with
  | int i =>
    cases re with
    | int j => cases hg; exact op_add pins s σ H _ _ v u Q I rx ry ⟨i, j, rfl, rfl, out.1 _ (.int _)⟩
    | _ => cases hg
  | str i =>
    cases re with
    | str j =>
      simp only [addD] at hg
      split at hg
      · rename_i hz
        cases hg
        exact op_add_str pins s σ H _ _ v u Q I rx ry ⟨i, j, rfl, rfl, hz, out.1 _ (.str _)⟩
      · cases hg
    | _ => cases hg
  | tuple sq z rs =>
    cases re with
    | tuple sq2 z2 rs2 =>
      simp only [addD] at hg
      split at hg
      · rename_i hz
        cases hg
        rw [rs.length, rs2.length] at hz
        refine op_catA pins s σ H _ _ v u Q I rx ry ⟨_, _, _, _, rfl, rfl, SqT.le le sq, SqT.le le sq2, hz, fun e => ?_, fun _ e => ?_, fun _ _ p hp => ?_⟩
        · subst e
          cases rs
          exact out.1 _ (.tuple sq2 z2 rs2)
        · subst e
          cases rs2
          exact out.1 _ (by rw [List.append_nil]; exact .tuple sq z rs)
        · exact out.new hp (.tuple (SqT.of upd_same) (by rw [List.length_append]; exact hz) (RepDs.append (rs.le (le_new le hp)) (rs2.le (le_new le hp))))
      · cases hg
    | _ => cases hg
  | list sq z rs =>
    cases re with
    | list sq2 z2 rs2 =>
      simp only [addD] at hg
      split at hg
      · rename_i hz
        cases hg
        rw [rs.length, rs2.length] at hz
        refine op_catL pins s σ H _ _ v u Q I rx ry ⟨_, _, _, _, rfl, rfl, Rd.le le nt_lst sq, Rd.le le nt_lst sq2, hz, fun p hp => ?_⟩
        exact out.new hp (.list (.inl upd_same) (by rw [List.length_append]; exact hz) (RepDs.append (rs.le (le_new le hp)) (rs2.le (le_new le hp))))
      · cases hg
    | _ => cases hg
  | _ => cases hg
/-- an operation on ints alone -/
def intD (g : Int → Int → Option D) : D → D → Option D
  | .int i, .int j => g i j
  | _, _ => none
theorem op_intD {f : Value → Value → Sem Value} {C : Int → Int → Prop} {g : Int → Int → V} {gd : Int → Int → Option D} (h : OpR X f (rI C g)) (hc : ∀ i j r, gd i j = some r → C i j ∧ ∀ H, RepD X.K H r (g i j)) : OpR X f (rD2 X.K (intD gd)) := by
  intro pins s σ H x y v u Q I rx ry q
  obtain ⟨Hv, d, e, r, le, rd, re, hg, out⟩ := q
  cases rd with
  | int i =>
    cases re with
    | int j =>
      obtain ⟨c, rr⟩ := hc i j r hg
      exact h pins s σ H _ _ v u Q I rx ry ⟨i, j, rfl, rfl, c, out.1 _ (rr _)⟩
    | _ => cases hg
  | _ => cases hg
theorem rI_of {f : Value → Value → Sem Value} {g : Int → Int → V} (h : OpR X f (rI0 g)) : OpR X f (rI (fun _ _ => True) g) := fun pins s σ H x y v u Q I rx ry ⟨i, j, e1, e2, _, q⟩ => h pins s σ H x y v u Q I rx ry ⟨i, j, e1, e2, q⟩
def subD : D → D → Option D := intD fun i j => some (.int (i - j))
theorem op_subD : OpR X (binaryOp .Sub) (rD2 X.K subD) := op_intD (rI_of op_sub) fun i j r h => by cases h; exact ⟨trivial, fun _ => .int _⟩
def modD : D → D → Option D := intD fun i j => if 0 < j then some (.int (i % j)) else none
theorem op_modD : OpR X (binaryOp .Mod) (rD2 X.K modD) := op_intD op_mod fun i j r h => by
  split at h
  · rename_i c; cases h; exact ⟨c, fun _ => .int _⟩
  · cases h
def mulI : D → D → Option D := intD fun i j => if (-(2 ^ 64) < i ∧ i < 2 ^ 64) ∨ (-(2 ^ 64) < j ∧ j < 2 ^ 64) then some (.int (i * j)) else none
theorem op_mulI : OpR X (binaryOp .Mult) (rD2 X.K mulI) := op_intD op_mul fun i j r h => by
  split at h
  · rename_i c; cases h; exact ⟨c, fun _ => .int _⟩
  · cases h
def fdivD : D → D → Option D := intD fun i j => if 0 < j ∧ j.natAbs.log2 < 9000 then some (.int (i / j)) else none
theorem op_fdivD : OpR X (binaryOp .FloorDiv) (rD2 X.K fdivD) := op_intD op_fdivW fun i j r h => by
  split at h
  · rename_i c; cases h; exact ⟨c, fun _ => .int _⟩
  · cases h
def powD : D → D → Option D := intD fun i j => if 0 ≤ j ∧ j ≤ 1000000 ∧ i.natAbs < 2 ^ 64 then some (.int (i ^ j.toNat)) else none
theorem op_powD : OpR X (binaryOp .Pow) (rD2 X.K powD) := op_intD op_pow fun i j r h => by
  split at h
  · rename_i c; cases h; exact ⟨c, fun _ => .int _⟩
  · cases h
/-! ### order -/
def intsOf : List D → Option (List Int)
  | [] => some []
  | .int i :: r => (match intsOf r with
    | some l => some (i :: l)
    | none => none)
  | _ :: _ => none
theorem intsOf_map (l : List Int) : intsOf (l.map PyData.int) = some l := by
  induction l with
  | nil => rfl
  | cons a l ih => rw [List.map_cons, intsOf, ih]
theorem intsOf_eq : ∀ {ds : List D} {l : List Int}, intsOf ds = some l → ds = l.map PyData.int
  | [], l, h => by cases h; rfl
  | .int i :: r, l, h => by
    rw [intsOf] at h
    split at h
    · rename_i l' e
      cases h
      rw [intsOf_eq e]; rfl
    · cases h
  | .none :: _, _, h => by cases h
  | .bool _ :: _, _, h => by cases h
  | .str _ :: _, _, h => by cases h
  | .list _ :: _, _, h => by cases h
  | .tuple _ :: _, _, h => by cases h
  | .dict _ :: _, _, h => by cases h
theorem RepDs.ints {K : PySem.W.Frag} {H : Hp} : ∀ {l : List Int} {vs : List V}, RepDs K H (l.map PyData.int) vs → vs = l.map V.int
  | [], _, h => by cases h; rfl
  | i :: l, _, h => by
    cases h with
    | cons a b => cases a; rw [RepDs.ints b]; rfl
def ordD (gi : Int → Int → Bool) (gs : Str → Str → Bool) (gt : List Int → List Int → Option Bool) : D → D → Option D
  | .int i, .int j => some (.bool (gi i j))
  | .str x, .str y => some (.bool (gs x y))
  | .tuple a, .tuple b => (match intsOf a, intsOf b with
    | some l, some m => (match gt l m with
      | some r => some (.bool r)
      | none => none)
    | _, _ => none)
  | _, _ => none
theorem op_ordD {f : Value → Value → Sem Value} {gi : Int → Int → Bool} {gs : Str → Str → Bool} {gt : List Int → List Int → Option Bool} (hi : OpR X f (rI0 fun i j => .bl (gi i j))) (hs : OpR X f (fun x y H Q => ∃ i j, x = .str i ∧ y = .str j ∧ Q (.bl (gs i j)) H))
    (ht : OpR X f (fun x y H Q => ∃ a b ns ms r, x = .ref a ∧ y = .ref b ∧ SqT X.K H a (ns.map V.int) ∧ SqT X.K H b (ms.map V.int) ∧ gt ns ms = some r ∧ Q (.bl r) H)) : OpR X f (rD2 X.K (ordD gi gs gt)) := by
  intro pins s σ H x y v u Q I rx ry q
  obtain ⟨Hv, d, e, r, le, rd, re, hg, out⟩ := q
  cases rd with
  | int i =>
    cases re with
    | int j => cases hg; exact hi pins s σ H _ _ v u Q I rx ry ⟨i, j, rfl, rfl, out.1 _ (.bool _)⟩
    | _ => cases hg
  | str i =>
    cases re with
    | str j => cases hg; exact hs pins s σ H _ _ v u Q I rx ry ⟨i, j, rfl, rfl, out.1 _ (.bool _)⟩
    | _ => cases hg
  | tuple sq z rs =>
    cases re with
    | tuple sq2 z2 rs2 =>
      simp only [ordD] at hg
      split at hg
      · rename_i l m e1 e2
        split at hg
        · rename_i r' e3
          cases hg
          rw [intsOf_eq e1] at rs
          rw [intsOf_eq e2] at rs2
          have h1 := rs.ints
          have h2 := rs2.ints
          subst h1
          subst h2
          exact ht pins s σ H _ _ v u Q I rx ry ⟨_, _, l, m, r', rfl, rfl, SqT.le le sq, SqT.le le sq2, e3, out.1 _ (.bool _)⟩
        · cases hg
      · cases hg
    | _ => cases hg
  | _ => cases hg
abbrev strLt (x y : Str) : Bool := decide (x.cps.toList < y.cps.toList)
def ltD : D → D → Option D := ordD (fun i j => decide (i < j)) strLt fun a b => some (HT.lexLt a b)
theorem op_ltD (hu : X.A.units < cLine) : OpR X (compareOp .Lt) (rD2 X.K ltD) := op_ordD op_lt op_lt_str fun pins s σ H x y v u Q I rx ry ⟨a, b, ns, ms, r, e1, e2, h1, h2, h3, q⟩ => by
  cases h3
  exact op_ltT hu pins s σ H x y v u Q I rx ry ⟨a, b, ns, ms, e1, e2, h1, h2, q⟩
theorem noT {f : Value → Value → Sem Value} : OpR X f (fun x y H Q => ∃ a b ns ms r, x = .ref a ∧ y = .ref b ∧ SqT X.K H a (ns.map V.int) ∧ SqT X.K H b (ms.map V.int) ∧ (fun (_ _ : List Int) => (none : Option Bool)) ns ms = some r ∧ Q (.bl r) H) := fun pins s σ H x y v u Q I rx ry ⟨a, b, ns, ms, r, e1, e2, h1, h2, h3, q⟩ => nomatch h3
def leD : D → D → Option D := ordD (fun i j => decide (i ≤ j)) (fun x y => !strLt y x) fun _ _ => none
theorem op_leD : OpR X (compareOp .LtE) (rD2 X.K leD) := op_ordD op_le op_le_str noT
def gtD : D → D → Option D := ordD (fun i j => decide (j < i)) (fun x y => strLt y x) fun _ _ => none
theorem op_gtD : OpR X (compareOp .Gt) (rD2 X.K gtD) := op_ordD op_gt op_gt_str noT
def geD : D → D → Option D := ordD (fun i j => decide (j ≤ i)) (fun x y => !strLt x y) fun _ _ => none
theorem op_geD : OpR X (compareOp .GtE) (rD2 X.K geD) := op_ordD op_ge op_ge_str noT
/-! ### equality, being in -/
abbrev shp (d : D) : Bool := SeqAt.shaped d
mutual
theorem RepD.dp {K : PySem.W.Frag} {H : Hp} : ∀ {d : D} {v : V}, RepD K H d v → d.canLay0 = true → Dp K H v d
  | _, _, .none, _ => .non
  | _, _, .bool b, _ => .bl _
  | _, _, .int i, _ => .int _
  | _, _, .str x, _ => .str _
  | .tuple l, _, .tuple s z r, h => .tup s (RepDs.dp r (by simpa only [PyData.canLay0] using h))
  | .list l, _, .list s z r, h => .lst (.inl s) (RepDs.dp r (by simpa only [PyData.canLay0] using h))
  | .dict l, _, .dK s r, h => by simp only [PyData.canLay0] at h; cases h
  | .dict l, _, .dT s r, h => by simp only [PyData.canLay0] at h; cases h
theorem RepDs.dp {K : PySem.W.Frag} {H : Hp} : ∀ {d : List D} {v : List V}, RepDs K H d v → PyData.canLayAll0 d = true → DpAll K H v d
  | _, _, .nil, _ => .nil
  | d :: ds, _, .cons a b, h => by
    simp only [PyData.canLayAll0, Bool.and_eq_true] at h
    exact .cons (RepD.dp a h.1) (RepDs.dp b h.2)
end
def eqD (a b : D) : Option D := if shp a = true ∧ shp b = true then some (.bool (PyData.eqv a b)) else match a, b with
  | .str x, .str y => some (.bool (decide (x = y)))
  | _, _ => none
def neD (a b : D) : Option D := if shp a = true ∧ shp b = true then some (.bool (!PyData.eqv a b)) else match a, b with
  | .str x, .str y => some (.bool (!decide (x = y)))
  | _, _ => none
theorem op_eqDD (hu : X.A.units + 64 < cLine) : OpR X (compareOp .Eq) (rD2 X.K eqD) := by
  intro pins s σ H x y v u Q I rx ry q
  obtain ⟨Hv, d, e, r, le, rd, re, hg, out⟩ := q
  unfold eqD at hg
  split at hg
  · rename_i hs
    cases hg
    exact op_eqD hu pins s σ H _ _ v u Q I rx ry ⟨d, e, (rd.le le).dp (SeqAt.canLay_of_shaped hs.1), (re.le le).dp (SeqAt.canLay_of_shaped hs.2), hs.1, hs.2, out.1 _ (.bool _)⟩
  · split at hg
    · rename_i a b _
      cases hg
      cases rd
      cases re
      refine op_eq pins s σ H _ _ v u Q I rx ry ⟨rfl, ?_⟩
      have z : decide (V.str a = V.str b) = decide (a = b) := by
        by_cases c : a = b
        · subst c; simp
        · rw [decide_eq_false c, decide_eq_false fun e => c (V.str.inj e)]
      rw [z]
      exact out.1 _ (.bool _)
    · cases hg
theorem op_neDD (hu : X.A.units + 64 < cLine) : OpR X (compareOp .NotEq) (rD2 X.K neD) := by
  intro pins s σ H x y v u Q I rx ry q
  obtain ⟨Hv, d, e, r, le, rd, re, hg, out⟩ := q
  unfold neD at hg
  split at hg
  · rename_i hs
    cases hg
    exact op_neD hu pins s σ H _ _ v u Q I rx ry ⟨d, e, (rd.le le).dp (SeqAt.canLay_of_shaped hs.1), (re.le le).dp (SeqAt.canLay_of_shaped hs.2), hs.1, hs.2, out.1 _ (.bool _)⟩
  · split at hg
    · rename_i a b _
      cases hg
      cases rd
      cases re
      refine op_ne pins s σ H _ _ v u Q I rx ry ⟨rfl, ?_⟩
      have z : decide (V.str a = V.str b) = decide (a = b) := by
        by_cases c : a = b
        · subst c; simp
        · rw [decide_eq_false c, decide_eq_false fun e => c (V.str.inj e)]
      rw [z]
      exact out.1 _ (.bool _)
    · cases hg
def strIn (i j : Str) : Bool := !(Builtin.Str.occurrences j i 0 j.length 1).isEmpty
def inD (neg : Bool) : D → D → Option D
  | .str i, .str j => some (.bool (if neg then !strIn i j else strIn i j))
  | d, .list ds => if shp d = true ∧ shp (.list ds) = true then some (.bool (if neg then !ds.any fun z => PyData.eqv z d else ds.any fun z => PyData.eqv z d)) else none
  | d, .tuple ds => if shp d = true ∧ shp (.tuple ds) = true then some (.bool (if neg then !ds.any fun z => PyData.eqv z d else ds.any fun z => PyData.eqv z d)) else none
  | _, _ => none
theorem op_inDD (hu : X.A.units + 65 < cLine) : OpR X (compareOp .In) (rD2 X.K (inD false)) := by
  intro pins s σ H x y v u Q I rx ry q
  obtain ⟨Hv, d, e, r, le, rd, re, hg, out⟩ := q
  unfold inD at hg
  split at hg
  · rename_i i j
    cases hg
    cases rd
    cases re
    exact op_in_str pins s σ H _ _ v u Q I rx ry ⟨i, j, rfl, rfl, out.1 _ (.bool _)⟩
  · rename_i ds _
    split at hg
    · rename_i hs
      cases hg
      obtain ⟨as, r1⟩ := Dp.reads I d x v ((rd.le le).dp (SeqAt.canLay_of_shaped hs.1)) rx
      obtain ⟨bs, r2⟩ := Dp.reads I (.list _) y u ((re.le le).dp (SeqAt.canLay_of_shaped hs.2)) ry
      exact SeqAt.in_list_reads r2 r1 (by simpa only [PyData.canLay0] using SeqAt.canLay_of_shaped hs.2) (SeqAt.canLay_of_shaped hs.1) (room_in_shaped hs.1 hu) ⟨.bl _, H, I, rfl, out.1 _ (.bool _)⟩
    · cases hg
  · rename_i ds _
    split at hg
    · rename_i hs
      cases hg
      obtain ⟨as, r1⟩ := Dp.reads I d x v ((rd.le le).dp (SeqAt.canLay_of_shaped hs.1)) rx
      obtain ⟨bs, r2⟩ := Dp.reads I (.tuple _) y u ((re.le le).dp (SeqAt.canLay_of_shaped hs.2)) ry
      exact SeqAt.in_tuple_reads r2 r1 (by simpa only [PyData.canLay0] using SeqAt.canLay_of_shaped hs.2) (SeqAt.canLay_of_shaped hs.1) (room_in_shaped hs.1 hu) ⟨.bl _, H, I, rfl, out.1 _ (.bool _)⟩
    · cases hg
  · cases hg
theorem op_notInDD (hu : X.A.units + 65 < cLine) : OpR X (compareOp .NotIn) (rD2 X.K (inD true)) := by
  intro pins s σ H x y v u Q I rx ry q
  obtain ⟨Hv, d, e, r, le, rd, re, hg, out⟩ := q
  unfold inD at hg
  split at hg
  · rename_i i j
    cases hg
    cases rd
    cases re
    exact op_notIn_str pins s σ H _ _ v u Q I rx ry ⟨i, j, rfl, rfl, out.1 _ (.bool _)⟩
  · rename_i ds _
    split at hg
    · rename_i hs
      cases hg
      obtain ⟨as, r1⟩ := Dp.reads I d x v ((rd.le le).dp (SeqAt.canLay_of_shaped hs.1)) rx
      obtain ⟨bs, r2⟩ := Dp.reads I (.list _) y u ((re.le le).dp (SeqAt.canLay_of_shaped hs.2)) ry
      exact SeqAt.notIn_list_reads r2 r1 (by simpa only [PyData.canLay0] using SeqAt.canLay_of_shaped hs.2) (SeqAt.canLay_of_shaped hs.1) (room_in_shaped hs.1 hu) ⟨.bl _, H, I, rfl, out.1 _ (.bool _)⟩
    · cases hg
  · rename_i ds _
    split at hg
    · rename_i hs
      cases hg
      obtain ⟨as, r1⟩ := Dp.reads I d x v ((rd.le le).dp (SeqAt.canLay_of_shaped hs.1)) rx
      obtain ⟨bs, r2⟩ := Dp.reads I (.tuple _) y u ((re.le le).dp (SeqAt.canLay_of_shaped hs.2)) ry
      exact SeqAt.notIn_tuple_reads r2 r1 (by simpa only [PyData.canLay0] using SeqAt.canLay_of_shaped hs.2) (SeqAt.canLay_of_shaped hs.1) (room_in_shaped hs.1 hu) ⟨.bl _, H, I, rfl, out.1 _ (.bool _)⟩
    · cases hg
  · cases hg
/-! ### is None -/
def isN : U → Bool
  | .d .none => true
  | _ => false
def gIsN (neg : Bool) : U → U → Sto → Res U := fun u w st => match w with
  | .d .none => .ok (.d (.bool (if neg then !isN u else isN u))) st
  | _ => .bad
theorem isN_ok {H : Hp} {ρ : List Addr} {own : OwnV} {u : U} {x : V} (r : RepU G H ρ own u x) : decide (x = .non) = isN u := by
  cases r with
  | d r => cases r <;> simp [isN]
  | _ => simp [isN]
theorem ops_isN : OpS oS G W (fun x y H Q => y = .non ∧ Q (.bl (decide (x = .non))) H) (gIsN false) := by
  intro B ρ en st σ H u w x y Q R ru rw' h
  unfold gIsN at h
  split at h
  · cases rw' with
    | d rw' =>
      cases rw'
      refine ⟨rfl, ?_⟩
      rw [isN_ok ru]
      exact h ρ H (Stp.refl _ _) R _ (.d (.bool _))
  · exact h.elim
theorem ops_notN : OpS oS G W (fun x y H Q => y = .non ∧ Q (.bl (!decide (x = .non))) H) (gIsN true) := by
  intro B ρ en st σ H u w x y Q R ru rw' h
  unfold gIsN at h
  split at h
  · cases rw' with
    | d rw' =>
      cases rw'
      refine ⟨rfl, ?_⟩
      rw [isN_ok ru]
      exact h ρ H (Stp.refl _ _) R _ (.d (.bool _))
  · exact h.elim
end
/-! ## the rules -/
section
variable {X : Cx} {oS : OwnS} {G : Gd} {W : WX} {a b : Expr} {fa fb : SemE} {pos : Pos} (hK : X.K = G.K)
include hK
theorem se_D2 {op : Operator} {g : D → D → Option D} (h : OpR X (binaryOp op) (rD2 X.K g)) (ha : SE X oS G W a fa) (hb : SE X oS G W b fb) : SE X oS G W (.BinOp a op b pos) (mOp (gD2 g) fa fb) := se_op (by rw [hK] at h; exact h) ops_D2 ha hb
theorem se_add (ha : SE X oS G W a fa) (hb : SE X oS G W b fb) : SE X oS G W (.BinOp a .Add b pos) (mOp (gD2 addD) fa fb) := se_D2 hK op_addD ha hb
theorem se_sub (ha : SE X oS G W a fa) (hb : SE X oS G W b fb) : SE X oS G W (.BinOp a .Sub b pos) (mOp (gD2 subD) fa fb) := se_D2 hK op_subD ha hb
theorem se_mul (ha : SE X oS G W a fa) (hb : SE X oS G W b fb) : SE X oS G W (.BinOp a .Mult b pos) (mOp (gD2 mulI) fa fb) := se_D2 hK op_mulI ha hb
theorem se_mod (ha : SE X oS G W a fa) (hb : SE X oS G W b fb) : SE X oS G W (.BinOp a .Mod b pos) (mOp (gD2 modD) fa fb) := se_D2 hK op_modD ha hb
theorem se_fdiv (ha : SE X oS G W a fa) (hb : SE X oS G W b fb) : SE X oS G W (.BinOp a .FloorDiv b pos) (mOp (gD2 fdivD) fa fb) := se_D2 hK op_fdivD ha hb
theorem se_pow (ha : SE X oS G W a fa) (hb : SE X oS G W b fb) : SE X oS G W (.BinOp a .Pow b pos) (mOp (gD2 powD) fa fb) := se_D2 hK op_powD ha hb
theorem se_C2 {op : CmpOp} {g : D → D → Option D} (h : OpR X (compareOp op) (rD2 X.K g)) (ha : SE X oS G W a fa) (hb : SE X oS G W b fb) (hm : behindInMarks op b = false) : SE X oS G W (.Compare a [op] [b] pos) (mOp (gD2 g) fa fb) := se_cmp (by rw [hK] at h; exact h) ops_D2 ha hb hm
variable {k : Nat} (hr : Room k X.A)
include hr
theorem se_lt (ha : SE X oS G W a fa) (hb : SE X oS G W b fb) : SE X oS G W (.Compare a [.Lt] [b] pos) (mOp (gD2 ltD) fa fb) := se_C2 hK (op_ltD hr.units0) ha hb (nobehind _ (by decide) (by decide))
theorem se_le (ha : SE X oS G W a fa) (hb : SE X oS G W b fb) : SE X oS G W (.Compare a [.LtE] [b] pos) (mOp (gD2 leD) fa fb) := se_C2 hK op_leD ha hb (nobehind _ (by decide) (by decide))
theorem se_gt (ha : SE X oS G W a fa) (hb : SE X oS G W b fb) : SE X oS G W (.Compare a [.Gt] [b] pos) (mOp (gD2 gtD) fa fb) := se_C2 hK op_gtD ha hb (nobehind _ (by decide) (by decide))
theorem se_ge (ha : SE X oS G W a fa) (hb : SE X oS G W b fb) : SE X oS G W (.Compare a [.GtE] [b] pos) (mOp (gD2 geD) fa fb) := se_C2 hK op_geD ha hb (nobehind _ (by decide) (by decide))
theorem se_eq (ha : SE X oS G W a fa) (hb : SE X oS G W b fb) : SE X oS G W (.Compare a [.Eq] [b] pos) (mOp (gD2 eqD) fa fb) := se_C2 hK (op_eqDD hr.units) ha hb (nobehind _ (by decide) (by decide))
theorem se_ne (ha : SE X oS G W a fa) (hb : SE X oS G W b fb) : SE X oS G W (.Compare a [.NotEq] [b] pos) (mOp (gD2 neD) fa fb) := se_C2 hK (op_neDD hr.units) ha hb (nobehind _ (by decide) (by decide))
theorem units65 : X.A.units + 65 < cLine := by have := hr.un; omega
theorem se_in (ha : SE X oS G W a fa) (hb : SE X oS G W b fb) (hm : behindInMarks .In b = false := by rfl) : SE X oS G W (.Compare a [.In] [b] pos) (mOp (gD2 (inD false)) fa fb) := se_C2 hK (op_inDD (units65 hK hr)) ha hb hm
theorem se_notIn (ha : SE X oS G W a fa) (hb : SE X oS G W b fb) (hm : behindInMarks .NotIn b = false := by rfl) : SE X oS G W (.Compare a [.NotIn] [b] pos) (mOp (gD2 (inD true)) fa fb) := se_C2 hK (op_notInDD (units65 hK hr)) ha hb hm
end
section
variable {X : Cx} {oS : OwnS} {G : Gd} {W : WX} {a b : Expr} {fa fb : SemE} {pos : Pos}
theorem se_isN (ha : SE X oS G W a fa) (hb : SE X oS G W b fb) : SE X oS G W (.Compare a [.Is] [b] pos) (mOp (gIsN false) fa fb) := se_cmp op_isN ops_isN ha hb (nobehind _ (by decide) (by decide))
theorem se_notN (ha : SE X oS G W a fa) (hb : SE X oS G W b fb) : SE X oS G W (.Compare a [.IsNot] [b] pos) (mOp (gIsN true) fa fb) := se_cmp op_notN ops_notN ha hb (nobehind _ (by decide) (by decide))
/-- -a -/
def mNeg (fa : SemE) : SemE := fun en st => (fa en st).bind fun u st => match u with
  | .d (.int i) => .ok (.d (.int (-i))) st
  | _ => .bad
theorem se_neg (ha : SE X oS G W a fa) : SE X oS G W (.UnaryOp .USub a pos) (mNeg fa) := by
  refine PE.imp (pe_un un_neg ha) fun σ H Q ⟨B, ρ, en, st, R, h⟩ => ?_
  refine ⟨B, ρ, en, st, R, (PostE.bind h).mono fun u st1 ρ1 H1 _ s1 R1 h1 v rv => ?_⟩
  split at h1
  · cases rv with
    | d rv => cases rv; exact ⟨_, rfl, h1 ρ1 H1 (Stp.refl _ _) R1 _ (.d (.int _))⟩
  · exact h1.elim
end
end TT
set_option Elab.async false
set_option linter.all false
set_option maxRecDepth 100000
set_option maxHeartbeats 2000000
namespace TT
open PySem PySem.Spec PyProof.Rows L2

/-! ## a row of things, of whatever kind -/
def seqOf (st : Sto) : U → Option (List U)
  | .d (.tuple l) => some (l.map U.d)
  | .d (.list l) => some (l.map U.d)
  | .tup l => some l
  | .ref n => (match st[n]? with
    | some (.lst l) => some l
    | _ => none)
  | _ => none
theorem RepUs.ofD {G : Gd} {H : Hp} {ρ : List Addr} {own : OwnV} : ∀ {l : List D} {vs : List V}, RepDs G.K H l vs → RepUs G H ρ own (l.map U.d) vs
  | _, _, .nil => .nil
  | _, _, .cons a b => .cons (.d a) (RepUs.ofD b)
theorem RepUs.length {G : Gd} {H : Hp} {ρ : List Addr} {own : OwnV} : ∀ {l : List U} {vs : List V}, RepUs G H ρ own l vs → l.length = vs.length
  | _, _, .nil => rfl
  | _, _, .cons _ b => by rw [List.length_cons, List.length_cons, RepUs.length b]
theorem RepUs.get {G : Gd} {H : Hp} {ρ : List Addr} {own : OwnV} : ∀ {l : List U} {vs : List V} {i : Nat} {u : U}, RepUs G H ρ own l vs → l[i]? = some u → ∃ v, vs[i]? = some v ∧ RepU G H ρ own u v
  | _, _, _, _, .nil, e => by simp at e
  | _, _, 0, _, .cons a _, e => by simp at e; subst e; exact ⟨_, rfl, a⟩
  | _, _, i + 1, d, .cons _ b, e => by
    obtain ⟨v, h1, h2⟩ := RepUs.get (i := i) (u := d) b (by simpa using e)
    exact ⟨v, by simpa using h1, h2⟩
theorem RepUs.append {G : Gd} {H : Hp} {ρ : List Addr} {own : OwnV} : ∀ {ds es : List U} {vs us : List V}, RepUs G H ρ own ds vs → RepUs G H ρ own es us → RepUs G H ρ own (ds ++ es) (vs ++ us)
  | _, _, _, _, .nil, h => h
  | _, _, _, _, .cons a b, h => .cons a (RepUs.append b h)
theorem RepUs.set {G : Gd} {H : Hp} {ρ : List Addr} {own : OwnV} {u : U} {v : V} (r : RepU G H ρ own u v) : ∀ {l : List U} {vs : List V} (i : Nat), RepUs G H ρ own l vs → RepUs G H ρ own (l.set i u) (vs.set i v)
  | _, _, _, .nil => .nil
  | _, _, 0, .cons _ b => .cons r b
  | _, _, i + 1, .cons a b => .cons a (RepUs.set r i b)
theorem RepUs.eraseIdx {G : Gd} {H : Hp} {ρ : List Addr} {own : OwnV} : ∀ {l : List U} {vs : List V} (i : Nat), RepUs G H ρ own l vs → RepUs G H ρ own (l.eraseIdx i) (vs.eraseIdx i)
  | _, _, _, .nil => .nil
  | _, _, 0, .cons _ b => b
  | _, _, i + 1, .cons a b => .cons a (RepUs.eraseIdx i b)
/-- all of them trees -/
def allD : List U → Option (List D)
  | [] => some []
  | .d x :: r => (match allD r with
    | some l => some (x :: l)
    | none => none)
  | _ :: _ => none
theorem allD_map (l : List D) : allD (l.map U.d) = some l := by
  induction l with
  | nil => rfl
  | cons a l ih => rw [List.map_cons, allD, ih]
theorem RepUs.allD {G : Gd} {H : Hp} {ρ : List Addr} {own : OwnV} : ∀ {us : List U} {vs : List V} {l : List D}, RepUs G H ρ own us vs → TT.allD us = some l → RepDs G.K H l vs
  | _, _, _, .nil, h => by cases h; exact .nil
  | _, _, _, .cons a b, h => by
    cases a with
    | d r =>
      rw [TT.allD] at h
      split at h
      · rename_i l' e
        cases h
        exact .cons r (RepUs.allD b e)
      · cases h
    | _ => simp [TT.allD] at h
def mkTup (us : List U) : U := match allD us with
  | some l => .d (.tuple l)
  | none => .tup us
section
variable {X : Cx} {oS : OwnS} {G : Gd} {W : WX}
theorem seq_rep {B ρ : List Addr} {en : Nv} {st : Sto} {σ : L2.St} {H : Hp} {u : U} {x : V} {l : List U} (R : Rel oS G B ρ en st σ H) (ru : RepU G (vis B ρ H) ρ (oS σ) u x) (h : seqOf st u = some l) :
    ∃ a vs, x = .ref a ∧ (Rd H a (.lst vs) ∨ SqT G.K H a vs) ∧ RepUs G (vis B ρ H) ρ (oS σ) l vs ∧ vs.length ≤ sizeLine := by
  unfold seqOf at h
  split at h
  · cases h
    cases ru with
    | d r =>
      cases r with
      | tuple s z r => exact ⟨_, _, rfl, .inr (SqT.le vis_le s), RepUs.ofD r, z⟩
  · cases h
    cases ru with
    | d r =>
      cases r with
      | list s z r => exact ⟨_, _, rfl, .inl (Rd.le vis_le nt_lst s), RepUs.ofD r, z⟩
  · cases h
    cases ru with
    | tup s z r => exact ⟨_, _, rfl, .inr (SqT.le vis_le s), r, z⟩
  · split at h
    · rename_i n l' e
      cases h
      cases ru with
      | ref hn =>
        obtain ⟨c, o, h1, h2, h3⟩ := R.sto.at hn
        rw [e] at h1
        cases h1
        cases h3 with
        | lst z r => exact ⟨_, _, rfl, .inl (.inl h2), r, z⟩
    · cases h
  · cases h

/-! ## tests -/
def truD : D → Option Bool
  | .none => some false
  | .bool b => some b
  | .int i => some (i != 0)
  | .str x => if x.length ≤ sizeLine then some ((x.length : Int) != 0) else none
  | .list l => some (!l.isEmpty)
  | .tuple l => some (!l.isEmpty)
  | .dict _ => none
def truU : U → Option Bool
  | .d x => truD x
  | _ => none
def mTru (f : SemE) : SemT := fun en st => (f en st).bind fun u st => match truU u with
  | some b => .ok b st
  | none => .bad
theorem isEmpty_reps {K : PySem.W.Frag} {H : Hp} {l : List D} {vs : List V} (r : RepDs K H l vs) : l.isEmpty = vs.isEmpty := by cases r <;> rfl
theorem tru_rep {K : PySem.W.Frag} {Hv H : Hp} {d : D} {x : V} {b : Bool} (le : Le Hv H) (r : RepD K Hv d x) (h : truD d = some b) : TruV K x H b := by
  cases r with
  | none => cases h; rfl
  | bool b => cases h; rfl
  | int i => cases h; rfl
  | str y =>
    simp only [truD] at h
    split at h
    · rename_i z
      cases h
      exact ⟨z, rfl⟩
    · cases h
  | list s z r => cases h; exact .inl ⟨_, .inl (Rd.le le nt_lst s), by rw [isEmpty_reps r]⟩
  | tuple s z r => cases h; exact .inr (.inl ⟨_, SqT.le le s, by rw [isEmpty_reps r]⟩)
  | dK s r => cases h
  | dT s r => cases h
theorem st_val {e : Expr} {f : SemE} (hK : X.K = G.K) (he : SE X oS G W e f) (ht : ∀ whole, isTrue e X.env whole = (do let v ← whole; standAt e.pos; holding [v] (truthy v)) := by intro _; rfl) : ST X oS G W e (mTru f) := by
  refine PT.imp (pt_truth he ht) fun σ H Q ⟨B, ρ, en, st, R, h⟩ => ?_
  refine ⟨B, ρ, en, st, R, (PostE.bind h).mono fun u st1 ρ1 H1 _ s1 R1 h1 v rv => ?_⟩
  split at h1
  · rename_i b hb
    cases u with
    | d x =>
      cases rv with
      | d rv => exact ⟨b, by rw [hK]; exact tru_rep vis_le rv hb, h1 ρ1 H1 (Stp.refl _ _) R1⟩
    | _ => cases hb
  · exact h1.elim
def SW (X : Cx) (oS : OwnS) (G : Gd) (W : WX) (e : Expr) (f : SemT) : Prop := PW X e (rdT oS G W f)
theorem PW.imp {X : Cx} {e : Expr} {t t' : TT} (h : PW X e t) (i : ∀ σ H Q, t' σ H Q → t σ H Q) : PW X e t' := ⟨fun whole pins s σ H Q I w => h.run whole pins s σ H Q I (i σ H Q w)⟩
def mAndT (f g : SemT) : SemT := fun en st => (f en st).bind fun c st => if c = true then g en st else .ok false st
def mOrT (f g : SemT) : SemT := fun en st => (f en st).bind fun c st => if c = true then .ok true st else g en st
def mNotT (f : SemT) : SemT := fun en st => (f en st).bind fun c st => .ok (!c) st
theorem st_of {e : Expr} {f : SemT} (h : SW X oS G W e f) : ST X oS G W e f := L2.PW.pt h
theorem sw_and1 {a : Expr} {f : SemT} {pos : Pos} (ha : ST X oS G W a f) : SW X oS G W (.BoolOp .And [a] pos) f := pw_and1 ha
theorem sw_or1 {a : Expr} {f : SemT} {pos : Pos} (ha : ST X oS G W a f) : SW X oS G W (.BoolOp .Or [a] pos) f := pw_or1 ha
theorem sw_and {a b : Expr} {rest : List Expr} {f g : SemT} {pos : Pos} (ha : ST X oS G W a f) (hb : SW X oS G W (.BoolOp .And (b :: rest) pos) g) : SW X oS G W (.BoolOp .And (a :: b :: rest) pos) (mAndT f g) := by
  refine PW.imp (pw_and ha hb) fun σ H Q ⟨B, ρ, en, st, R, h⟩ => ?_
  refine ⟨B, ρ, en, st, R, (PostE.bind h).mono fun c st1 ρ1 H1 _ s1 R1 h1 => ?_⟩
  by_cases hc : c = true
  · rw [if_pos hc] at h1 ⊢
    exact ⟨B, ρ1, en, st1, R1, h1⟩
  · rw [if_neg hc] at h1 ⊢
    exact h1 ρ1 H1 (Stp.refl _ _) R1
theorem sw_or {a b : Expr} {rest : List Expr} {f g : SemT} {pos : Pos} (ha : ST X oS G W a f) (hb : SW X oS G W (.BoolOp .Or (b :: rest) pos) g) : SW X oS G W (.BoolOp .Or (a :: b :: rest) pos) (mOrT f g) := by
  refine PW.imp (pw_or ha hb) fun σ H Q ⟨B, ρ, en, st, R, h⟩ => ?_
  refine ⟨B, ρ, en, st, R, (PostE.bind h).mono fun c st1 ρ1 H1 _ s1 R1 h1 => ?_⟩
  by_cases hc : c = true
  · rw [if_pos hc] at h1 ⊢
    exact h1 ρ1 H1 (Stp.refl _ _) R1
  · rw [if_neg hc] at h1 ⊢
    exact ⟨B, ρ1, en, st1, R1, h1⟩
theorem st_not {a : Expr} {f : SemT} {pos : Pos} (ha : ST X oS G W a f) : ST X oS G W (.UnaryOp .Not a pos) (mNotT f) := by
  refine PT.imp (pt_not ha) fun σ H Q ⟨B, ρ, en, st, R, h⟩ => ?_
  refine ⟨B, ρ, en, st, R, (PostE.bind h).mono fun c st1 ρ1 H1 _ s1 R1 h1 => ?_⟩
  exact h1 ρ1 H1 (Stp.refl _ _) R1
/-! as values: what is True or False -/
def onB (k : Bool → Sto → Res U) : U → Sto → Res U
  | .d (.bool c), st => k c st
  | _, _ => .bad
def mAndV (f g : SemE) : SemE := fun en st => (f en st).bind (onB fun c st => if c = true then g en st else .ok (.d (.bool false)) st)
def mOrV (f g : SemE) : SemE := fun en st => (f en st).bind (onB fun c st => if c = true then .ok (.d (.bool true)) st else g en st)
def mNotV (f : SemE) : SemE := fun en st => (f en st).bind (onB fun c st => .ok (.d (.bool (!c))) st)
theorem se_one {op} {a : Expr} {f : SemE} {pos : Pos} (ha : SE X oS G W a f) : SE X oS G W (.BoolOp op [a] pos) f := pe_one ha
theorem se_and {a b : Expr} {rest : List Expr} {f g : SemE} {pos : Pos} (ha : SE X oS G W a f) (hb : SE X oS G W (.BoolOp .And (b :: rest) pos) g) : SE X oS G W (.BoolOp .And (a :: b :: rest) pos) (mAndV f g) := by
  refine PE.imp (pe_and ha hb) fun σ H Q ⟨B, ρ, en, st, R, h⟩ => ?_
  refine ⟨B, ρ, en, st, R, (PostE.bind h).mono fun u st1 ρ1 H1 _ s1 R1 h1 v rv => ?_⟩
  unfold onB at h1
  split at h1
  · rename_i c _
    cases rv with
    | d rv =>
      cases rv
      refine ⟨c, rfl, ?_⟩
      dsimp only at h1
      by_cases hc : c = true
      · rw [if_pos hc] at h1 ⊢
        exact ⟨B, ρ1, en, _, R1, h1⟩
      · rw [if_neg hc] at h1 ⊢
        exact h1 ρ1 H1 (Stp.refl _ _) R1 _ (.d (.bool _))
  · exact h1.elim
theorem se_or {a b : Expr} {rest : List Expr} {f g : SemE} {pos : Pos} (ha : SE X oS G W a f) (hb : SE X oS G W (.BoolOp .Or (b :: rest) pos) g) : SE X oS G W (.BoolOp .Or (a :: b :: rest) pos) (mOrV f g) := by
  refine PE.imp (pe_or ha hb) fun σ H Q ⟨B, ρ, en, st, R, h⟩ => ?_
  refine ⟨B, ρ, en, st, R, (PostE.bind h).mono fun u st1 ρ1 H1 _ s1 R1 h1 v rv => ?_⟩
  unfold onB at h1
  split at h1
  · rename_i c _
    cases rv with
    | d rv =>
      cases rv
      refine ⟨c, rfl, ?_⟩
      dsimp only at h1
      by_cases hc : c = true
      · rw [if_pos hc] at h1 ⊢
        exact h1 ρ1 H1 (Stp.refl _ _) R1 _ (.d (.bool _))
      · rw [if_neg hc] at h1 ⊢
        exact ⟨B, ρ1, en, _, R1, h1⟩
  · exact h1.elim
theorem se_not {a : Expr} {f : SemE} {pos : Pos} (ha : SE X oS G W a f) : SE X oS G W (.UnaryOp .Not a pos) (mNotV f) := by
  refine PE.imp (pe_not ha) fun σ H Q ⟨B, ρ, en, st, R, h⟩ => ?_
  refine ⟨B, ρ, en, st, R, (PostE.bind h).mono fun u st1 ρ1 H1 _ s1 R1 h1 v rv => ?_⟩
  unfold onB at h1
  split at h1
  · rename_i c _
    cases rv with
    | d rv =>
      cases rv
      exact ⟨c, rfl, h1 ρ1 H1 (Stp.refl _ _) R1 _ (.d (.bool _))⟩
  · exact h1.elim
def mIf (t : SemT) (f g : SemE) : SemE := fun en st => (t en st).bind fun c st => if c = true then f en st else g en st
theorem se_if {c a b : Expr} {t : SemT} {f g : SemE} {pos : Pos} (hc : ST X oS G W c t) (ha : SE X oS G W a f) (hb : SE X oS G W b g) : SE X oS G W (.IfExp c a b pos) (mIf t f g) := by
  refine PE.imp (pe_ifExp hc ha hb) fun σ H Q ⟨B, ρ, en, st, R, h⟩ => ?_
  refine ⟨B, ρ, en, st, R, (PostE.bind h).mono fun c st1 ρ1 H1 _ s1 R1 h1 => ?_⟩
  by_cases hc : c = true
  · rw [if_pos hc] at h1 ⊢
    exact ⟨B, ρ1, en, st1, R1, h1⟩
  · rw [if_neg hc] at h1 ⊢
    exact ⟨B, ρ1, en, st1, R1, h1⟩
/-! a < b < c -/
def mChain (g g' : D → D → Option D) (fa fb fc : SemE) : SemE := fun en st => (fa en st).bind fun u st => (fb en st).bind fun w st => (gD2 g u w st).bind (onB fun c st => if c = true then (fc en st).bind fun z st => (gD2 g' w z st).bind (onB fun c st => .ok (.d (.bool c)) st) else .ok (.d (.bool false)) st)

/-! ## displays -/
def mTup (f : SemA) : SemE := fun en st => (f en st).bind fun us st => if us.length ≤ sizeLine then .ok (mkTup us) st else .bad
theorem mkTup_rep {B ρ : List Addr} {σ : L2.St} {H : Hp} {us : List U} {vs : List V} {p : Addr} (hB : p ∉ B) (hρ : p ∉ ρ) (hp : H p = none) (hz : vs.length ≤ sizeLine) (r : RepUs G (vis B ρ H) ρ (oS σ) us vs) :
    RepU G (vis B ρ (upd H p (.tup vs))) ρ (oS σ) (mkTup us) (.ref p) := by
  have s : Stp ρ H ρ (upd H p (.tup vs)) := Stp.laid hp
  have r' := r.stp s
  have e : vis B ρ (upd H p (.tup vs)) p = some (.tup vs) := vis_of hB hρ upd_same
  unfold mkTup
  split
  · rename_i l hl
    exact .d (.tuple (SqT.of e) hz (r'.allD hl))
  · exact .tup (SqT.of e) hz r'
theorem se_tup {es : List Expr} {f : SemA} {x1} {pos : Pos} (h : SA X oS G W es f) : SE X oS G W (.Tuple es x1 pos) (mTup f) := by
  refine PE.imp (pe_tup h) fun σ H Q ⟨B, ρ, en, st, R, h⟩ => ?_
  refine ⟨B, ρ, en, st, R, (PostE.bind h).mono fun us st1 ρ1 H1 _ s1 R1 h1 vs rvs => ?_⟩
  split at h1
  · rename_i hz
    rw [rvs.length] at hz
    refine ⟨hz, fun p hp => ?_⟩
    have f := R1.sto.fresh hp
    exact h1 ρ1 _ (Stp.laid hp) (R1.laid hp) _ (mkTup_rep f.1 f.2 hp hz rvs)
  · exact h1.elim
/-- a list that will not be changed -/
def mLst (f : SemA) : SemE := fun en st => (f en st).bind fun us st => if us.length ≤ sizeLine then (match allD us with
  | some l => .ok (.d (.list l)) st
  | none => .bad) else .bad
theorem se_lst {es : List Expr} {f : SemA} {pos : Pos} (h : SA X oS G W es f) : SE X oS G W (.List es pos) (mLst f) := by
  refine PE.imp (pe_lst h) fun σ H Q ⟨B, ρ, en, st, R, h⟩ => ?_
  refine ⟨B, ρ, en, st, R, (PostE.bind h).mono fun us st1 ρ1 H1 _ s1 R1 h1 vs rvs => ?_⟩
  split at h1
  · rename_i hz
    rw [rvs.length] at hz
    split at h1
    · rename_i l hl
      refine ⟨hz, fun p hp => ?_⟩
      have f := R1.sto.fresh hp
      exact h1 ρ1 _ (Stp.laid hp) (R1.laid hp) _ (.d (.list (.inl (vis_of f.1 f.2 upd_same)) hz ((rvs.stp (Stp.laid hp)).allD hl)))
    · exact h1.elim
  · exact h1.elim
/-- a list that will be changed -/
def mRef (f : SemA) : SemE := fun en st => (f en st).bind fun us st => if us.length ≤ sizeLine then .ok (.ref st.length) (st ++ [.lst us]) else .bad
theorem RelS.laidRef {G : Gd} {B ρ : List Addr} {own : OwnV} {st : Sto} {H : Hp} (r : RelS G B ρ own st H) {p : Addr} {c : Cell} {o : HO} (h : H p = none) (rc : RepC G (vis B ρ H) ρ own c o) : RelS G B (ρ ++ [p]) own (st ++ [c]) (upd H p o) := by
  have s : Stp ρ H (ρ ++ [p]) (upd H p o) := Stp.laidRef h
  have f := r.fresh h
  refine ⟨by rw [List.length_append, List.length_append, r.len]; rfl, ?_, fun n c' hc => ?_, fun b hb => ?_, r.tabs.ext fun b o' e => by rw [upd_ne (ne_of_none e h)]; exact e⟩
  · refine List.nodup_append.mpr ⟨r.nd, by simp, fun a ha b hb e => ?_⟩
    have : b = p := by simpa using hb
    subst this
    subst e
    exact f.2 ha
  · by_cases hn : n < st.length
    · rw [List.getElem?_append_left hn] at hc
      obtain ⟨a, o', h1, h2, h3⟩ := r.cell n c' hc
      exact ⟨a, o', s.pre n a h1, by rw [upd_ne (ne_of_none h2 h)]; exact h2, h3.le s.le s.pre fun _ _ z => z⟩
    · rw [List.getElem?_append_right (by omega)] at hc
      have e : n - st.length = 0 := by
        have := (List.getElem?_eq_some_iff.mp hc).1
        simpa using this
      rw [e] at hc
      have : c = c' := by simpa using hc
      subst this
      refine ⟨p, o, ?_, upd_same, rc.le s.le s.pre fun _ _ z => z⟩
      have e2 : n = ρ.length := by rw [← r.len]; omega
      rw [e2]
      simp
  · obtain ⟨h1, o', h2, h3⟩ := r.hid b hb
    refine ⟨fun z => ?_, o', by rw [upd_ne (ne_of_none h2 h)]; exact h2, h3⟩
    rcases List.mem_append.mp z with z | z
    · exact h1 z
    · have : b = p := by simpa using z
      subst this
      exact f.1 hb
theorem Rel.laidRef {B ρ : List Addr} {en : Nv} {st : Sto} {σ : L2.St} {H : Hp} (r : Rel oS G B ρ en st σ H) {p : Addr} {c : Cell} {o : HO} (h : H p = none) (rc : RepC G (vis B ρ H) ρ (oS σ) c o) : Rel oS G B (ρ ++ [p]) en (st ++ [c]) σ (upd H p o) :=
  ⟨r.sto.laidRef h rc, r.len, fun i u hu => by
    obtain ⟨v, h1, h2⟩ := r.env i u hu
    exact ⟨v, h1, h2.stp (Stp.laidRef h)⟩⟩
theorem se_ref {es : List Expr} {f : SemA} {pos : Pos} (h : SA X oS G W es f) : SE X oS G W (.List es pos) (mRef f) := by
  refine PE.imp (pe_lst h) fun σ H Q ⟨B, ρ, en, st, R, h⟩ => ?_
  refine ⟨B, ρ, en, st, R, (PostE.bind h).mono fun us st1 ρ1 H1 _ s1 R1 h1 vs rvs => ?_⟩
  split at h1
  · rename_i hz
    rw [rvs.length] at hz
    refine ⟨hz, fun p hp => ?_⟩
    refine h1 (ρ1 ++ [p]) _ (Stp.laidRef hp) (R1.laidRef hp (.lst hz rvs)) _ (.ref ?_)
    rw [R1.sto.len]
    simp
  · exact h1.elim

/-! ## subscripts -/
def gIx (u w : U) (st : Sto) : Res U := match w with
  | .d (.int i) => (match u with
    | .d (.str z) => if z.length ≤ sizeLine then (match atI z.cps.toList i with
      | some c => .ok (.d (.str ⟨#[c]⟩)) st
      | none => .bad) else .bad
    | _ => (match seqOf st u with
      | some l => (match atI l i with
        | some x => .ok x st
        | none => .bad)
      | none => .bad))
  | _ => .bad
theorem atI_rep {G : Gd} {H : Hp} {ρ : List Addr} {own : OwnV} {l : List U} {vs : List V} {i : Int} {u : U} (r : RepUs G H ρ own l vs) (h : atI l i = some u) : ∃ v, atI vs i = some v ∧ RepU G H ρ own u v := by
  unfold atI at h ⊢
  rw [← r.length]
  cases e : ixN l.length i with
  | none => rw [e] at h; cases h
  | some j =>
    rw [e] at h
    exact r.get h
theorem ops_ix : OpS oS G W (rIx G.K) gIx := by
  intro B ρ en st σ H u w x y Q R ru rw' h
  unfold gIx at h
  split at h
  · rename_i i
    cases rw' with
    | d rw' =>
      cases rw'
      split at h
      · rename_i z
        split at h
        · rename_i hz
          split at h
          · rename_i c hc
            cases ru with
            | d ru => cases ru; exact .inr (.inr ⟨z, i, c, rfl, rfl, hz, hc, h ρ H (Stp.refl _ _) R _ (.d (.str _))⟩)
          · exact h.elim
        · exact h.elim
      · split at h
        · rename_i l hl
          split at h
          · rename_i x0 hx
            obtain ⟨a, vs, rfl, sq, rs, hz⟩ := seq_rep R ru hl
            obtain ⟨v, hv, rv⟩ := atI_rep rs hx
            have q := h ρ H (Stp.refl _ _) R v rv
            rcases sq with sq | sq
            · exact .inl ⟨a, vs, i, v, rfl, rfl, .inl sq, hv, q⟩
            · exact .inr (.inl ⟨a, vs, i, v, rfl, rfl, sq, hv, q⟩)
          · exact h.elim
        · exact h.elim
  · exact h.elim
theorem se_ix {a b : Expr} {fa fb : SemE} {pos : Pos} (hK : X.K = G.K) (ha : SE X oS G W a fa) (hb : SE X oS G W b fb) (hs : PlainIx b := by intro _ _; rfl) : SE X oS G W (.Subscript a b pos) (mOp gIx fa fb) :=
  PE.imp (pe_ix (by rw [← hK]; exact ix_seq) ha hb hs) fun _ _ _ h => rd_op ops_ix h
/-! slices -/
def cutL {α : Type} (xs : List α) (lo hi : Option Int) : List α := (xs.drop (HT.sIx xs.length 0 lo)).take (HT.sIx xs.length xs.length hi - HT.sIx xs.length 0 lo)
theorem RepDs.cut {K : PySem.W.Frag} {H : Hp} {ds : List D} {vs : List V} (q : RepDs K H ds vs) (l u : Option Int) : RepDs K H (cutL ds l u) (cutV vs l u) := by
  unfold cutL cutV
  rw [← q.length]
  exact (q.drop _).take _
abbrev SemO := Nv → Sto → Res (Option Int)
def rdO (oS : OwnS) (G : Gd) (W : WX) (f : SemO) : L2.St → Hp → (Option Int → Hp → Prop) → Prop := fun σ H Q => ∃ B ρ en st, Rel oS G B ρ en st σ H ∧ PostE oS G W B ρ en σ H (fun u ρ' H' _ => Q u H') (f en st)
def SO (X : Cx) (oS : OwnS) (G : Gd) (W : WX) (e : Option Expr) (f : SemO) : Prop := PO X e (rdO oS G W f)
def mNoPart : SemO := fun _ st => .ok none st
def mPart (f : SemE) : SemO := fun en st => (f en st).bind fun u st => match u with
  | .d (.int i) => .ok (some i) st
  | _ => .bad
theorem PO.imp {X : Cx} {e : Option Expr} {t t' : TO} (h : PO X e t) (i : ∀ σ H Q, t' σ H Q → t σ H Q) : PO X e t' := ⟨fun pins s σ H Q I w => h.run pins s σ H Q I (i σ H Q w)⟩
theorem so_none : SO X oS G W none mNoPart := PO.imp po_none fun σ H Q ⟨B, ρ, en, st, R, h⟩ => h ρ H (Stp.refl _ _) R
theorem so_some {e : Expr} {f : SemE} (h : SE X oS G W e f) : SO X oS G W (some e) (mPart f) := by
  refine PO.imp (po_some h) fun σ H Q ⟨B, ρ, en, st, R, h⟩ => ?_
  refine ⟨B, ρ, en, st, R, (PostE.bind h).mono fun u st1 ρ1 H1 _ s1 R1 h1 v rv => ?_⟩
  split at h1
  · cases rv with
    | d rv => cases rv; exact ⟨_, rfl, h1 ρ1 H1 (Stp.refl _ _) R1⟩
  · exact h1.elim
def gSl (u : U) (lo hi : Option Int) (st : Sto) : Res U := match u with
  | .d (.str z) => if z.length ≤ sizeLine then .ok (.d (.str (cutS z lo hi))) st else .bad
  | .d (.tuple l) => .ok (.d (.tuple (cutL l lo hi))) st
  | .d (.list l) => .ok (.d (.list (cutL l lo hi))) st
  | _ => .bad
def mSl (f : SemE) (lo hi : SemO) : SemE := fun en st => (f en st).bind fun u st => (lo en st).bind fun l st => (hi en st).bind fun h st => gSl u l h st
theorem sl_all : SlR X (fun x lo hi H Q => rSlS x lo hi H Q ∨ rSlA X.K x lo hi H Q ∨ rSlL X.K x lo hi H Q) := SlR.or sl_str (SlR.or sl_tupA sl_list)
theorem se_sl {a : Expr} {lo hi : Option Expr} {f : SemE} {fl fh : SemO} {p2 pos : Pos} (hK : X.K = G.K) (ha : SE X oS G W a f) (hl : SO X oS G W lo fl) (hh : SO X oS G W hi fh) : SE X oS G W (.Subscript a (.Slice lo hi none p2) pos) (mSl f fl fh) := by
  refine PE.imp (pe_slice sl_all ha hl hh) fun σ H Q ⟨B, ρ, en, st, R, h⟩ => ?_
  refine ⟨B, ρ, en, st, R, (PostE.bind h).mono fun u st1 ρ1 H1 _ s1 R1 h1 x rx => ?_⟩
  refine ⟨B, ρ1, en, st1, R1, (PostE.bind h1).mono fun l st2 ρ2 H2 _ s2 R2 h2 => ?_⟩
  refine ⟨B, ρ2, en, st2, R2, (PostE.bind h2).mono fun u' st3 ρ3 H3 _ s3 R3 h3 => ?_⟩
  have rx3 := (rx.stp s2).stp s3
  unfold gSl at h3
  split at h3
  · split at h3
    · rename_i hz
      cases rx3 with
      | d rx3 => cases rx3; exact .inl ⟨_, rfl, hz, h3 ρ3 H3 (Stp.refl _ _) R3 _ (.d (.str _))⟩
    · exact h3.elim
  · cases rx3 with
    | d rx3 =>
      cases rx3 with
      | @tuple a0 vs0 l0 s z r =>
        have hz : (cutV vs0 l u').length ≤ sizeLine := Nat.le_trans (cutV_length vs0 l u') z
        have o := out_of R3 h3
        refine .inr (.inl ⟨_, _, rfl, by rw [hK]; exact SqT.le vis_le s, fun w => ?_, fun w p hp => ?_⟩)
        · refine o.1 _ (.tuple s z ?_)
          have e : cutV vs0 l u' = vs0 := by
            unfold cutV
            rw [w.1, w.2]
            simp
          have q := r.cut l u'
          rw [e] at q
          exact q
        · have f := R3.sto.fresh hp
          exact o.2 p _ _ hp (.tuple (SqT.of upd_same) hz ((r.le (le_new vis_le hp)).cut l u'))
  · cases rx3 with
    | d rx3 =>
      cases rx3 with
      | @list a0 vs0 l0 s z r =>
        have hz : (cutV vs0 l u').length ≤ sizeLine := Nat.le_trans (cutV_length vs0 l u') z
        have o := out_of R3 h3
        refine .inr (.inr ⟨_, _, rfl, .inl (Rd.le vis_le nt_lst s), fun p hp => ?_⟩)
        exact o.2 p _ _ hp (.list (.inl upd_same) hz ((r.le (le_new vis_le hp)).cut l u'))
  · exact h3.elim
end
end TT
set_option Elab.async false
set_option linter.all false
set_option maxRecDepth 100000
set_option maxHeartbeats 2000000
namespace TT
open PySem PySem.Spec PyProof.Rows L2

/-! ## calls of what the language has -/
def CallS (oS : OwnS) (G : Gd) (W : WX) (r : List V → Hp → VK → Prop) (g : List U → Sto → Res U) : Prop :=
  ∀ (B ρ : List Addr) (en : Nv) (st : Sto) (σ : L2.St) (H : Hp) (us : List U) (vs : List V) (Q : VK), Rel oS G B ρ en st σ H → RepUs G (vis B ρ H) ρ (oS σ) us vs →
    PostE oS G W B ρ en σ H (fun u ρ' H' _ => ∀ v, RepU G (vis B ρ' H') ρ' (oS σ) u v → Q v H') (g us st) → r vs H Q
def mCB (g : List U → Sto → Res U) (f : SemA) : SemE := fun en st => (f en st).bind g
section
variable {X : Cx} {oS : OwnS} {G : Gd} {W : WX}
theorem rd_CB {r : List V → Hp → VK → Prop} {g : List U → Sto → Res U} {f : SemA} (hg : CallS oS G W r g) {σ : L2.St} {H : Hp} {Q : VK} (h : rdE oS G W (mCB g f) σ H Q) : tCB r (rdA oS G W f) σ H Q := by
  obtain ⟨B, ρ, en, st, R, h⟩ := h
  refine ⟨B, ρ, en, st, R, (PostE.bind h).mono fun us st1 ρ1 H1 _ s1 R1 h1 vs rvs => ?_⟩
  exact hg B ρ1 en st1 σ H1 us vs Q R1 rvs h1
theorem se_callB {r : List V → Hp → VK → Prop} {g : List U → Sto → Res U} {id : String} {x : Str} {p pos : Pos} {e : Expr} {es : List Expr} {f : SemA} (hc : CallR X (.builtin id) r) (hs : CallS oS G W r g) (hg : Gl X x) (hm : X.mg x = none) (hv : bootBuiltins x = some (.builtin id)) (ha : SA X oS G W (e :: es) f)
    (hn : x ≠ "__name__" := by decide) (hdb : (x == ("__debug__" : Str)) = false := by decide) (na : starEach (e :: es) X.env = (false, eval e X.env) :: starEach es X.env := by rfl) (npl : (backTo pos (starEach es X.env)).any (·.1) = false := by rfl) :
    SE X oS G W (.Call (.Name x p) (e :: es) [] pos) (mCB g f) := by
  refine PE.imp (pe_callB hc hg hm hv ha hn hdb ?_ ?_) fun _ _ _ h => rd_CB hs h
  all_goals assumption
theorem se_callTy {r : List V → Hp → VK → Prop} {g : List U → Sto → Res U} {T : String} {x : Str} {p pos : Pos} {e : Expr} {es : List Expr} {f : SemA} (hc : CallR X (.type T) r) (hs : CallS oS G W r g) (hg : Gl X x) (hm : X.mg x = none) (hv : bootBuiltins x = some (.type T)) (ha : SA X oS G W (e :: es) f)
    (hn : x ≠ "__name__" := by decide) (hdb : (x == ("__debug__" : Str)) = false := by decide) (na : starEach (e :: es) X.env = (false, eval e X.env) :: starEach es X.env := by rfl) (npl : (backTo pos (starEach es X.env)).any (·.1) = false := by rfl) :
    SE X oS G W (.Call (.Name x p) (e :: es) [] pos) (mCB g f) := by
  refine PE.imp (pe_callTy hc hg hm hv ha hn hdb ?_ ?_) fun _ _ _ h => rd_CB hs h
  all_goals assumption
/-! ### len -/
def gLen : List U → Sto → Res U
  | [.d (.str z)], st => if z.length ≤ sizeLine then .ok (.d (.int z.length)) st else .bad
  | [u], st => (match seqOf st u with
    | some l => .ok (.d (.int l.length)) st
    | none => .bad)
  | _, _ => .bad
theorem cs_len : CallS oS G W (fun xs H Q => ∃ x n, xs = [x] ∧ LenV G.K x H n ∧ Q (.int n) H) gLen := by
  intro B ρ en st σ H us vs Q R r h
  unfold gLen at h
  split at h
  · rename_i z
    split at h
    · rename_i hz
      cases r with
      | cons a b => cases b; cases a with
        | d a => cases a; exact ⟨_, _, rfl, ⟨hz, rfl⟩, h ρ H (Stp.refl _ _) R _ (.d (.int _))⟩
    · exact h.elim
  · rename_i u _ _
    split at h
    · rename_i l hl
      cases r with
      | cons a b =>
        cases b
        obtain ⟨p, ws, rfl, sq, rs, hz⟩ := seq_rep R a hl
        refine ⟨_, l.length, rfl, ?_, h ρ H (Stp.refl _ _) R _ (.d (.int _))⟩
        rcases sq with sq | sq
        · exact .inl ⟨ws, .inl sq, rs.length⟩
        · exact .inr ⟨ws, sq, rs.length⟩
    · exact h.elim
  · exact h.elim
/-! ### all, any, sum -/
def boolsOf : List U → Option (List Bool)
  | [] => some []
  | .d (.bool b) :: r => (match boolsOf r with
    | some l => some (b :: l)
    | none => none)
  | _ :: _ => none
theorem boolsOf_rep {H : Hp} {ρ : List Addr} {own : OwnV} : ∀ {us : List U} {vs : List V} {l : List Bool}, RepUs G H ρ own us vs → boolsOf us = some l → vs = l.map V.bl
  | _, _, _, .nil, h => by cases h; rfl
  | _, _, _, .cons (d := u) a b, h => by
    cases a with
    | d a =>
      cases a with
      | bool i =>
        rw [boolsOf] at h
        split at h
        · rename_i l' e
          cases h
          rw [boolsOf_rep b e]; rfl
        · cases h
      | _ => simp [boolsOf] at h
    | _ => simp [boolsOf] at h
def gAll : List U → Sto → Res U
  | [u], st => (match (seqOf st u).bind boolsOf with
    | some l => .ok (.d (.bool (l.all id))) st
    | none => .bad)
  | _, _ => .bad
def gAny : List U → Sto → Res U
  | [u], st => (match (seqOf st u).bind boolsOf with
    | some l => .ok (.d (.bool (l.any id))) st
    | none => .bad)
  | _, _ => .bad
/-- a list, whatever is in it -/
def lstOf (st : Sto) : U → Option (List U)
  | .d (.list l) => some (l.map U.d)
  | .ref n => (match st[n]? with
    | some (.lst l) => some l
    | _ => none)
  | _ => none
theorem lst_rep {B ρ : List Addr} {en : Nv} {st : Sto} {σ : L2.St} {H : Hp} {u : U} {x : V} {l : List U} (R : Rel oS G B ρ en st σ H) (ru : RepU G (vis B ρ H) ρ (oS σ) u x) (h : lstOf st u = some l) :
    ∃ a vs, x = .ref a ∧ Rd H a (.lst vs) ∧ RepUs G (vis B ρ H) ρ (oS σ) l vs ∧ vs.length ≤ sizeLine := by
  unfold lstOf at h
  split at h
  · cases h
    cases ru with
    | d r =>
      cases r with
      | list s z r => exact ⟨_, _, rfl, Rd.le vis_le nt_lst s, RepUs.ofD r, z⟩
  · split at h
    · rename_i n l' e
      cases h
      cases ru with
      | ref hn =>
        obtain ⟨c, o, h1, h2, h3⟩ := R.sto.at hn
        rw [e] at h1
        cases h1
        cases h3 with
        | lst z r => exact ⟨_, _, rfl, .inl h2, r, z⟩
    · cases h
  · cases h
def gAllL : List U → Sto → Res U
  | [u], st => (match (lstOf st u).bind boolsOf with
    | some l => .ok (.d (.bool (l.all id))) st
    | none => .bad)
  | _, _ => .bad
def gAnyL : List U → Sto → Res U
  | [u], st => (match (lstOf st u).bind boolsOf with
    | some l => .ok (.d (.bool (l.any id))) st
    | none => .bad)
  | _, _ => .bad
theorem cs_all : CallS oS G W (rAll G.K) gAllL := by
  intro B ρ en st σ H us vs Q R r h
  unfold gAllL at h
  split at h
  · rename_i u
    split at h
    · rename_i l hl
      cases r with
      | cons a b =>
        cases b
        obtain ⟨l0, h0, h1⟩ := Option.bind_eq_some_iff.mp hl
        obtain ⟨p, ws, rfl, sq, rs, hz⟩ := lst_rep R a h0
        have e := boolsOf_rep rs h1
        subst e
        exact ⟨p, l, rfl, .inl sq, h ρ H (Stp.refl _ _) R _ (.d (.bool _))⟩
    · exact h.elim
  · exact h.elim
theorem cs_any : CallS oS G W (rAny G.K) gAnyL := by
  intro B ρ en st σ H us vs Q R r h
  unfold gAnyL at h
  split at h
  · rename_i u
    split at h
    · rename_i l hl
      cases r with
      | cons a b =>
        cases b
        obtain ⟨l0, h0, h1⟩ := Option.bind_eq_some_iff.mp hl
        obtain ⟨p, ws, rfl, sq, rs, hz⟩ := lst_rep R a h0
        have e := boolsOf_rep rs h1
        subst e
        exact ⟨p, l, rfl, .inl sq, h ρ H (Stp.refl _ _) R _ (.d (.bool _))⟩
    · exact h.elim
  · exact h.elim
def intsU : List U → Option (List Int)
  | [] => some []
  | .d (.int b) :: r => (match intsU r with
    | some l => some (b :: l)
    | none => none)
  | _ :: _ => none
theorem intsU_rep {H : Hp} {ρ : List Addr} {own : OwnV} : ∀ {us : List U} {vs : List V} {l : List Int}, RepUs G H ρ own us vs → intsU us = some l → vs = l.map V.int
  | _, _, _, .nil, h => by cases h; rfl
  | _, _, _, .cons (d := u) a b, h => by
    cases a with
    | d a =>
      cases a with
      | int i =>
        rw [intsU] at h
        split at h
        · rename_i l' e
          cases h
          rw [intsU_rep b e]; rfl
        · cases h
      | _ => simp [intsU] at h
    | _ => simp [intsU] at h
theorem intsU_map (l : List Int) : intsU (l.map fun i => U.d (.int i)) = some l := by
  induction l with
  | nil => rfl
  | cons a l ih => rw [List.map_cons, intsU, ih]
def gSum : List U → Sto → Res U
  | [u], st => (match (lstOf st u).bind intsU with
    | some l => .ok (.d (.int l.sum)) st
    | none => .bad)
  | _, _ => .bad
theorem cs_sum : CallS oS G W (rSum G.K) gSum := by
  intro B ρ en st σ H us vs Q R r h
  unfold gSum at h
  split at h
  · rename_i u
    split at h
    · rename_i l hl
      cases r with
      | cons a b =>
        cases b
        obtain ⟨l0, h0, h1⟩ := Option.bind_eq_some_iff.mp hl
        obtain ⟨p, ws, rfl, sq, rs, hz⟩ := lst_rep R a h0
        have e := intsU_rep rs h1
        subst e
        exact ⟨p, l, rfl, .inl sq, h ρ H (Stp.refl _ _) R _ (.d (.int _))⟩
    · exact h.elim
  · exact h.elim
/-! ### ints -/
def g1I (g : Int → D) : List U → Sto → Res U
  | [.d (.int i)], st => .ok (.d (g i)) st
  | _, _ => .bad
def gAbs := g1I fun i => .int (if i < 0 then -i else i)
theorem cs_abs : CallS oS G W (fun xs H Q => ∃ i, xs = [.int i] ∧ Q (.int (if i < 0 then -i else i)) H) gAbs := by
  intro B ρ en st σ H us vs Q R r h
  unfold gAbs g1I at h
  split at h
  · cases r with
    | cons a b => cases b; cases a with
      | d a => cases a; exact ⟨_, rfl, h ρ H (Stp.refl _ _) R _ (.d (.int _))⟩
  · exact h.elim
def g2I (g : Int → Int → D) : List U → Sto → Res U
  | [.d (.int i), .d (.int j)], st => .ok (.d (g i j)) st
  | _, _ => .bad
def gMax2 := g2I fun i j => .int (if j > i then j else i)
def gMin2 := g2I fun i j => .int (if j < i then j else i)
theorem cs_max2 : CallS oS G W (fun xs H Q => ∃ i j, xs = [.int i, .int j] ∧ Q (.int (if j > i then j else i)) H) gMax2 := by
  intro B ρ en st σ H us vs Q R r h
  unfold gMax2 g2I at h
  split at h
  · cases r with
    | cons a b => cases b with
      | cons a2 b => cases b; cases a with
        | d a => cases a; cases a2 with
          | d a2 => cases a2; exact ⟨_, _, rfl, h ρ H (Stp.refl _ _) R _ (.d (.int _))⟩
  · exact h.elim
theorem cs_min2 : CallS oS G W (fun xs H Q => ∃ i j, xs = [.int i, .int j] ∧ Q (.int (if j < i then j else i)) H) gMin2 := by
  intro B ρ en st σ H us vs Q R r h
  unfold gMin2 g2I at h
  split at h
  · cases r with
    | cons a b => cases b with
      | cons a2 b => cases b; cases a with
        | d a => cases a; cases a2 with
          | d a2 => cases a2; exact ⟨_, _, rfl, h ρ H (Stp.refl _ _) R _ (.d (.int _))⟩
  · exact h.elim
def gDivmod : List U → Sto → Res U
  | [.d (.int i), .d (.int j)], st => if 0 < j ∧ j < 1073741824 then .ok (.d (.tuple [.int (i / j), .int (i % j)])) st else .bad
  | _, _ => .bad
theorem cs_divmod : CallS oS G W (fun xs H Q => ∃ i j, xs = [.int i, .int j] ∧ CDiv i j ∧ ∀ p, H p = none → Q (.ref p) (upd H p (.tup [.int (i / j), .int (i % j)]))) gDivmod := by
  intro B ρ en st σ H us vs Q R r h
  unfold gDivmod at h
  split at h
  · split at h
    · rename_i hj
      cases r with
      | cons a b => cases b with
        | cons a2 b => cases b; cases a with
          | d a => cases a; cases a2 with
            | d a2 =>
              cases a2
              refine ⟨_, _, rfl, hj, fun p hp => ?_⟩
              exact (out_of R h).2 p _ _ hp (.tuple (SqT.of upd_same) (by show 2 ≤ sizeLine; rw [sizeLine_eq]; decide) (.cons (.int _) (.cons (.int _) .nil)))
    · exact h.elim
  · exact h.elim
def gInt : List U → Sto → Res U
  | [.d (.int i)], st => .ok (.d (.int i)) st
  | [.d (.bool b)], st => .ok (.d (.int (if b then 1 else 0))) st
  | [.d (.str z)], st => (match PySem.intText? z with
    | some n => if z.length ≤ 640 then .ok (.d (.int n)) st else .bad
    | none => .bad)
  | _, _ => .bad
theorem CallR.or {f : Value} {r r' : List V → Hp → VK → Prop} (h : CallR X f r) (h' : CallR X f r') : CallR X f (fun xs H Q => r xs H Q ∨ r' xs H Q) := fun pins s σ H xs us Q I rs q => q.elim (h pins s σ H xs us Q I rs) (h' pins s σ H xs us Q I rs)
def rInt : List V → Hp → VK → Prop := fun xs H Q => ((∃ i, xs = [.int i] ∧ Q (.int i) H) ∨ ∃ k, xs = [.bl k] ∧ Q (.int (if k then 1 else 0)) H) ∨ (∃ a n, xs = [.str a] ∧ PySem.intText? a = some n ∧ a.length ≤ 640 ∧ Q (.int n) H)
theorem call_int : CallR X (.type "int") rInt := CallR.or call_int1 call_int_str
theorem cs_int : CallS oS G W rInt gInt := by
  intro B ρ en st σ H us vs Q R r h
  unfold gInt at h
  split at h
  · cases r with
    | cons a b => cases b; cases a with
      | d a => cases a; exact .inl (.inl ⟨_, rfl, h ρ H (Stp.refl _ _) R _ (.d (.int _))⟩)
  · cases r with
    | cons a b => cases b; cases a with
      | d a => cases a; exact .inl (.inr ⟨_, rfl, h ρ H (Stp.refl _ _) R _ (.d (.int _))⟩)
  · split at h
    · rename_i n hn
      split at h
      · rename_i hz
        cases r with
        | cons a b => cases b; cases a with
          | d a => cases a; exact .inr ⟨_, n, rfl, hn, hz, h ρ H (Stp.refl _ _) R _ (.d (.int _))⟩
      · exact h.elim
    · exact h.elim
  · exact h.elim
def gStrI : List U → Sto → Res U
  | [.d (.int i)], st => if i.natAbs.log2 < 1920 then .ok (.d (.str (toString i))) st else .bad
  | _, _ => .bad
theorem cs_strI : CallS oS G W (fun xs H Q => ∃ i, xs = [.int i] ∧ i.natAbs.log2 < 1920 ∧ Q (.str (toString i)) H) gStrI := by
  intro B ρ en st σ H us vs Q R r h
  unfold gStrI at h
  split at h
  · split at h
    · rename_i hz
      cases r with
      | cons a b => cases b; cases a with
        | d a => cases a; exact ⟨_, rfl, hz, h ρ H (Stp.refl _ _) R _ (.d (.str _))⟩
    · exact h.elim
  · exact h.elim
/-! ### tuple(..), list(..) -/
def gTuple : List U → Sto → Res U
  | [.d (.tuple l)], st => .ok (.d (.tuple l)) st
  | [u], st => (match (lstOf st u).bind allD with
    | some l => .ok (.d (.tuple l)) st
    | none => .bad)
  | _, _ => .bad
theorem cs_tuple : CallS oS G W (fun xs H Q => ∃ p ys, xs = [.ref p] ∧ ((SqL G.K H p ys ∧ ∀ l, H l = none → Q (.ref l) (upd H l (.tup ys))) ∨ (SqT G.K H p ys ∧ Q (.ref p) H))) gTuple := by
  intro B ρ en st σ H us vs Q R r h
  unfold gTuple at h
  split at h
  · cases r with
    | cons a b => cases b; cases a with
      | d a => cases a with
        | tuple s z r => exact ⟨_, _, rfl, .inr ⟨SqT.le vis_le s, h ρ H (Stp.refl _ _) R _ (.d (.tuple s z r))⟩⟩
  · split at h
    · rename_i l hl
      cases r with
      | cons a b =>
        cases b
        obtain ⟨l0, h0, h1⟩ := Option.bind_eq_some_iff.mp hl
        obtain ⟨p, ws, rfl, sq, rs, hz⟩ := lst_rep R a h0
        refine ⟨p, ws, rfl, .inl ⟨.inl sq, fun q hq => ?_⟩⟩
        exact (out_of R h).2 q _ _ hq (.tuple (SqT.of upd_same) hz ((rs.allD h1).le (le_new vis_le hq)))
    · exact h.elim
  · exact h.elim
def gList : List U → Sto → Res U
  | [u], st => (match (seqOf st u).bind allD with
    | some l => .ok (.d (.list l)) st
    | none => .bad)
  | _, _ => .bad
abbrev rListOf (K : PySem.W.Frag) : List V → Hp → VK → Prop := fun xs H Q => ∃ p ys, xs = [.ref p] ∧ (SqL K H p ys ∨ SqT K H p ys) ∧ ∀ l, H l = none → Q (.ref l) (upd H l (.lst ys))
theorem cs_list : CallS oS G W (rListOf G.K) gList := by
  intro B ρ en st σ H us vs Q R r h
  unfold gList at h
  split at h
  · split at h
    · rename_i l hl
      cases r with
      | cons a b =>
        cases b
        obtain ⟨l0, h0, h1⟩ := Option.bind_eq_some_iff.mp hl
        obtain ⟨p, ws, rfl, sq, rs, hz⟩ := seq_rep R a h0
        refine ⟨p, ws, rfl, ?_, fun q hq => ?_⟩
        · rcases sq with sq | sq
          · exact .inl (.inl sq)
          · exact .inr sq
        · exact (out_of R h).2 q _ _ hq (.list (.inl upd_same) hz ((rs.allD h1).le (le_new vis_le hq)))
    · exact h.elim
  · exact h.elim
/-- .. one that will be changed -/
def gListR : List U → Sto → Res U
  | [u], st => (match seqOf st u with
    | some l => .ok (.ref st.length) (st ++ [.lst l])
    | none => .bad)
  | _, _ => .bad
theorem cs_listR : CallS oS G W (rListOf G.K) gListR := by
  intro B ρ en st σ H us vs Q R r h
  unfold gListR at h
  split at h
  · split at h
    · rename_i l hl
      cases r with
      | cons a b =>
        cases b
        obtain ⟨p, ws, rfl, sq, rs, hz⟩ := seq_rep R a hl
        refine ⟨p, ws, rfl, ?_, fun q hq => ?_⟩
        · rcases sq with sq | sq
          · exact .inl (.inl sq)
          · exact .inr sq
        · refine h (ρ ++ [q]) _ (Stp.laidRef hq) (R.laidRef hq (.lst hz rs)) _ (.ref ?_)
          rw [R.sto.len]
          simp
    · exact h.elim
  · exact h.elim
/-! ### isinstance -/
def tyNm : D → String
  | .none => "NoneType"
  | .bool _ => "bool"
  | .int _ => "int"
  | .str _ => "str"
  | .list _ => "list"
  | .tuple _ => "tuple"
  | .dict _ => "dict"
def isT (T : String) (d : D) : Bool := (tyNm d == T) || (T == "int" && tyNm d == "bool")
theorem kit_all : ∀ t ∈ ["NoneType", "bool", "int", "str", "list", "tuple", "dict"], ∀ T ∈ ["bool", "int", "str", "list", "tuple", "dict"], kitB t T = some ((t == T) || (T == "int" && t == "bool")) := by decide +kernel
theorem tyNm_mem (d : D) : tyNm d ∈ ["NoneType", "bool", "int", "str", "list", "tuple", "dict"] := by cases d <;> simp [tyNm]
def noDct : D → Bool
  | .dict _ => false
  | _ => true
theorem tyx_of {K : PySem.W.Frag} {Hv H : Hp} {d : D} {x : V} (le : Le Hv H) (r : RepD K Hv d x) (hd : noDct d = true) : TyX K H x (.type (tyNm d)) := by
  cases r with
  | none => exact .base .non
  | bool b => exact .base (.bl b)
  | int i => exact .base (.int i)
  | str y => exact .base (.str y)
  | list s z r =>
    rcases Rd.le le nt_lst s with s | ⟨o, s⟩
    · exact .base (.lst s)
    · exact .base (.frz s)
  | tuple s z r =>
    rcases SqT.le le s with (s | ⟨o, s⟩) | ⟨o, its, n, h1, h2, _⟩
    · exact .base (.tup s)
    · exact .fTuple s
    · exact .kTuple h1 h2
  | dK s r => cases hd
  | dT s r => cases hd
def tyNms : List String := ["bool", "int", "str", "list", "tuple", "dict"]
def gIs (T : String) : List U → Sto → Res U
  | [.d x, _], st => if noDct x = true then .ok (.d (.bool (isT T x))) st else .bad
  | _, _ => .bad
/-- isinstance(e, T), T the name of a built-in type -/
def mIs (T : String) (f : SemE) : SemE := fun en st => (f en st).bind fun u st => match u with
  | .d x => if noDct x = true then .ok (.d (.bool (isT T x))) st else .bad
  | _ => .bad
theorem se_is {T : String} {x y : Str} {e : Expr} {f : SemE} {p q pos : Pos} (hT : T ∈ tyNms) (hK : X.K = G.K) (he : SE X oS G W e f) (hg : Gl X x) (hm : X.mg x = none) (hv : bootBuiltins x = some (.builtin "isinstance")) (hg2 : Gl X y) (hm2 : X.mg y = none) (hv2 : bootBuiltins y = some (.type T))
    (hn : x ≠ "__name__" := by decide) (hdb : (x == ("__debug__" : Str)) = false := by decide) (hn2 : y ≠ "__name__" := by decide) (hdb2 : (y == ("__debug__" : Str)) = false := by decide)
    (na : starEach (e :: [.Name y q]) X.env = (false, eval e X.env) :: starEach [.Name y q] X.env := by rfl) (npl : (backTo pos (starEach [.Name y q] X.env)).any (·.1) = false := by rfl) (na2 : starEach (.Name y q :: []) X.env = (false, eval (.Name y q) X.env) :: starEach [] X.env := by rfl) :
    SE X oS G W (.Call (.Name x p) [e, .Name y q] [] pos) (mIs T f) := by
  have ha : PA X [e, .Name y q] (tCons (rdE oS G W f) (tCons (tC (.ty T)) tNil)) := pa_cons he (pa_cons (pe_bltn hg2 hm2 hv2 (show RelV (V.ty T) _ from rfl) hn2 hdb2) pa_nil na2) na
  refine PE.imp (pe_callB call_isi hg hm hv ha hn hdb ?_ ?_) fun σ H Q ⟨B, ρ, en, st, R, h⟩ => ?_
  · assumption
  · assumption
  refine ⟨B, ρ, en, st, R, (PostE.bind h).mono fun u st1 ρ1 H1 _ s1 R1 h1 v rv => ?_⟩
  split at h1
  · split at h1
    · rename_i hd
      cases rv with
      | d rv =>
        refine ⟨v, .ty T, _, _, isT T _, rfl, .ty T, by rw [hK]; exact tyx_of vis_le rv hd, kit_ty (kit_all _ (tyNm_mem _) T hT), h1 ρ1 H1 (Stp.refl _ _) R1 _ (.d (.bool _))⟩
    · exact h1.elim
  · exact h1.elim
/-! ### list(range(..)), tuple(range(..)) -/
abbrev SemR := Nv → Sto → Res (Int × Int)
def rdR (oS : OwnS) (G : Gd) (W : WX) (f : SemR) : L2.St → Hp → (Int → Int → Hp → Prop) → Prop := fun σ H Q => ∃ B ρ en st, Rel oS G B ρ en st σ H ∧ PostE oS G W B ρ en σ H (fun u ρ' H' _ => Q u.1 u.2 H') (f en st)
def SR (X : Cx) (oS : OwnS) (G : Gd) (W : WX) (e : Expr) (f : SemR) : Prop := PRg X e (rdR oS G W f)
theorem PRg.imp {X : Cx} {e : Expr} {t t' : L2.St → Hp → (Int → Int → Hp → Prop) → Prop} (h : PRg X e t) (i : ∀ σ H Q, t' σ H Q → t σ H Q) : PRg X e t' := fun pins s σ H Q I w => h pins s σ H Q I (i σ H Q w)
def mR1 (f : SemE) : SemR := fun en st => (f en st).bind fun u st => match u with
  | .d (.int n) => .ok (0, n) st
  | _ => .bad
def mR2 (f g : SemE) : SemR := fun en st => (f en st).bind fun u st => (g en st).bind fun w st => match u, w with
  | .d (.int n), .d (.int m) => .ok (n, m) st
  | _, _ => .bad
theorem sr_1 {a : Expr} {f : SemE} {p pos : Pos} (hg : Gl X "range") (hm : X.mg "range" = none) (ha : SE X oS G W a f) (na : starEach [a] X.env = (false, eval a X.env) :: starEach [] X.env := by rfl) : SR X oS G W (.Call (.Name "range" p) [a] [] pos) (mR1 f) := by
  refine PRg.imp (prg_1 hg hm ha na) fun σ H Q ⟨B, ρ, en, st, R, h⟩ => ?_
  refine ⟨B, ρ, en, st, R, (PostE.bind h).mono fun u st1 ρ1 H1 _ s1 R1 h1 v rv => ?_⟩
  split at h1
  · cases rv with
    | d rv => cases rv; exact ⟨_, rfl, h1 ρ1 H1 (Stp.refl _ _) R1⟩
  · exact h1.elim
theorem sr_2 {a b : Expr} {f g : SemE} {p pos : Pos} (hg : Gl X "range") (hm : X.mg "range" = none) (ha : SE X oS G W a f) (hb : SE X oS G W b g) (na : starEach [a, b] X.env = (false, eval a X.env) :: starEach [b] X.env := by rfl) (nb : starEach [b] X.env = (false, eval b X.env) :: starEach [] X.env := by rfl) (npl : (backTo pos (starEach [b] X.env)).any (·.1) = false := by rfl) : SR X oS G W (.Call (.Name "range" p) [a, b] [] pos) (mR2 f g) := by
  refine PRg.imp (prg_2 hg hm ha hb na nb npl) fun σ H Q ⟨B, ρ, en, st, R, h⟩ => ?_
  refine ⟨B, ρ, en, st, R, (PostE.bind h).mono fun u st1 ρ1 H1 _ s1 R1 h1 v rv => ?_⟩
  refine ⟨B, ρ1, en, st1, R1, (PostE.bind h1).mono fun w st2 ρ2 H2 _ s2 R2 h2 y ry => ?_⟩
  have rv2 := rv.stp s2
  split at h2
  · cases rv2 with
    | d rv2 => cases rv2; cases ry with
      | d ry => cases ry; exact ⟨_, _, rfl, rfl, h2 ρ2 H2 (Stp.refl _ _) R2⟩
  · exact h2.elim
def rgD (a b : Int) : List D := (List.range (b - a).toNat).map fun i => .int (a + (i : Nat))
theorem rg_rep {K : PySem.W.Frag} {H : Hp} (a b : Int) : RepDs K H (rgD a b) (rgV a b) := by
  unfold rgD rgV
  generalize List.range (b - a).toNat = l
  induction l with
  | nil => exact .nil
  | cons x l ih => exact .cons (.int _) ih
def rgOk (a b : Int) : Prop := -(2 ^ 62) ≤ a ∧ a < 2 ^ 62 ∧ -(2 ^ 62) ≤ b ∧ b < 2 ^ 62 ∧ (b - a).toNat ≤ 2 ^ 24
instance (a b : Int) : Decidable (rgOk a b) := by unfold rgOk; infer_instance
def mLstRg (f : SemR) : SemE := fun en st => (f en st).bind fun u st => if rgOk u.1 u.2 then .ok (.d (.list (rgD u.1 u.2))) st else .bad
def mTupRg (f : SemR) : SemE := fun en st => (f en st).bind fun u st => if rgOk u.1 u.2 then .ok (.d (.tuple (rgD u.1 u.2))) st else .bad
theorem se_listRg {e : Expr} {f : SemR} {p pos : Pos} (hc : X.calm = true) (hg : Gl X "list") (hm : X.mg "list" = none) (he : SR X oS G W e f) (na : starEach [e] X.env = (false, eval e X.env) :: starEach [] X.env := by rfl) : SE X oS G W (.Call (.Name "list" p) [e] [] pos) (mLstRg f) := by
  refine PE.imp (pe_listRg hc hg hm he na) fun σ H Q ⟨B, ρ, en, st, R, h⟩ => ?_
  refine ⟨B, ρ, en, st, R, (PostE.bind h).mono fun u st1 ρ1 H1 _ s1 R1 h1 => ?_⟩
  split at h1
  · rename_i ok
    refine ⟨ok, fun q hq => ?_⟩
    exact (out_of R1 h1).2 q _ _ hq (.list (.inl upd_same) (by rw [rgV_length, sizeLine_eq]; exact ok.2.2.2.2) (rg_rep _ _))
  · exact h1.elim
theorem se_tupRg {e : Expr} {f : SemR} {p pos : Pos} (hc : X.calm = true) (hg : Gl X "tuple") (hm : X.mg "tuple" = none) (he : SR X oS G W e f) (na : starEach [e] X.env = (false, eval e X.env) :: starEach [] X.env := by rfl) : SE X oS G W (.Call (.Name "tuple" p) [e] [] pos) (mTupRg f) := by
  refine PE.imp (pe_tupRg hc hg hm he na) fun σ H Q ⟨B, ρ, en, st, R, h⟩ => ?_
  refine ⟨B, ρ, en, st, R, (PostE.bind h).mono fun u st1 ρ1 H1 _ s1 R1 h1 => ?_⟩
  split at h1
  · rename_i ok
    refine ⟨ok, fun q hq => ?_⟩
    exact (out_of R1 h1).2 q _ _ hq (.tuple (SqT.of upd_same) (by rw [rgV_length, sizeLine_eq]; exact ok.2.2.2.2) (rg_rep _ _))
  · exact h1.elim
end
end TT
set_option Elab.async false
set_option linter.all false
set_option maxRecDepth 100000
set_option maxHeartbeats 2000000
namespace TT
open PySem PySem.Spec PyProof.Rows L2

/-! ## statements -/
abbrev SemS := Nv → Sto → RS
def PostS (oS : OwnS) (G : Gd) (W : WX) (B ρ : List Addr) (H : Hp) (Dn : Ends) : RS → Prop
  | .nx e s => ∀ ρ' H' σ', Stp ρ H ρ' H' → Rel oS G B ρ' e s σ' H' → Dn.nx σ' H'
  | .rt u s => ∀ ρ' H' σ' v, Stp ρ H ρ' H' → RelS G B ρ' (oS σ') s H' → RepU G (vis B ρ' H') ρ' (oS σ') u v → Dn.rt v H'
  | .bk e s => ∀ ρ' H' σ', Stp ρ H ρ' H' → Rel oS G B ρ' e s σ' H' → Dn.bk σ' H'
  | .ct e s => ∀ ρ' H' σ', Stp ρ H ρ' H' → Rel oS G B ρ' e s σ' H' → Dn.ct σ' H'
  | .exn c u e s => ∀ ρ' H' σ' (C : Addr) (d : Option Addr), Stp ρ H ρ' H' → Rel oS G B ρ' e s σ' H' → ExcR oS G B ρ' σ' H' c u C d → W (.ref C) d σ' H'
  | .bad => False
def rdS (oS : OwnS) (G : Gd) (W : WX) (f : SemS) : TS := fun Dn σ H => ∃ B ρ en st, Rel oS G B ρ en st σ H ∧ PostS oS G W B ρ H Dn (f en st)
def SS (X : Cx) (oS : OwnS) (G : Gd) (W : WX) (s : Stmt) (f : SemS) : Prop := PS X s (rdS oS G W f)
def SL (X : Cx) (oS : OwnS) (G : Gd) (W : WX) (s : List Stmt) (f : SemS) : Prop := PSs X s (rdS oS G W f)
theorem PS.imp {X : Cx} {e : Stmt} {t t' : TS} (h : PS X e t) (i : ∀ Dn σ H, t' Dn σ H → t Dn σ H) : PS X e t' := ⟨fun pins s σ H Dn I w => h.run pins s σ H Dn I (i Dn σ H w)⟩
theorem PSs.imp {X : Cx} {e : List Stmt} {t t' : TS} (h : PSs X e t) (i : ∀ Dn σ H, t' Dn σ H → t Dn σ H) : PSs X e t' := ⟨fun pins s σ H Dn I w => h.run pins s σ H Dn I (i Dn σ H w)⟩
section
variable {X : Cx} {oS : OwnS} {G : Gd} {W : WX} {B ρ ρ' : List Addr} {H H' : Hp}
theorem PostS.step {Dn : Ends} {r : RS} (s : Stp ρ H ρ' H') (h : PostS oS G W B ρ H Dn r) : PostS oS G W B ρ' H' Dn r := by
  cases r with
  | nx e st => exact fun ρ2 H2 σ2 s2 r2 => h ρ2 H2 σ2 (s.trans s2) r2
  | rt u st => exact fun ρ2 H2 σ2 v s2 r2 => h ρ2 H2 σ2 v (s.trans s2) r2
  | bk e st => exact fun ρ2 H2 σ2 s2 r2 => h ρ2 H2 σ2 (s.trans s2) r2
  | ct e st => exact fun ρ2 H2 σ2 s2 r2 => h ρ2 H2 σ2 (s.trans s2) r2
  | exn c u e st => exact fun ρ2 H2 σ2 C d s2 r2 => h ρ2 H2 σ2 C d (s.trans s2) r2
  | bad => exact h
/-- from an expression on -/
def Res.toS {α : Type} (en : Nv) : Res α → (α → Sto → RS) → RS
  | .ok a s, k => k a s
  | .exn c u s, _ => .exn c u en s
  | .bad, _ => .bad
theorem Rel.ofS {oS : OwnS} {G : Gd} {B ρ ρ' : List Addr} {en : Nv} {st st' : Sto} {σ : L2.St} {H H' : Hp} (R : Rel oS G B ρ en st σ H) (s : Stp ρ H ρ' H') (r : RelS G B ρ' (oS σ) st' H') : Rel oS G B ρ' en st' σ H' :=
  ⟨r, R.len, fun i u hu => by
    obtain ⟨v, h1, h2⟩ := R.env i u hu
    exact ⟨v, h1, h2.stp s⟩⟩
theorem postE_of {α : Type} {en : Nv} {st : Sto} {σ : L2.St} {Dn : Ends} {r : Res α} {k : α → Sto → RS} {Q : α → List Addr → Hp → Sto → Prop} (R : Rel oS G B ρ en st σ H) (h : PostS oS G W B ρ H Dn (r.toS en k))
    (i : ∀ u st' ρ' H', Stp ρ H ρ' H' → Rel oS G B ρ' en st' σ H' → PostS oS G W B ρ' H' Dn (k u st') → Q u ρ' H' st') : PostE oS G W B ρ en σ H Q r := by
  cases r with
  | ok u st' => exact fun ρ2 H2 s2 r2 => i u st' ρ2 H2 s2 r2 (PostS.step s2 h)
  | exn c u st' => exact fun ρ2 H2 C d s2 r2 x => h ρ2 H2 σ C d s2 (R.ofS s2 r2) x
  | bad => exact h
end
section
variable {X : Cx} {oS : OwnS} {G : Gd} {W : WX}
def mNext : SemS := fun en st => .nx en st
def RS.then : RS → SemS → RS
  | .nx e s, g => g e s
  | r, _ => r
def mSeq (f g : SemS) : SemS := fun en st => (f en st).then g
theorem sl_nil : SL X oS G W [] mNext := PSs.imp pss_nil fun Dn σ H ⟨B, ρ, en, st, R, h⟩ => h ρ H σ (Stp.refl _ _) R
theorem sl_cons {s : Stmt} {r : List Stmt} {f g : SemS} (h1 : SS X oS G W s f) (h2 : SL X oS G W r g) : SL X oS G W (s :: r) (mSeq f g) := by
  refine PSs.imp (pss_cons h1 h2) fun Dn σ H ⟨B, ρ, en, st, R, h⟩ => ?_
  refine ⟨B, ρ, en, st, R, ?_⟩
  unfold mSeq at h
  cases q : f en st with
  | nx e s => rw [q] at h; exact fun ρ1 H1 σ1 s1 R1 => ⟨B, ρ1, e, s, R1, PostS.step s1 h⟩
  | rt u s => rw [q] at h; exact h
  | bk e s => rw [q] at h; exact h
  | ct e s => rw [q] at h; exact h
  | exn c u e s => rw [q] at h; exact h
  | bad => rw [q] at h; exact h
theorem sl_one {s : Stmt} {f : SemS} (h1 : SS X oS G W s f) : SL X oS G W [s] f := pss_one h1
def mPass : SemS := fun en st => .nx en st
theorem ss_pass {pos : Pos} : SS X oS G W (.Pass pos) mPass := PS.imp ps_pass fun Dn σ H ⟨B, ρ, en, st, R, h⟩ => h ρ H σ (Stp.refl _ _) R
theorem ss_break {pos : Pos} : SS X oS G W (.Break pos) (fun en st => .bk en st) := PS.imp ps_break fun Dn σ H ⟨B, ρ, en, st, R, h⟩ => h ρ H σ (Stp.refl _ _) R
theorem ss_continue {pos : Pos} : SS X oS G W (.Continue pos) (fun en st => .ct en st) := PS.imp ps_continue fun Dn σ H ⟨B, ρ, en, st, R, h⟩ => h ρ H σ (Stp.refl _ _) R
def mExpr (f : SemE) : SemS := fun en st => (f en st).toS en fun _ st => .nx en st
theorem ss_expr {e : Expr} {f : SemE} {pos : Pos} (he : SE X oS G W e f) (hs : swapsWith e none pos.line X.env = pure false := by rfl) : SS X oS G W (.Expr e pos) (mExpr f) := by
  refine PS.imp (ps_expr he hs) fun Dn σ H ⟨B, ρ, en, st, R, h⟩ => ?_
  exact ⟨B, ρ, en, st, R, postE_of R h fun u st1 ρ1 H1 s1 R1 h1 v rv => h1 ρ1 H1 σ (Stp.refl _ _) R1⟩
def mRet (f : SemE) : SemS := fun en st => (f en st).toS en fun u st => .rt u st
theorem ss_ret {e : Expr} {f : SemE} {pos : Pos} (he : SE X oS G W e f) : SS X oS G W (.Return (some e) pos) (mRet f) := by
  refine PS.imp (ps_ret he) fun Dn σ H ⟨B, ρ, en, st, R, h⟩ => ?_
  exact ⟨B, ρ, en, st, R, postE_of R h fun u st1 ρ1 H1 s1 R1 h1 v rv => h1 ρ1 H1 σ v (Stp.refl _ _) R1.sto rv⟩
def mRetN : SemS := fun _ st => .rt (.d .none) st
theorem ss_retN {pos : Pos} : SS X oS G W (.Return none pos) mRetN := PS.imp ps_retN fun Dn σ H ⟨B, ρ, en, st, R, h⟩ => h ρ H σ .non (Stp.refl _ _) R.sto (.d .none)
def mIfS (t : SemT) (f g : SemS) : SemS := fun en st => (t en st).toS en fun c st => if c = true then f en st else g en st
theorem ss_if {c : Expr} {a b : List Stmt} {t : SemT} {f g : SemS} {pos : Pos} (hc : ST X oS G W c t) (ha : SL X oS G W a f) (hb : SL X oS G W b g) : SS X oS G W (.If c a b pos) (mIfS t f g) := by
  refine PS.imp (ps_if hc ha hb) fun Dn σ H ⟨B, ρ, en, st, R, h⟩ => ?_
  refine ⟨B, ρ, en, st, R, postE_of R h fun c st1 ρ1 H1 s1 R1 h1 => ?_⟩
  by_cases hc : c = true
  · rw [if_pos hc] at h1 ⊢
    exact ⟨B, ρ1, en, st1, R1, h1⟩
  · rw [if_neg hc] at h1 ⊢
    exact ⟨B, ρ1, en, st1, R1, h1⟩

/-! ## targets -/
mutual
def hasOwn : U → Bool
  | .clo own _ caps => own || hasOwnL caps
  | .tup l => hasOwnL l
  | _ => false
def hasOwnL : List U → Bool
  | [] => false
  | u :: r => hasOwn u || hasOwnL r
end
mutual
theorem RepU.noOwn {H : Hp} {ρ : List Addr} {own own' : OwnV} : ∀ {u : U} {v : V}, RepU G H ρ own u v → hasOwn u = false → RepU G H ρ own' u v
  | _, _, .d r, _ => .d r
  | _, _, .ref h, _ => .ref h
  | _, _, .fn h, _ => .fn h
  | _, _, .tup s z r, h => .tup s z (RepUs.noOwn r (by simpa only [hasOwn] using h))
  | _, _, .cloO k h h' co q r, e => by simp [hasOwn] at e
  | _, _, .cloH k h h' co q r, e => .cloH k h h' co q (RepUs.noOwn r (by simpa only [hasOwn, Bool.false_or] using e))
theorem RepUs.noOwn {H : Hp} {ρ : List Addr} {own own' : OwnV} : ∀ {u : List U} {v : List V}, RepUs G H ρ own u v → hasOwnL u = false → RepUs G H ρ own' u v
  | _, _, .nil, _ => .nil
  | _, _, .cons a b, h => by
    simp only [hasOwnL, Bool.or_eq_false_iff] at h
    exact .cons (RepU.noOwn a h.1) (RepUs.noOwn b h.2)
end
def enOwn (en : Nv) : Bool := en.any fun o => match o with
  | some u => hasOwn u
  | none => false
def cellOwn : Cell → Bool
  | .lst l => hasOwnL l
  | .dct l => l.any fun p => hasOwn p.2
def stOwn (st : Sto) : Bool := st.any cellOwn
abbrev SemG := U → Nv → Sto → RS
def rdG (oS : OwnS) (G : Gd) (W : WX) (g : SemG) : TG := fun v σ H Q => ∃ B ρ en st u, Rel oS G B ρ en st σ H ∧ RepU G (vis B ρ H) ρ (oS σ) u v ∧ PostS oS G W B ρ H ⟨Q, fun _ _ => False, fun _ _ => False, fun _ _ => False⟩ (g u en st)
def rdGs (oS : OwnS) (G : Gd) (W : WX) (g : List U → Nv → Sto → RS) : TGs := fun vs σ H Q => ∃ B ρ en st us, Rel oS G B ρ en st σ H ∧ RepUs G (vis B ρ H) ρ (oS σ) us vs ∧ PostS oS G W B ρ H ⟨Q, fun _ _ => False, fun _ _ => False, fun _ _ => False⟩ (g us en st)
def SG (X : Cx) (oS : OwnS) (G : Gd) (W : WX) (t : Expr) (g : SemG) : Prop := PG X t (rdG oS G W g)
def SGs (X : Cx) (oS : OwnS) (G : Gd) (W : WX) (t : List Expr) (g : List U → Nv → Sto → RS) : Prop := PGs X t (rdGs oS G W g)
theorem PG.imp {t : Expr} {g g' : TG} (h : PG X t g) (i : ∀ v σ H Q, g' v σ H Q → g v σ H Q) : PG X t g' := ⟨fun pins s σ H v u Q I r w => h.run pins s σ H v u Q I r (i v σ H Q w)⟩
theorem PGs.imp {t : List Expr} {g g' : TGs} (h : PGs X t g) (i : ∀ v σ H Q, g' v σ H Q → g v σ H Q) : PGs X t g' := ⟨fun pins s σ H v u Q I r w => h.run pins s σ H v u Q I r (i v σ H Q w)⟩
/-- a store to the i-th name turns no captured cell -/
def NoCell (oS : OwnS) (i : Nat) : Prop := ∀ (σ : L2.St) (v : V) (c : Addr) (w : V), oS σ c w → oS (σ.set i (some v)) c w
theorem noCell_def {X : Cx} {i : Nat} {x : Str} (hi : X.N[i]? = some x) (hx : X.env.cells.lookup x = none) : NoCell (ownV X) i := by
  intro σ v c w h
  obtain ⟨j, y, h1, h2, h3⟩ := h
  refine ⟨j, y, h1, h2, ?_⟩
  rw [List.getElem?_set_ne]
  · exact h3
  · rintro rfl
    rw [hi] at h1
    cases h1
    rw [hx] at h2
    cases h2
def noOwnS : OwnS := fun _ _ _ => False
theorem noCell_no {i : Nat} : NoCell noOwnS i := fun _ _ _ _ h => h
theorem Rel.setL {B ρ : List Addr} {en : Nv} {st : Sto} {σ : L2.St} {H : Hp} {i : Nat} {u : U} {v : V} (R : Rel oS G B ρ en st σ H) (ru : RepU G (vis B ρ H) ρ (oS σ) u v) (hi : NoCell oS i) :
    Rel oS G B ρ (en.set i (some u)) st (σ.set i (some v)) H := by
  have ow : ∀ c w, oS σ c w → oS (σ.set i (some v)) c w := fun c w h => hi σ v c w h
  refine ⟨R.sto.own ow, by rw [List.length_set, List.length_set, R.len], fun j w hw => ?_⟩
  by_cases hj : i = j
  · subst hj
    have hl : i < en.length := by
      have := (List.getElem?_eq_some_iff.mp hw).1
      simpa using this
    rw [List.getElem?_set_self hl] at hw
    cases hw
    refine ⟨v, List.getElem?_set_self (by rw [← R.len]; exact hl), ru.le (Le.refl _) (fun _ _ z => z) ow⟩
  · rw [List.getElem?_set_ne hj] at hw
    obtain ⟨v', h1, h2⟩ := R.env j w hw
    exact ⟨v', by rw [List.getElem?_set_ne hj]; exact h1, h2.le (Le.refl _) (fun _ _ z => z) ow⟩
theorem RelS.noOwn {B ρ : List Addr} {own own' : OwnV} {st : Sto} {H : Hp} (r : RelS G B ρ own st H) (h : stOwn st = false) : RelS G B ρ own' st H :=
  ⟨r.len, r.nd, fun n c hc => by
    obtain ⟨a, o, h1, h2, h3⟩ := r.cell n c hc
    refine ⟨a, o, h1, h2, ?_⟩
    have hcO : cellOwn c = false := by
      unfold stOwn at h
      rw [List.any_eq_false] at h
      simpa using h c (List.mem_of_getElem? hc)
    cases h3 with
    | lst z r => exact .lst z (r.noOwn (by simpa only [cellOwn] using hcO))
    | @dK l0 kvs0 r =>
      refine .dK ?_
      have hq : ∀ p ∈ l0, hasOwn p.2 = false := fun p hp => by
        simp only [cellOwn, List.any_eq_false] at hcO
        simpa using hcO p hp
      clear hcO hc h1 h2 h
      induction r with
      | nil => exact .nil
      | cons a b ih => exact .cons ⟨a.1, a.2.noOwn (hq _ List.mem_cons_self)⟩ (ih fun p hp => hq p (List.mem_cons_of_mem _ hp))
    | @dT l0 kvs0 r =>
      refine .dT ?_
      have hq : ∀ p ∈ l0, hasOwn p.2 = false := fun p hp => by
        simp only [cellOwn, List.any_eq_false] at hcO
        simpa using hcO p hp
      clear hcO hc h1 h2 h
      induction r with
      | nil => exact .nil
      | cons a b ih => exact .cons ⟨a.1, a.2.noOwn (hq _ List.mem_cons_self)⟩ (ih fun p hp => hq p (List.mem_cons_of_mem _ hp)), r.hid, r.tabs⟩
theorem Rel.setC {B ρ : List Addr} {en : Nv} {st : Sto} {σ : L2.St} {H : Hp} {i : Nat} {u : U} {v : V} (R : Rel oS G B ρ en st σ H) (ru : RepU G (vis B ρ H) ρ (oS σ) u v) (h1 : enOwn en = false) (h2 : stOwn st = false) (h3 : hasOwn u = false) :
    Rel oS G B ρ (en.set i (some u)) st (σ.set i (some v)) H := by
  refine ⟨R.sto.noOwn h2, by rw [List.length_set, List.length_set, R.len], fun j w hw => ?_⟩
  by_cases hj : i = j
  · subst hj
    have hl : i < en.length := by
      have := (List.getElem?_eq_some_iff.mp hw).1
      simpa using this
    rw [List.getElem?_set_self hl] at hw
    cases hw
    exact ⟨v, List.getElem?_set_self (by rw [← R.len]; exact hl), ru.noOwn h3⟩
  · rw [List.getElem?_set_ne hj] at hw
    obtain ⟨v', q1, q2⟩ := R.env j w hw
    refine ⟨v', by rw [List.getElem?_set_ne hj]; exact q1, q2.noOwn ?_⟩
    unfold enOwn at h1
    rw [List.any_eq_false] at h1
    simpa using h1 _ (List.mem_of_getElem? hw)
/-- a local name -/
def mG (i : Nat) : SemG := fun u en st => .nx (en.set i (some u)) st
/-- a name that others capture -/
def mGC (i : Nat) : SemG := fun u en st => if enOwn en = false ∧ stOwn st = false ∧ hasOwn u = false then .nx (en.set i (some u)) st else .bad
theorem sg_name {i : Nat} {x : Str} {pos : Pos} (hN : X.N.Nodup) (hi : X.N[i]? = some x) (hx : Loc X.env.scope x) (hc : NoCell oS i) (hf : X.fn x = true ∨ X.env.scope.names.lookup x = some .local := by first | exact .inl rfl | exact .inr rfl | assumption) : SG X oS G W (.Name x pos) (mG i) := by
  refine PG.imp (pg_name hN hi hx hf) fun v σ H Q ⟨B, ρ, en, st, u, R, ru, h⟩ => ?_
  exact h ρ H _ (Stp.refl _ _) (R.setL ru hc)
theorem sg_cell {i : Nat} {x : Str} {pos : Pos} (hN : X.N.Nodup) (hi : X.N[i]? = some x) (hx : Loc X.env.scope x) (hf : X.fn x = true ∨ X.env.scope.names.lookup x = some .local := by first | exact .inl rfl | exact .inr rfl | assumption) : SG X oS G W (.Name x pos) (mGC i) := by
  refine PG.imp (pg_name hN hi hx hf) fun v σ H Q ⟨B, ρ, en, st, u, R, ru, h⟩ => ?_
  unfold mGC at h
  split at h
  · rename_i e
    exact h ρ H _ (Stp.refl _ _) (R.setC ru e.1 e.2.1 e.2.2)
  · exact h.elim
def mGNil : List U → Nv → Sto → RS := fun us en st => match us with
  | [] => .nx en st
  | _ => .bad
def mGCons (g : SemG) (gs : List U → Nv → Sto → RS) : List U → Nv → Sto → RS := fun us en st => match us with
  | u :: r => (g u en st).then (gs r)
  | [] => .bad
theorem sgs_nil : SGs X oS G W [] mGNil := by
  refine PGs.imp pgs_nil fun v σ H Q ⟨B, ρ, en, st, us, R, ru, h⟩ => ?_
  unfold mGNil at h
  split at h
  · cases ru
    exact ⟨rfl, h ρ H σ (Stp.refl _ _) R⟩
  · exact h.elim
theorem sgs_cons {e : Expr} {es : List Expr} {g : SemG} {gs : List U → Nv → Sto → RS} (h1 : SG X oS G W e g) (h2 : SGs X oS G W es gs)
    (hs : (assignEach (e :: es) X.env).map (·.2) = assign e X.env :: (assignEach es X.env).map (·.2) := by rfl) (hno : ∀ us, hasOwnL us = false → True := by intros; trivial) :
    SGs X oS G W (e :: es) (fun us en st => if hasOwnL us.tail = false then mGCons g gs us en st else .bad) := by
  refine PGs.imp (pgs_cons h1 h2 hs) fun v σ H Q ⟨B, ρ, en, st, us, R, ru, h⟩ => ?_
  dsimp only at h
  split at h
  · rename_i ho
    unfold mGCons at h
    split at h
    · rename_i u r
      cases ru with
      | cons a b =>
        refine ⟨_, _, rfl, B, ρ, en, st, u, R, a, ?_⟩
        cases q : g u en st with
        | nx e s => rw [q] at h; exact fun ρ1 H1 σ1 s1 R1 => ⟨B, ρ1, e, s, r, R1, (b.stp s1).noOwn (by simpa using ho), PostS.step s1 h⟩
        | rt u s => rw [q] at h; exact h
        | bk e s => rw [q] at h; exact h
        | ct e s => rw [q] at h; exact h
        | exn c u e s => rw [q] at h; exact h
        | bad => rw [q] at h; exact h
    · exact h.elim
  · exact h.elim
/-- a tuple is taken apart -/
def tupOf (u : U) : Option (List U) := match u with
  | .d (.tuple l) => some (l.map U.d)
  | .tup l => some l
  | _ => none
def mGTup (n : Nat) (gs : List U → Nv → Sto → RS) : SemG := fun u en st => match tupOf u with
  | some l => if l.length = n then gs l en st else .bad
  | none => .bad
theorem sg_tup {es : List Expr} {k : Nat} {gs : List U → Nv → Sto → RS} {n : Nat} {pos : Pos} (hK : X.K = G.K) (hc : X.calm = true) (h : SGs X oS G W es gs)
    (hn : (assignEach es X.env).length = n := by rfl) (hst : (assignEach es X.env).findIdx? (·.1) = none := by rfl) : SG X oS G W (.Tuple es k pos) (mGTup n gs) := by
  refine PG.imp (pg_tup hc h hn hst) fun v σ H Q ⟨B, ρ, en, st, u, R, ru, h⟩ => ?_
  unfold mGTup at h
  split at h
  · rename_i l hl
    split at h
    · rename_i hn
      have q : ∃ a vs, v = .ref a ∧ SqT G.K H a vs ∧ RepUs G (vis B ρ H) ρ (oS σ) l vs := by
        unfold tupOf at hl
        split at hl
        · cases hl
          cases ru with
          | d r => cases r with
            | tuple s z r => exact ⟨_, _, rfl, SqT.le vis_le s, RepUs.ofD r⟩
        · cases hl
          cases ru with
          | tup s z r => exact ⟨_, _, rfl, SqT.le vis_le s, r⟩
        · cases hl
      obtain ⟨a, vs, rfl, sq, rs⟩ := q
      exact ⟨a, vs, rfl, by rw [hK]; exact sq, by rw [← rs.length]; exact hn, B, ρ, en, st, l, R, rs, h⟩
    · exact h.elim
  · exact h.elim
/-! a cell is written -/
theorem tabs_write {T : List NdefX.NTab} {H : Hp} {a : Addr} {o o' : HO} (t : NdefX.TabsN T H) (h : H a = some o) (n : TT.nt o) (n2 : ∀ c q, o ≠ LamX.CodeO c q) : NdefX.TabsN T (upd H a o') := fun p hp => by
  obtain ⟨ps, h1, h2, h3⟩ := t p hp
  refine ⟨ps, ?_, h2, fun pos cv hc => ?_⟩
  · rw [upd_ne]
    · exact h1
    · intro z
      rw [z, h] at h1
      exact n ps (Option.some.inj h1)
  · obtain ⟨c, e1, e2⟩ := h3 pos cv hc
    refine ⟨c, e1, ?_⟩
    rw [upd_ne]
    · exact e2
    · intro z
      rw [z, h] at e2
      exact n2 _ _ (Option.some.inj e2)
theorem RelS.write {B ρ : List Addr} {own : OwnV} {st : Sto} {H : Hp} (r : RelS G B ρ own st H) {n : Nat} {a : Addr} {c : Cell} {o : HO} (h : ρ[n]? = some a) (rc : RepC G (vis B ρ H) ρ own c o) : RelS G B ρ own (st.set n c) (upd H a o) := by
  have ha : a ∈ ρ := List.mem_of_getElem? h
  obtain ⟨c0, o0, q1, q2, q3⟩ := r.at h
  have s : Stp ρ H ρ (upd H a o) := Stp.write ha
  refine ⟨by rw [List.length_set, r.len], r.nd, fun m c' hc => ?_, fun b hb => ?_, tabs_write r.tabs q2 (fun ps e => q3.nt ps e) (by intro c q e; unfold LamX.CodeO at e; cases q3 <;> cases e)⟩
  · by_cases hm : n = m
    · subst hm
      have hl : n < st.length := by
        have := (List.getElem?_eq_some_iff.mp hc).1
        simpa using this
      rw [List.getElem?_set_self hl] at hc
      cases hc
      exact ⟨a, o, h, upd_same, rc.le s.le s.pre fun _ _ z => z⟩
    · rw [List.getElem?_set_ne hm] at hc
      obtain ⟨b, o', h1, h2, h3⟩ := r.cell m c' hc
      refine ⟨b, o', h1, ?_, h3.le s.le s.pre fun _ _ z => z⟩
      rw [upd_ne]
      · exact h2
      · rintro rfl
        have hn' : n < ρ.length := (List.getElem?_eq_some_iff.mp h).1
        have hm' : m < ρ.length := (List.getElem?_eq_some_iff.mp h1).1
        rw [List.getElem?_eq_getElem hn'] at h
        rw [List.getElem?_eq_getElem hm'] at h1
        exact hm ((List.getElem_inj r.nd).mp (Option.some.inj (h.trans h1.symm)))
  · obtain ⟨h1, o', h2, h3⟩ := r.hid b hb
    refine ⟨h1, o', ?_, h3⟩
    rw [upd_ne]
    · exact h2
    · rintro rfl
      exact h1 ha
theorem Rel.write {B ρ : List Addr} {en : Nv} {st : Sto} {σ : L2.St} {H : Hp} (r : Rel oS G B ρ en st σ H) {n : Nat} {a : Addr} {c : Cell} {o : HO} (h : ρ[n]? = some a) (rc : RepC G (vis B ρ H) ρ (oS σ) c o) :
    Stp ρ H ρ (upd H a o) ∧ Rel oS G B ρ en (st.set n c) σ (upd H a o) := by
  obtain ⟨c0, o0, q1, q2, q3⟩ := r.sto.at h
  have s : Stp ρ H ρ (upd H a o) := Stp.write (List.mem_of_getElem? h)
  exact ⟨s, r.ofS s (r.sto.write h rc)⟩
/-- o[i] = .., o a list that changes -/
def gSetL (o i u : U) (en : Nv) (st : Sto) : RS := match o, i with
  | .ref n, .d (.int k) => (match st[n]? with
    | some (.lst l) => (match ixN l.length k with
      | some j => .nx en (st.set n (.lst (l.set j u)))
      | none => .bad)
    | _ => .bad)
  | _, _ => .bad
def mGSub (fo fi : SemE) : SemG := fun u en st => (fo en st).toS en fun o st => (fi en st).toS en fun i st => gSetL o i u en st
theorem sg_sub {o i : Expr} {fo fi : SemE} {pos : Pos} (ho : SE X oS G W o fo) (hi : SE X oS G W i fi)
    (ha : ∀ v, assign (.Subscript o i pos) X.env v = (do
      let ov ← holding [v] (eval o X.env)
      let iv ← holding [v, ov] (eval i X.env)
      standAt pos
      holding [v, ov, iv] (setItem ov iv v)
      release [v, ov, iv] []) := by intro _; rfl) : SG X oS G W (.Subscript o i pos) (mGSub fo fi) := by
  refine PG.imp (pg_sub ho hi set_list ha) fun v σ H Q ⟨B, ρ, en, st, u, R, ru, h⟩ => ?_
  refine ⟨B, ρ, en, st, R, postE_of R h fun o st1 ρ1 H1 s1 R1 h1 x rx => ?_⟩
  refine ⟨B, ρ1, en, st1, R1, postE_of R1 h1 fun i st2 ρ2 H2 s2 R2 h2 y ry => ?_⟩
  have ru2 := (ru.stp s1).stp s2
  have rx2 := rx.stp s2
  unfold gSetL at h2
  split at h2
  · rename_i n k
    split at h2
    · rename_i l hl
      split at h2
      · rename_i j hj
        cases rx2 with
        | ref hn =>
          cases ry with
          | d ry =>
            cases ry
            obtain ⟨c, o, q1, q2, q3⟩ := R2.sto.at hn
            rw [hl] at q1
            cases q1
            cases q3 with
            | lst z r =>
              refine ⟨_, _, k, j, rfl, rfl, q2, by rw [← r.length]; exact hj, ?_⟩
              obtain ⟨s3, R3⟩ := R2.write hn (c := .lst (l.set j u)) (.lst (by rw [List.length_set]; exact z) (r.set ru2 j))
              exact h2 _ _ σ s3 R3
      · exact h2.elim
    · exact h2.elim
  · exact h2.elim
/-- target = value -/
def mAsg (f : SemE) (g : SemG) : SemS := fun en st => (f en st).toS en fun u st => g u en st
theorem PostS.nxOnly {B ρ : List Addr} {H : Hp} {r : RS} {Q : L2.St → Hp → Prop} (h : PostS oS G W B ρ H ⟨Q, fun _ _ => True, fun _ _ => True, fun _ _ => True⟩ r) (hr : match r with | .nx _ _ => True | .exn _ _ _ _ => True | _ => False) : PostS oS G W B ρ H ⟨Q, fun _ _ => False, fun _ _ => False, fun _ _ => False⟩ r := by
  cases r with
  | nx e s => exact h
  | exn c u e s => exact h
  | _ => exact hr.elim
/-- only going on, or an error -/
def onlyNx : RS → RS
  | .nx e s => .nx e s
  | .exn c u e s => .exn c u e s
  | _ => .bad
theorem PostS.only {B ρ : List Addr} {H : Hp} {r : RS} {Dn : Ends} (h : PostS oS G W B ρ H Dn (onlyNx r)) : PostS oS G W B ρ H ⟨Dn.nx, fun _ _ => False, fun _ _ => False, fun _ _ => False⟩ r := by
  cases r with
  | nx e s => exact h
  | exn c u e s => exact h
  | rt u s => exact h.elim
  | bk e s => exact h.elim
  | ct e s => exact h.elim
  | bad => exact h.elim
def mAsgT (f : SemE) (g : SemG) : SemS := fun en st => (f en st).toS en fun u st => onlyNx (g u en st)
theorem ss_asg {tg e : Expr} {f : SemE} {g : SemG} {pos : Pos} (he : SE X oS G W e f) (hg : SG X oS G W tg g) (hs : swapsWithSole [tg] e pos.line X.env = pure false := by rfl) (hw : swappedStores [tg] e X.env = pure none := by rfl)
    (h1 : (assignEach [tg] X.env).map (·.2) = [assign tg X.env] := by rfl) : SS X oS G W (.Assign [tg] e pos) (mAsgT f g) := by
  refine PS.imp (ps_asg he hg hs hw h1) fun Dn σ H ⟨B, ρ, en, st, R, h⟩ => ?_
  exact ⟨B, ρ, en, st, R, postE_of R h fun u st1 ρ1 H1 s1 R1 h1 v rv => ⟨B, ρ1, en, st1, u, R1, rv, h1.only⟩⟩
/-- name = value -/
theorem ss_set {i : Nat} {x : Str} {e : Expr} {f : SemE} {pos pos' : Pos} (hN : X.N.Nodup) (hi : X.N[i]? = some x) (hx : Loc X.env.scope x) (he : SE X oS G W e f) (hc : NoCell oS i) (hs : swapsWith e (some (.Name x pos')) pos.line X.env = pure false := by rfl) (hf : X.fn x = true ∨ X.env.scope.names.lookup x = some .local := by first | exact .inl rfl | exact .inr rfl | assumption) : SS X oS G W (.Assign [.Name x pos'] e pos) (mAsgT f (mG i)) := by
  refine PS.imp (ps_set hN hi hx he hs hf) fun Dn σ H ⟨B, ρ, en, st, R, h⟩ => ?_
  exact ⟨B, ρ, en, st, R, postE_of R h fun u st1 ρ1 H1 s1 R1 h1 v rv => h1 ρ1 H1 _ (Stp.refl _ _) (R1.setL rv hc)⟩
theorem ss_setC {i : Nat} {x : Str} {e : Expr} {f : SemE} {pos pos' : Pos} (hN : X.N.Nodup) (hi : X.N[i]? = some x) (hx : Loc X.env.scope x) (he : SE X oS G W e f) (hs : swapsWith e (some (.Name x pos')) pos.line X.env = pure false := by rfl) (hf : X.fn x = true ∨ X.env.scope.names.lookup x = some .local := by first | exact .inl rfl | exact .inr rfl | assumption) : SS X oS G W (.Assign [.Name x pos'] e pos) (mAsgT f (mGC i)) := by
  refine PS.imp (ps_set hN hi hx he hs hf) fun Dn σ H ⟨B, ρ, en, st, R, h⟩ => ?_
  refine ⟨B, ρ, en, st, R, postE_of R h fun u st1 ρ1 H1 s1 R1 h1 v rv => ?_⟩
  unfold mGC at h1
  split at h1
  · rename_i e
    exact h1 ρ1 H1 _ (Stp.refl _ _) (R1.setC rv e.1 e.2.1 e.2.2)
  · exact h1.elim
/-! ## loops -/
/-- what an iterator J yields: the items in turn, while chk holds of the store -/
def ItOk (G : Gd) (B ρ0 : List Addr) (H0 : Hp) (J : It) (items : List U) (chk : Sto → Bool) : Prop :=
  ∀ (oS : OwnS) (Bx : List Addr), (∀ b ∈ Bx, H0 b = none) → ∀ ρ H en st σ, StpB B ρ0 H0 ρ H → Rel oS G (Bx ++ B) ρ en st σ H → chk st = true → ∀ i,
    (i < items.length → J.go i H ∧ ∀ x H', J.yld i H x H' → ∃ u, items[i]? = some u ∧ Stp ρ H ρ H' ∧ Rel oS G (Bx ++ B) ρ en st σ H' ∧ RepU G (vis (Bx ++ B) ρ H') ρ (oS σ) u x) ∧ (items.length ≤ i → J.stop i H)
abbrev SemI := Nv → Sto → Res (List U × (Sto → Bool))
def rdI (oS : OwnS) (G : Gd) (W : WX) (f : SemI) : TI := fun σ H R => ∃ B ρ en st, Rel oS G B ρ en st σ H ∧ PostE oS G W B ρ en σ H (fun it ρ' H' _ => ∀ J, ItOk G B ρ' H' J it.1 it.2 → it.1.length ≤ sizeLine → R J H') (f en st)
def SI (X : Cx) (oS : OwnS) (G : Gd) (W : WX) (tg iter : Expr) (f : SemI) : Prop := PI X tg iter (rdI oS G W f)
theorem PI.imp {tg iter : Expr} {t t' : TI} (h : PI X tg iter t) (i : ∀ σ H R, t' σ H R → t σ H R) : PI X tg iter t' := ⟨fun pins s σ H R I w => h.run pins s σ H R I (i σ H R w)⟩
def forL (g : SemG) (body : SemS) (chk : Sto → Bool) : List U → SemS
  | [], en, st => if chk st = true then .nx en st else .bad
  | u :: r, en, st => if chk st = true then (onlyNx (g u en st)).then fun en st => match body en st with
    | .nx en st => forL g body chk r en st
    | .ct en st => forL g body chk r en st
    | .bk en st => .nx en st
    | z => z
    else .bad
def mFor (fi : SemI) (g : SemG) (body : SemS) : SemS := fun en st => (fi en st).toS en fun it st => forL g body it.2 it.1 en st
theorem ss_for {tg iter : Expr} {body : List Stmt} {fi : SemI} {g : SemG} {fb : SemS} {pos : Pos} (hp : PassesOwn (model X.prog X.w) X.A X.env X.xe) (hc : X.calm = true) (hi : SI X oS G W tg iter fi) (hg : SG X oS G W tg g) (hb : SL X oS G W body fb)
    (hs : ∀ x, foldedSetIterable iter X.env x = pure x := by intro _; rfl) : SS X oS G W (.For tg iter body [] pos) (mFor fi g fb) := by
  refine PS.imp (ps_for hp hc hi hg hb hs) fun Dn σ H ⟨B, ρ, en, st, R, h⟩ => ?_
  refine ⟨B, ρ, en, st, R, postE_of R h fun it st1 ρ1 H1 s1 R1 h1 J ok _ => ?_⟩
  refine ⟨fun i m σ H => m = it.1.length - i ∧ i ≤ it.1.length ∧ ∃ ρ en st, Stp ρ1 H1 ρ H ∧ Rel oS G B ρ en st σ H ∧ PostS oS G W B ρ H Dn (forL g fb it.2 (it.1.drop i) en st), ⟨it.1.length, by simp, Nat.zero_le _, ρ1, en, st1, Stp.refl _ _, R1, by simpa using h1⟩, ?_⟩
  rintro i m σ H ⟨rfl, hi, ρ, en, st, s, R, h⟩
  by_cases hl : i < it.1.length
  · rw [List.drop_eq_getElem_cons hl, forL] at h
    split at h
    · rename_i hk
      obtain ⟨go, yl⟩ := (ok oS [] (fun b hb => by cases hb) ρ H en st σ s.toB R hk i).1 hl
      refine .inr ⟨go, fun σ' H' => ∃ ρ' en' st', Stp ρ H ρ' H' ∧ Rel oS G B ρ' en' st' σ' H' ∧ PostS oS G W B ρ' H' Dn (forL g fb it.2 (it.1.drop (i + 1)) en' st'), fun σ' H' ⟨ρ', en', st', s', R', h'⟩ => ⟨_, by omega, rfl, hl, ρ', en', st', s.trans s', R', h'⟩, fun x H' y => ?_⟩
      obtain ⟨u, hu, sy, Ry, ru⟩ := yl x H' y
      rw [List.getElem?_eq_getElem hl] at hu
      cases hu
      refine ⟨B, ρ, en, st, _, Ry, ru, ?_⟩
      refine PostS.only (Dn := ⟨fun σ2 H2 => rdS oS G W fb _ σ2 H2, fun _ _ => False, fun _ _ => False, fun _ _ => False⟩) ?_
      cases q : onlyNx (g it.1[i] en st) with
      | nx e2 s2 =>
        rw [q] at h
        intro ρ2 H2 σ2 st2 R2
        refine ⟨B, ρ2, e2, s2, R2, ?_⟩
        have h := PostS.step (sy.trans st2) h
        simp only [RS.then] at h
        cases q3 : fb e2 s2 with
        | nx e3 s3 => rw [q3] at h; exact fun ρ3 H3 σ3 t3 R3 => ⟨ρ3, e3, s3, (sy.trans st2).trans t3, R3, PostS.step t3 h⟩
        | ct e3 s3 => rw [q3] at h; exact fun ρ3 H3 σ3 t3 R3 => ⟨ρ3, e3, s3, (sy.trans st2).trans t3, R3, PostS.step t3 h⟩
        | bk e3 s3 => rw [q3] at h; exact fun ρ3 H3 σ3 t3 R3 => h ρ3 H3 σ3 t3 R3
        | rt u3 s3 => rw [q3] at h; exact h
        | exn c3 u3 e3 s3 => rw [q3] at h; exact h
        | bad => rw [q3] at h; exact h
      | exn c2 u2 e2 s2 => rw [q] at h; exact PostS.step sy h
      | rt u2 s2 => rw [q] at h; cases q4 : g it.1[i] en st <;> rw [q4] at q <;> cases q
      | bk e2 s2 => rw [q] at h; cases q4 : g it.1[i] en st <;> rw [q4] at q <;> cases q
      | ct e2 s2 => rw [q] at h; cases q4 : g it.1[i] en st <;> rw [q4] at q <;> cases q
      | bad => rw [q] at h; exact h
    · exact h.elim
  · have e : i = it.1.length := by omega
    subst e
    rw [List.drop_length, forL] at h
    split at h
    · rename_i hk
      exact .inl ⟨(ok oS [] (fun b hb => by cases hb) ρ H en st σ s.toB R hk _).2 (Nat.le_refl _), h ρ H σ (Stp.refl _ _) R⟩
    · exact h.elim
def whileL (t : SemT) (body : SemS) : Nat → SemS
  | 0, _, _ => .bad
  | n + 1, en, st => (t en st).toS en fun c st => if c = true then (match body en st with
    | .nx en st => whileL t body n en st
    | .ct en st => whileL t body n en st
    | .bk en st => .nx en st
    | z => z) else .nx en st
theorem ss_while {c : Expr} {body : List Stmt} {t : SemT} {fb : SemS} {pos : Pos} (fuel : Nat) (hp : PassesOwn (model X.prog X.w) X.A X.env X.xe) (hc : ST X oS G W c t) (hb : SL X oS G W body fb) : SS X oS G W (.While c body [] pos) (whileL t fb fuel) := by
  refine PS.imp (ps_while hp hc hb) fun Dn σ H ⟨B, ρ, en, st, R, h⟩ => ?_
  refine ⟨fun m σ H => ∃ ρ en st, Rel oS G B ρ en st σ H ∧ PostS oS G W B ρ H Dn (whileL t fb m en st), ⟨fuel, ρ, en, st, R, h⟩, ?_⟩
  rintro m σ H ⟨ρ, en, st, R, h⟩
  cases m with
  | zero => exact h.elim
  | succ m =>
    rw [whileL] at h
    refine ⟨B, ρ, en, st, R, postE_of R h fun c st1 ρ1 H1 s1 R1 h1 => ?_⟩
    by_cases hc : c = true
    · rw [if_pos hc] at h1 ⊢
      refine ⟨fun σ' H' => ∃ ρ' en' st', Rel oS G B ρ' en' st' σ' H' ∧ PostS oS G W B ρ' H' Dn (whileL t fb m en' st'), fun σ' H' q => ⟨m, Nat.lt_succ_self m, q⟩, B, ρ1, en, st1, R1, ?_⟩
      cases q3 : fb en st1 with
      | nx e3 s3 => rw [q3] at h1; exact fun ρ3 H3 σ3 t3 R3 => ⟨ρ3, e3, s3, R3, PostS.step t3 h1⟩
      | ct e3 s3 => rw [q3] at h1; exact fun ρ3 H3 σ3 t3 R3 => ⟨ρ3, e3, s3, R3, PostS.step t3 h1⟩
      | bk e3 s3 => rw [q3] at h1; exact fun ρ3 H3 σ3 t3 R3 => h1 ρ3 H3 σ3 t3 R3
      | rt u3 s3 => rw [q3] at h1; exact h1
      | exn c3 u3 e3 s3 => rw [q3] at h1; exact h1
      | bad => rw [q3] at h1; exact h1
    · rw [if_neg hc] at h1 ⊢
      exact h1 ρ1 H1 σ (Stp.refl _ _) R1
end
end TT
set_option Elab.async false
set_option linter.all false
set_option maxRecDepth 100000
set_option maxHeartbeats 2000000
/-! enumerate over a tuple: the steps of a walk -/
namespace TT
open PySem PySem.Spec PyProof.Rows L2
section
variable {prog : Program} {w : World} {A : Around} {E : Value → Shared → Prop} {s : Shared}
theorem nextOf_tuple_item {it t : Addr} {i : Nat} {items} {x : Value} {Q : Value → Shared → Prop} (hit : s.heap.IsTupleIter it t i)
    (ht : s.heap.IsTuple t items) (hx : items[i]? = some x)
    (hQ : ∀ h', h'.IsTupleIter it t (i + 1) → Heap.SameBut it s.heap h' → Q x { s with heap := h' }) :
    wpAny (model prog w) A (Builtin.SmallTypes.nextOf (.ref it)) Q E s := by
  obtain ⟨o, ho, hc, hd⟩ := id hit
  obtain ⟨ol, hol, _, nl, hdl⟩ := ht
  unfold Builtin.SmallTypes.nextOf
  refine wpAny_bind (wpAny_callSpecial?_slot (name := Str.ofString "__next__") hit.typeIs F.slot_tuple_iterator_next
    (wpAny_call_entry F.slot_tuple_iterator_next hit.typeIs F.entry_tuple_iterator_next ?_ (F.args_tuple_iterator_next_1 _)))
  show wpAny _ _ (field (.ref it) 0 >>= _) _ _ s
  refine wpAny_bind (wpAny_field ho hd (x := .ref t) rfl ?_)
  show wpAny _ _ (if (Value.ref t == Value.none) = true then _ else _) _ _ s
  rw [if_neg (show ¬ ((Value.ref t == Value.none) = true) from Bool.false_ne_true)]
  show wpAny _ _ (field (.ref it) 1 >>= _) _ _ s
  refine wpAny_bind (wpAny_field ho hd (x := .int i 0) rfl ?_)
  show wpAny _ _ (seqItems? (.ref t) >>= _) _ _ s
  refine wpAny_bind (wpAny_seqItems hol hdl ?_)
  simp only [Int.toNat_natCast, hx]
  refine wpAny_bind (wpAny_setField ho hd (by simp) (wpAny_pure ⟨x, rfl, wpAny_pure (hQ _ ?_ (Heap.SameBut.update ..))⟩))
  exact ⟨_, Heap.get?_update_self _ ho (Obj.isFreed_of_fields (Obj.data_mapFields hd _)), (Obj.cls_mapFields ..).trans hc, by
    rw [Obj.data_mapFields hd]; simp [rawInt]⟩
theorem nextOf_tuple_end {it t : Addr} {i : Nat} {items} {Q : Value → Shared → Prop} (hh : A.handled = none)
    (hit : s.heap.IsTupleIter it t i) (ht : s.heap.IsTuple t items) (hx : items[i]? = none)
    (hE : ∀ h' e, Heap.ExtBut it s.heap h' → (∃ o, h'.get? e = some o ∧ o.cls = .type "StopIteration") → E (.ref e) { s with heap := h' }) :
    wpAny (model prog w) A (Builtin.SmallTypes.nextOf (.ref it)) Q E s := by
  obtain ⟨o, ho, hc, hd⟩ := id hit
  obtain ⟨ol, hol, _, nl, hdl⟩ := ht
  unfold Builtin.SmallTypes.nextOf
  refine wpAny_bind (wpAny_callSpecial?_slot (name := Str.ofString "__next__") hit.typeIs F.slot_tuple_iterator_next
    (wpAny_call_entry F.slot_tuple_iterator_next hit.typeIs F.entry_tuple_iterator_next ?_ (F.args_tuple_iterator_next_1 _)))
  show wpAny _ _ (field (.ref it) 0 >>= _) _ _ s
  refine wpAny_bind (wpAny_field ho hd (x := .ref t) rfl ?_)
  show wpAny _ _ (if (Value.ref t == Value.none) = true then _ else _) _ _ s
  rw [if_neg (show ¬ ((Value.ref t == Value.none) = true) from Bool.false_ne_true)]
  show wpAny _ _ (field (.ref it) 1 >>= _) _ _ s
  refine wpAny_bind (wpAny_field ho hd (x := .int i 0) rfl ?_)
  show wpAny _ _ (seqItems? (.ref t) >>= _) _ _ s
  refine wpAny_bind (wpAny_seqItems hol hdl ?_)
  simp only [Int.toNat_natCast, hx]
  refine wpAny_bind (wpAny_rule (wpAny_bind (wpAny_setField ho hd (by simp) ?_)))
  show wpAny _ _ (newExc (.type "StopIteration") [] >>= _) _ _ _
  refine wpAny_bind ?_
  simp only [newExc, newTuple]
  refine wpAny_bind (wpAny_newObj_type ?_ (by size_fits))
  refine wpAny_bind (m := firstArgMember _ _) (wpAny_of_eq (a := Value.none) (by first | rfl | (simp only [firstArgMember]; rfl)) ?_)
  refine wpAny_newObj_type ?_ (by size_fits)
  simp only [raiseNew]
  refine wpAny_bind (wpAny_handled ?_)
  first | rw [show A.in1.handled = none from hh] | rw [hh]
  refine wpAny_bind (wpAny_pure (wpAny_throw ?_))
  exact hE _ _ (((Heap.SameBut.update ..).extBut.push _).push _) ⟨_, Heap.get?_push_size _ rfl, rfl⟩
theorem drawsTuple (hh : A.handled = none) (it l : Addr) (hne : l ≠ it) (items : Array Value) :
    Draws prog w A it [it, l] items.size (fun i v => items[i]? = some v) (fun i h => h.IsTupleIter it l i ∧ h.IsTuple l items) where
  live := fun _ _ st => let ⟨o, ho, _⟩ := st.1; ⟨o, ho⟩
  frame := fun _ _ _ st hk => ⟨st.1.at fun o e => hk it (by simp) o e, let ⟨o, ho, r⟩ := st.2; ⟨o, hk l (by simp) o ho, r⟩⟩
  item := fun i s Q E hi st hQ => by
    refine nextOf_tuple_item st.1 st.2 (x := items[i]) (by simp [hi]) fun h' hit' hs' => ?_
    exact hQ _ h' s.toks (by simp [hi]) ⟨hit', let ⟨o, ho, r⟩ := st.2; ⟨o, hs'.extBut l o hne ho, r⟩⟩ hs'
  done := fun s Q E st hE => nextOf_tuple_end hh st.1 st.2 (by simp) hE
set_option maxHeartbeats 4000000 in
theorem meets_enumerate_newT (l : Addr) (items : Array Value) (n : Nat) (dd : Option Addr) (sl : Array (Option Value)) :
    Meets (Builtin.«enumerate.__new__» ⟨[.type "enumerate", .ref l], []⟩) (fun _ R s => s.heap.get? l = some { cls := .type "tuple", dict := dd, data := .seq items n, slots := sl } ∧
      R (.ok (.ret (.ref (s.heap.push { cls := .type "tuple_iterator", data := .fields #[.ref l, .int 0 0] }).objs.size)))
        { s with heap := (s.heap.push { cls := .type "tuple_iterator", data := .fields #[.ref l, .int 0 0] }).push { cls := .type "enumerate", data := .fields #[.none, .bool false, .ref s.heap.objs.size, rawInt 0, .none, .none] } }) :=
  .of_wp fun prog w A R s h => by
    obtain ⟨hp, g, d, tk, os⟩ := s; obtain ⟨hl, h⟩ := h
    have hsub := sub_enumerate
    have hL : Heap.IsTuple (Shared.heap ⟨hp, g, d, tk, os⟩) l items := ⟨_, hl, rfl, n, rfl⟩
    wp_walk using wpAny_loadPart' hl
    refine wpAny_stack_any fun st => wpAny_pure ?_
    split
    · rename_i c _ _ _ _ _
      cases (c == Value.type "enumerate")
      · wp_walk using wpAny_loadPart' hl, wpAny_pyIter_tuple hL
        exact ⟨_, rfl, h⟩
      · wp_walk using wpAny_loadPart' hl, wpAny_pyIter_tuple hL
        exact ⟨_, rfl, h⟩
    · wp_walk using wpAny_loadPart' hl, wpAny_pyIter_tuple hL
      exact ⟨_, rfl, h⟩
theorem call_enumerate_tuple {l : Addr} {items : Array Value} {Q : Value → Shared → Prop} (hL : s.heap.IsTuple l items)
    (h : ∀ h', IsEnum h' (s.heap.objs.size + 1) s.heap.objs.size 0 .none → h'.IsTupleIter s.heap.objs.size l 0 → h'.objs.size = s.heap.objs.size + 2 →
      (∀ b o, s.heap.get? b = some o → h'.get? b = some o) → Q (.ref (s.heap.objs.size + 1)) { s with heap := h' }) :
    wpAny (model prog w) A (call (.type "enumerate") [.ref l]) Q E s := by
  obtain ⟨⟨c, dct, dt, sl⟩, hl, hc, n, hd⟩ := hL
  replace hc : c = .type "tuple" := hc
  replace hd : dt = .seq items n := hd
  subst hc hd
  refine callType_new F.called_enumerate (by decide) (F.typeCall_enumerate_1 _) (F.newCall_enumerate_1 _) (fun obj => F.args_object_init_2 obj _) F.entry_enumerate_new
    (meets_enumerate_newT l items n dct sl) ⟨hl, ?_⟩
  have hz : (s.heap.push { cls := .type "tuple_iterator", data := .fields #[.ref l, .int 0 0] }).objs.size = s.heap.objs.size + 1 := Heap.size_push ..
  show _ ∧ _
  rw [hz]
  have he : IsEnum ((s.heap.push { cls := .type "tuple_iterator", data := .fields #[.ref l, .int 0 0] }).push
      { cls := .type "enumerate", data := .fields #[.none, .bool false, .ref s.heap.objs.size, rawInt 0, .none, .none] }) (s.heap.objs.size + 1) s.heap.objs.size 0 .none := by
    have := Heap.get?_push_size (s.heap.push { cls := .type "tuple_iterator", data := .fields #[.ref l, .int 0 0] })
      (o := { cls := .type "enumerate", data := .fields #[.none, .bool false, .ref s.heap.objs.size, rawInt 0, .none, .none] }) rfl
    rw [hz] at this; exact this
  refine ⟨⟨_, he, rfl⟩, h _ he ⟨_, Heap.get?_push_of_some _ (Heap.get?_push_size _ rfl), rfl, rfl⟩ (by rw [Heap.size_push, hz]) fun b o x => Heap.get?_push_of_some _ (Heap.get?_push_of_some _ x)⟩
end
/-- the tuple at a, each item in a new pair -/
def IteT (K : PySem.W.Frag) (a : Addr) : It :=
  ⟨fun i H => ∃ (xs : List V) (x : V), SqT K H a xs ∧ xs[i]? = some x, fun i H v H' => ∃ T x, v = .ref T ∧ H T = none ∧ H' = upd H T (.tup [.int (i : Nat), x]) ∧ ∀ xs, SqT K H a xs → xs[i]? = some x, fun i H => ∃ xs : List V, SqT K H a xs ∧ xs.length ≤ i⟩
theorem turn_enumT {P : Program} {w : World} {K : PySem.W.Frag} {elts : List Expr} {kk : Nat} {tpos : Pos} (a e it : Addr) :
    Turn P w K (.Tuple elts kk tpos) (IteT K a) [e, it] e (fun i h => (∃ old, IsEnum h e it ((i : Nat) : Int) old) ∧ h.IsTupleIter it a i ∧ e ≠ it ∧ a ≠ it ∧ e ≠ a) where
  mem := by simp
  obj := fun i h st b hb => by
    obtain ⟨⟨old, he⟩, ⟨o, ho, hc, hd⟩, _⟩ := st
    have e' : b = e ∨ b = it := by simpa using hb
    rcases e' with z | z
    · rw [z]; exact ⟨_, he, fun v q => nomatch q⟩
    · rw [z]; exact ⟨o, ho, fun v q => by rw [hd] at q; cases q⟩
  keep := fun i h h' st k => let ⟨⟨old, he⟩, hi, hne⟩ := st; ⟨⟨old, k e (by simp) _ he⟩, hi.at fun o q => k it (by simp) o q, hne⟩
  item := by
    intro X hP hw hK hc i pins s σ H E I hf st hg
    subst hP hw hK
    obtain ⟨⟨old, he⟩, hit, hne, hai, hea⟩ := st
    obtain ⟨xs, x, hq, hx⟩ := hg
    obtain ⟨its, rv, p, hz⟩ := I.tuple hq
    obtain ⟨u, hu, ru⟩ := rv.get hx
    have hel : e < s.heap.objs.size := Heap.lt_size he
    have hil : it < s.heap.objs.size := by obtain ⟨_, q, _⟩ := hit; exact Heap.lt_size q
    have hlt : i < its.toArray.size := by
      have := (List.getElem?_eq_some_iff.mp hu).1
      simpa using this
    have Dr := drawsTuple (prog := X.prog) (w := X.w) (A := X.A.in1) (show X.A.in1.handled = none from I.ok.hd hc) it a hai its.toArray
    refine wpAny_pyNext_enum_itemD Dr he ⟨hit, p⟩ hlt hne (by simp [hne, hea]) fun y h' tk hy ho hst' hT hsz hk => ?_
    have ey : y = u := by
      have z : its[i]? = some y := by simpa using hy
      rw [hu] at z
      exact (Option.some.inj z).symm
    subst ey
    refine ⟨_, rfl, wpAny_letOwnedTupleGo_enum (s := { s with heap := h', toks := tk + 1 }) ho fun h'' he' sb => ?_⟩
    have hT2 : h''.get? s.heap.objs.size = some { cls := .type "tuple", data := .seq #[.int i tk, y] } := (sb.2 _ (Nat.ne_of_gt hel)).trans hT
    have new : ObjOk X.prog X.w (upd H s.heap.objs.size (.tup [.int (i : Nat), x])) h'' s.heap.objs.size (.tup [.int (i : Nat), x]) :=
      ⟨by show 2 ≤ sizeLine; decide, [.int i tk, y], .cons ⟨_, rfl⟩ (.cons ru .nil), ⟨_, hT2, rfl, _, rfl⟩⟩
    have I1 : Inv X pins σ (upd H s.heap.objs.size (.tup [.int (i : Nat), x])) { s with heap := h'', toks := tk + 1 } :=
      I.turnedNew (ch := [e, it]) (fun b ob hb q => (sb.2 b (fun z => hb (by simp [z]))).trans (hk b ob (fun z => hb (by simp [z])) (fun z => hb (by simp [z])) q)) hf (Nat.le_refl _) new
    refine ⟨.ref s.heap.objs.size, _, I1, rfl, ⟨_, x, rfl, I.hok.fresh (Nat.le_refl _), rfl, fun ys hy => by rw [I.tuple_inj hy hq]; exact hx⟩, ⟨⟨y, ?_⟩, hst'.1.at fun o q => (sb.2 it (Ne.symm hne)).trans q, hne, hai, hea⟩, fun b hb => ?_⟩
    · have e1 : ((i + 1 : Nat) : Int) = (i : Int) + 1 := by omega
      rw [e1]; exact he'
    · have hb' : b < s.heap.objs.size := by
        have e' : b = e ∨ b = it := by simpa using hb
        rcases e' with z | z
        · rw [z]; exact hel
        · rw [z]; exact hil
      rw [upd_ne (Nat.ne_of_lt hb')]
      exact (hf b hb).1
  done := by
    intro X hP hw hK hc i pins s σ H E I hf st hg
    subst hP hw hK
    obtain ⟨⟨old, he⟩, hit, hne, hai, hea⟩ := st
    obtain ⟨xs, hq, hx⟩ := hg
    obtain ⟨its, rv, p, hz⟩ := I.tuple hq
    obtain ⟨f0, f1, f2, f3, f4, f5⟩ := hf it (by simp)
    have hl := rv.length
    -- the walk's place may lie at the end alone
    have hT : s.TypeIs (.ref e) "enumerate" := ⟨_, he, rfl⟩
    unfold pyNext
    refine wpAny_bind (wpAny_attempt (wpAny_callSpecial?_slot (name := Str.ofString "__next__") hT F.slot_enumerate_next
      (wpAny_call_entry F.slot_enumerate_next hT F.entry_enumerate_next ?_ (F.args_enumerate_next_1 _))))
    show wpAny _ _ (field (.ref e) 2 >>= _) _ _ _
    refine wpAny_bind (wpAny_field he rfl (x := .ref it) rfl ?_)
    refine wpAny_bind (nextOf_tuple_end (show X.A.in1.handled = none from I.ok.hd hc) hit p (by simp; omega) fun h' x eb hx' => ?_)
    obtain ⟨o, ho, hc'⟩ := hx'
    refine wpAny_bind (wpAny_isInstance (T := "StopIteration") (b := true) ⟨o, ho, hc'⟩ isSubtype_stop ?_)
    exact wpAny_pure ⟨rfl, I.turned (t' := s.toks) (fun b o hb q => eb b o hb q) f0 f1 f3 f4 f5⟩
  self := fun A i s Q E st h => let ⟨⟨_, he⟩, _⟩ := st; wpAny_pyIter_enum he h
end TT
set_option Elab.async false
set_option linter.all false
set_option maxRecDepth 100000
set_option maxHeartbeats 2000000
namespace TT
open PySem PySem.Spec PyProof.Rows L2
section
variable {X : Cx} {oS : OwnS} {G : Gd} {W : WX} {tg : Expr}
/-- a list or a tuple, whichever it is -/
def iSeq (K : PySem.W.Frag) (tl : TE) : TI := fun σ H R => tl σ H fun x H1 => (∃ z, x = .str z ∧ R (Its z) H1) ∨ ∃ a, x = .ref a ∧ (((∃ xs, SqL K H1 a xs) ∧ R (Itl K a) H1) ∨ ((∃ xs, SqT K H1 a xs) ∧ R (Itt K a) H1))
theorem pi_seq {l : Expr} {tl : TE} (hl : PE X l tl) : PI X tg l (iSeq X.K tl) := by
  refine ⟨fun pins s σ H R I h => ?_⟩
  refine thn (hl.run pins s σ H _ I h) fun v s1 ⟨x, H1, I1, r1, q1⟩ => ?_
  rcases q1 with ⟨z, e, q⟩ | q1
  · subst e
    obtain ⟨t, rfl⟩ := r1
    cases ha : z.cps.all (· < 128)
    · exact wpAny_pyIter_wide ha (pi_one (tk := s1.toks) I1 _ (turn_str _ z t "str_iterator" (.inr rfl)) ⟨_, Heap.get?_push_size _ rfl, rfl, rfl⟩ q)
    · exact wpAny_pyIter_ascii ha (pi_one (tk := s1.toks) I1 _ (turn_str _ z t "str_ascii_iterator" (.inl rfl)) ⟨_, Heap.get?_push_size _ rfl, rfl, rfl⟩ q)
  obtain ⟨a, e, ⟨⟨xs, hq⟩, q⟩ | ⟨⟨xs, hq⟩, q⟩⟩ := q1
  · subst e
    cases r1
    obtain ⟨its, rv, p, hz⟩ := I1.list hq
    refine wpAny_pyIter_list p.isList ?_
    refine ⟨s1.heap.objs.size, [s1.heap.objs.size], _, _, H1, rfl, I1.kept (t' := s1.toks) fun b o e => Heap.get?_push_of_some _ e, turn_list a _, ⟨_, Heap.get?_push_size _ rfl, rfl, rfl⟩, fun b hb => ?_, q⟩
    have e : b = s1.heap.objs.size := by simpa using hb
    subst e
    exact I1.fpOk (Nat.le_refl _) (I1.hok.fresh (Nat.le_refl _))
  · subst e
    cases r1
    obtain ⟨its, rv, p, hz⟩ := I1.tuple hq
    refine wpAny_pyIter_tuple (show s1.heap.IsTuple a its.toArray from p) ?_
    refine ⟨s1.heap.objs.size, [s1.heap.objs.size], _, _, H1, rfl, I1.kept (t' := s1.toks) fun b o e => Heap.get?_push_of_some _ e, turn_tuple a _, ⟨_, Heap.get?_push_size _ rfl, rfl, rfl⟩, fun b hb => ?_, q⟩
    have e : b = s1.heap.objs.size := by simpa using hb
    subst e
    exact I1.fpOk (Nat.le_refl _) (I1.hok.fresh (Nat.le_refl _))
/-- enumerate of one -/
def iEnumA (K : PySem.W.Frag) (ta : TA) : TI := fun σ H R => ta σ H fun vs H1 => ∃ a, vs = [.ref a] ∧ (((∃ xs, SqL K H1 a xs) ∧ R (Ite K a) H1) ∨ ((∃ xs, SqT K H1 a xs) ∧ R (IteT K a) H1))
theorem pi_enumA {e : Expr} {ta : TA} {p pos tpos : Pos} {elts : List Expr} {kk : Nat} (hg : Gl X "enumerate") (hm : X.mg "enumerate" = none) (ha : PA X [e] ta) (hs : starEach [e] X.env = [(false, eval e X.env)] := by rfl) :
    PI X (.Tuple elts kk tpos) (.Call (.Name "enumerate" p) [e] [] pos) (iEnumA X.K ta) := by
  refine ⟨fun pins s σ H R I h => ?_⟩
  refine Call_ (ld_blt I hg hm boot_enumerate (PyProof.Rows.callWith_type1 (thn (ha.run pos pins s σ H _ I h) fun us s1 ⟨vs, H1, I1, r1, q1⟩ => ?_) hs rfl))
  obtain ⟨a, ex, ⟨⟨xs, hq⟩, q⟩ | ⟨⟨xs, hq⟩, q⟩⟩ := q1
  · subst ex
    cases r1 with
    | cons r rr =>
      cases rr
      cases r
      obtain ⟨its, rv, p', hz⟩ := I1.list hq
      refine call_enumerate_list p'.isList fun h' he hit hsz hk => wpAny_pyIter_enum he ?_
      have I2 : Inv X pins σ H1 { s1 with heap := h' } := I1.kept (t' := s1.toks) hk
      refine ⟨s1.heap.objs.size + 1, [s1.heap.objs.size + 1, s1.heap.objs.size], _, _, H1, rfl, I2, turn_enum a (s1.heap.objs.size + 1) s1.heap.objs.size, ⟨⟨.none, he⟩, hit, Nat.succ_ne_self _⟩, fun b hb => ?_, q⟩
      have e' : b = s1.heap.objs.size + 1 ∨ b = s1.heap.objs.size := by simpa using hb
      have hle : s1.heap.objs.size ≤ b := by
        rcases e' with z | z
        · rw [z]; exact Nat.le_add_right _ _
        · rw [z]; exact Nat.le_refl _
      exact I1.fpOk hle (I1.hok.fresh hle)
  · subst ex
    cases r1 with
    | cons r rr =>
      cases rr
      cases r
      obtain ⟨its, rv, p', hz⟩ := I1.tuple hq
      have hlt : a < s1.heap.objs.size := by
        obtain ⟨o, ho, _⟩ := p'
        exact Heap.lt_size ho
      refine call_enumerate_tuple p' fun h' he hit hsz hk => wpAny_pyIter_enum he ?_
      have I2 : Inv X pins σ H1 { s1 with heap := h' } := I1.kept (t' := s1.toks) hk
      refine ⟨s1.heap.objs.size + 1, [s1.heap.objs.size + 1, s1.heap.objs.size], _, _, H1, rfl, I2, turn_enumT a (s1.heap.objs.size + 1) s1.heap.objs.size, ⟨⟨.none, he⟩, hit, Nat.succ_ne_self _, Nat.ne_of_lt hlt, Nat.ne_of_gt (Nat.lt_succ_of_lt hlt)⟩, fun b hb => ?_, q⟩
      have e' : b = s1.heap.objs.size + 1 ∨ b = s1.heap.objs.size := by simpa using hb
      have hle : s1.heap.objs.size ≤ b := by
        rcases e' with z | z
        · rw [z]; exact Nat.le_add_right _ _
        · rw [z]; exact Nat.le_refl _
      exact I1.fpOk hle (I1.hok.fresh hle)

/-! ## what is walked -/
/-- a row that stays -/
def stayOf : U → Option (List U)
  | .d (.tuple l) => some (l.map U.d)
  | .d (.list l) => some (l.map U.d)
  | .tup l => if hasOwnL l = false then some l else none
  | _ => none
abbrev yes : Sto → Bool := fun _ => true
/-- a text's signs -/
def signsU (z : Str) : List U := z.cps.toList.map fun c => .d (.str ⟨#[c]⟩)
def iterOf : U → Option (List U)
  | .d (.str z) => if z.length ≤ sizeLine then some (signsU z) else none
  | u => stayOf u
def mSeqI (f : SemE) : SemI := fun en st => (f en st).bind fun u st => match iterOf u with
  | some l => .ok (l, yes) st
  | none => .bad
theorem ownL_map (l : List D) : hasOwnL (l.map U.d) = false := by
  induction l with
  | nil => simp [hasOwnL]
  | cons a l ih => simp [hasOwnL, hasOwn, ih]
theorem ownL_get : ∀ {l : List U} {i : Nat} {u : U}, hasOwnL l = false → l[i]? = some u → hasOwn u = false
  | [], _, _, _, h => by simp at h
  | a :: l, 0, u, o, h => by
    simp only [hasOwnL, Bool.or_eq_false_iff] at o
    simp at h
    subst h
    exact o.1
  | a :: l, i + 1, u, o, h => by
    simp only [hasOwnL, Bool.or_eq_false_iff] at o
    exact ownL_get o.2 (by simpa using h)
/-- a row stands in the part of the heap that stays -/
theorem stay_rep {B ρ : List Addr} {own : OwnV} {H : Hp} {u : U} {x : V} {l : List U} (ru : RepU G (vis B ρ H) ρ own u x) (h : stayOf u = some l) :
    hasOwnL l = false ∧ ∃ a vs, x = .ref a ∧ (Rd (vis B ρ H) a (.lst vs) ∨ SqT G.K (vis B ρ H) a vs) ∧ RepUs G (vis B ρ H) ρ own l vs ∧ vs.length ≤ sizeLine := by
  unfold stayOf at h
  split at h
  · cases h
    cases ru with
    | d r => cases r with
      | tuple s z r => exact ⟨ownL_map _, _, _, rfl, .inr s, RepUs.ofD r, z⟩
  · cases h
    cases ru with
    | d r => cases r with
      | list s z r => exact ⟨ownL_map _, _, _, rfl, .inl s, RepUs.ofD r, z⟩
  · split at h
    · rename_i ho
      cases h
      cases ru with
      | tup s z r => exact ⟨ho, _, _, rfl, .inr s, r, z⟩
    · cases h
  · cases h
theorem RepUs.getV {H : Hp} {ρ : List Addr} {own : OwnV} : ∀ {l : List U} {vs : List V} {i : Nat} {v : V}, RepUs G H ρ own l vs → vs[i]? = some v → ∃ u, l[i]? = some u ∧ RepU G H ρ own u v
  | _, _, _, _, .nil, e => by simp at e
  | _, _, 0, _, .cons a _, e => by simp at e; subst e; exact ⟨_, rfl, a⟩
  | _, _, i + 1, d, .cons _ b, e => by
    obtain ⟨v, h1, h2⟩ := RepUs.getV (i := i) (v := d) b (by simpa using e)
    exact ⟨v, by simpa using h1, h2⟩
theorem leX {B Bx ρ0 ρ : List Addr} {H0 H : Hp} (s : StpB B ρ0 H0 ρ H) (hb : ∀ b ∈ Bx, H0 b = none) : Le (vis B ρ0 H0) (vis (Bx ++ B) ρ H) := fun b o h t => by
  obtain ⟨h1, h2, h3⟩ := vis_some h
  obtain ⟨q1, q2, q3⟩ := vis_some (s.le b o h t)
  refine vis_of (fun z => ?_) q2 q3
  rcases List.mem_append.mp z with z | z
  · rw [hb b z] at h3
    cases h3
  · exact h1 z
theorem item_rep {B Bx ρ0 ρ : List Addr} {H0 H : Hp} {own own' : OwnV} {l : List U} {vs : List V} {i : Nat} {x : V} (s : StpB B ρ0 H0 ρ H) (hb : ∀ b ∈ Bx, H0 b = none) (r : RepUs G (vis B ρ0 H0) ρ0 own l vs) (ho : hasOwnL l = false) (hx : vs[i]? = some x) :
    ∃ u, l[i]? = some u ∧ RepU G (vis (Bx ++ B) ρ H) ρ own' u x := by
  obtain ⟨u, hu, ru⟩ := r.getV hx
  exact ⟨u, hu, (ru.noOwn (own' := own') (ownL_get ho hu)).le (leX s hb) s.pre fun _ _ z => z⟩
theorem itok_list {own0 : OwnV} {B ρ0 : List Addr} {H0 : Hp} {a : Addr} {l : List U} {vs : List V} (hq : Rd (vis B ρ0 H0) a (.lst vs)) (r : RepUs G (vis B ρ0 H0) ρ0 own0 l vs) (ho : hasOwnL l = false) : ItOk G B ρ0 H0 (Itl G.K a) l yes := by
  intro oS Bx hbx ρ H en st σ s R _ i
  have q : SqL G.K H a vs := .inl (Rd.le vis_le nt_lst (Rd.le s.le nt_lst hq))
  refine ⟨fun hi => ?_, fun hi => ⟨vs, q, by rw [← r.length]; exact hi⟩⟩
  obtain ⟨v, hv, _⟩ := r.get (List.getElem?_eq_getElem hi)
  refine ⟨⟨vs, v, q, hv⟩, fun x H' y => ?_⟩
  obtain ⟨rfl, y⟩ := y
  obtain ⟨u, hu, ru⟩ := item_rep (own' := oS σ) s hbx r ho (y vs q)
  exact ⟨u, hu, Stp.refl _ _, R, ru⟩
theorem itok_tup {own0 : OwnV} {B ρ0 : List Addr} {H0 : Hp} {a : Addr} {l : List U} {vs : List V} (hq : SqT G.K (vis B ρ0 H0) a vs) (r : RepUs G (vis B ρ0 H0) ρ0 own0 l vs) (ho : hasOwnL l = false) : ItOk G B ρ0 H0 (Itt G.K a) l yes := by
  intro oS Bx hbx ρ H en st σ s R _ i
  have q : SqT G.K H a vs := SqT.le vis_le (SqT.le s.le hq)
  refine ⟨fun hi => ?_, fun hi => ⟨vs, q, by rw [← r.length]; exact hi⟩⟩
  obtain ⟨v, hv, _⟩ := r.get (List.getElem?_eq_getElem hi)
  refine ⟨⟨vs, v, q, hv⟩, fun x H' y => ?_⟩
  obtain ⟨rfl, y⟩ := y
  obtain ⟨u, hu, ru⟩ := item_rep (own' := oS σ) s hbx r ho (y vs q)
  exact ⟨u, hu, Stp.refl _ _, R, ru⟩
theorem itok_str {B ρ0 : List Addr} {H0 : Hp} {z : Str} : ItOk G B ρ0 H0 (Its z) (signsU z) yes := by
  intro oS Bx hbx ρ H en st σ s R _ i
  have len : (signsU z).length = z.cps.size := by unfold signsU; simp
  refine ⟨fun hi => ⟨(by rw [len] at hi; exact hi : i < z.cps.size), fun x H' y => ?_⟩, fun hi => (by rw [len] at hi; exact hi : z.cps.size ≤ i)⟩
  obtain ⟨rfl, c, hc, rfl⟩ := y
  refine ⟨.d (.str ⟨#[c]⟩), ?_, Stp.refl _ _, R, .d (.str _)⟩
  unfold signsU
  rw [List.getElem?_map, Array.getElem?_toList, hc]
  rfl
theorem si_seq {e : Expr} {f : SemE} (hK : X.K = G.K) (he : SE X oS G W e f) : SI X oS G W tg e (mSeqI f) := by
  refine PI.imp (pi_seq he) fun σ H R ⟨B, ρ, en, st, RR, h⟩ => ?_
  refine ⟨B, ρ, en, st, RR, (PostE.bind h).mono fun u st1 ρ1 H1 _ s1 R1 h1 v rv => ?_⟩
  split at h1
  · rename_i l hl
    unfold iterOf at hl
    split at hl
    · split at hl
      · rename_i hz
        cases hl
        cases rv with
        | d rv =>
          cases rv
          exact .inl ⟨_, rfl, h1 ρ1 H1 (Stp.refl _ _) R1 _ itok_str (by unfold signsU; rw [List.length_map]; exact hz)⟩
      · cases hl
    · obtain ⟨ho, a, vs, rfl, sq, rs, hz⟩ := stay_rep rv hl
      rw [hK]
      refine .inr ⟨a, rfl, ?_⟩
      rcases sq with sq | sq
      · exact .inl ⟨⟨vs, .inl (Rd.le vis_le nt_lst sq)⟩, h1 ρ1 H1 (Stp.refl _ _) R1 _ (itok_list sq rs ho) (by rw [rs.length]; exact hz)⟩
      · exact .inr ⟨⟨vs, SqT.le vis_le sq⟩, h1 ρ1 H1 (Stp.refl _ _) R1 _ (itok_tup sq rs ho) (by rw [rs.length]; exact hz)⟩
  · exact h1.elim
/-! enumerate -/
def enumL (l : List U) : List U := l.zipIdx.map fun p => mkTup [.d (.int p.2), p.1]
theorem enumL_get {l : List U} {i : Nat} : (enumL l)[i]? = (l[i]?).map fun u => mkTup [.d (.int i), u] := by
  unfold enumL
  rw [List.getElem?_map, List.getElem?_zipIdx]
  cases l[i]? <;> simp
theorem enumL_length (l : List U) : (enumL l).length = l.length := by unfold enumL; simp
def mEnum (f : SemE) : SemI := fun en st => (f en st).bind fun u st => match stayOf u with
  | some l => .ok (enumL l, yes) st
  | none => .bad
theorem pair_rep {B ρ : List Addr} {en : Nv} {st : Sto} {σ : L2.St} {H : Hp} {T : Addr} {u w : U} {x y : V} (R : Rel oS G B ρ en st σ H) (hT : H T = none) (ru : RepU G (vis B ρ H) ρ (oS σ) u x) (rw' : RepU G (vis B ρ H) ρ (oS σ) w y) :
    Stp ρ H ρ (upd H T (.tup [x, y])) ∧ Rel oS G B ρ en st σ (upd H T (.tup [x, y])) ∧ RepU G (vis B ρ (upd H T (.tup [x, y]))) ρ (oS σ) (mkTup [u, w]) (.ref T) := by
  have f := R.sto.fresh hT
  exact ⟨Stp.laid hT, R.laid hT, mkTup_rep f.1 f.2 hT (by show 2 ≤ sizeLine; rw [sizeLine_eq]; decide) (.cons ru (.cons rw' .nil))⟩
theorem si_enum {e : Expr} {f : SemE} {p pos tpos : Pos} {elts : List Expr} {kk : Nat} (hK : X.K = G.K) (hg : Gl X "enumerate") (hm : X.mg "enumerate" = none) (he : SE X oS G W e f) (hs : starEach [e] X.env = [(false, eval e X.env)] := by rfl) :
    SI X oS G W (.Tuple elts kk tpos) (.Call (.Name "enumerate" p) [e] [] pos) (mEnum f) := by
  have ha : PA X [e] (tCons (rdE oS G W f) tNil) := pa_cons he pa_nil hs
  refine PI.imp (pi_enumA hg hm ha hs) fun σ H R ⟨B, ρ, en, st, RR, h⟩ => ?_
  refine ⟨B, ρ, en, st, RR, (PostE.bind h).mono fun u st1 ρ1 H1 _ s1 R1 h1 v rv => ?_⟩
  split at h1
  · rename_i l hl
    obtain ⟨ho, a, vs, rfl, sq, rs, hz⟩ := stay_rep rv hl
    rw [hK]
    refine ⟨a, rfl, ?_⟩
    rcases sq with sq | sq
    · refine .inl ⟨⟨vs, .inl (Rd.le vis_le nt_lst sq)⟩, h1 ρ1 H1 (Stp.refl _ _) R1 _ ?_ (by show (enumL l).length ≤ _; rw [enumL_length, rs.length]; exact hz)⟩
      intro oS Bx hbx ρ H en st σ s R _ i
      have q : SqL G.K H a vs := .inl (Rd.le vis_le nt_lst (Rd.le s.le nt_lst sq))
      dsimp only
      rw [enumL_length]
      refine ⟨fun hi => ?_, fun hi => ⟨vs, q, by rw [← rs.length]; exact hi⟩⟩
      obtain ⟨v, hv, _⟩ := rs.get (List.getElem?_eq_getElem hi)
      refine ⟨⟨vs, v, q, hv⟩, fun x H' y => ?_⟩
      obtain ⟨T, x0, rfl, hT, rfl, y⟩ := y
      obtain ⟨u, hu, ru⟩ := item_rep (own' := oS σ) s hbx rs ho (y vs q)
      obtain ⟨z1, z2, z3⟩ := pair_rep R hT (.d (.int (i : Nat))) ru
      exact ⟨_, by rw [enumL_get, hu]; rfl, z1, z2, z3⟩
    · refine .inr ⟨⟨vs, SqT.le vis_le sq⟩, h1 ρ1 H1 (Stp.refl _ _) R1 _ ?_ (by show (enumL l).length ≤ _; rw [enumL_length, rs.length]; exact hz)⟩
      intro oS Bx hbx ρ H en st σ s R _ i
      have q : SqT G.K H a vs := SqT.le vis_le (SqT.le s.le sq)
      dsimp only
      rw [enumL_length]
      refine ⟨fun hi => ?_, fun hi => ⟨vs, q, by rw [← rs.length]; exact hi⟩⟩
      obtain ⟨v, hv, _⟩ := rs.get (List.getElem?_eq_getElem hi)
      refine ⟨⟨vs, v, q, hv⟩, fun x H' y => ?_⟩
      obtain ⟨T, x0, rfl, hT, rfl, y⟩ := y
      obtain ⟨u, hu, ru⟩ := item_rep (own' := oS σ) s hbx rs ho (y vs q)
      obtain ⟨z1, z2, z3⟩ := pair_rep R hT (.d (.int (i : Nat))) ru
      exact ⟨_, by rw [enumL_get, hu]; rfl, z1, z2, z3⟩
  · exact h1.elim
/-! zip of two lists, of two tuples -/
def zipL (l m : List U) : List U := List.zipWith (fun u w => mkTup [u, w]) l m
def kindOf : U → Nat
  | .d (.list _) => 1
  | .d (.tuple _) => 2
  | .tup _ => 2
  | _ => 0
def mZip (f g : SemE) : SemI := fun en st => (f en st).bind fun u st => (g en st).bind fun w st => match stayOf u, stayOf w with
  | some l, some m => if kindOf u = kindOf w then .ok (zipL l m, yes) st else .bad
  | _, _ => .bad
theorem stay_list {B ρ : List Addr} {own : OwnV} {H : Hp} {u : U} {x : V} {l : List U} (ru : RepU G (vis B ρ H) ρ own u x) (h : stayOf u = some l) (k : kindOf u = 1) :
    hasOwnL l = false ∧ ∃ a vs, x = .ref a ∧ Rd (vis B ρ H) a (.lst vs) ∧ RepUs G (vis B ρ H) ρ own l vs ∧ vs.length ≤ sizeLine := by
  unfold stayOf at h
  split at h
  · cases k
  · cases h
    cases ru with
    | d r => cases r with
      | list s z r => exact ⟨ownL_map _, _, _, rfl, s, RepUs.ofD r, z⟩
  · cases k
  · cases h
theorem stay_tup {B ρ : List Addr} {own : OwnV} {H : Hp} {u : U} {x : V} {l : List U} (ru : RepU G (vis B ρ H) ρ own u x) (h : stayOf u = some l) (k : kindOf u ≠ 1) :
    kindOf u = 2 ∧ hasOwnL l = false ∧ ∃ a vs, x = .ref a ∧ SqT G.K (vis B ρ H) a vs ∧ RepUs G (vis B ρ H) ρ own l vs ∧ vs.length ≤ sizeLine := by
  unfold stayOf at h
  split at h
  · cases h
    cases ru with
    | d r => cases r with
      | tuple s z r => exact ⟨rfl, ownL_map _, _, _, rfl, s, RepUs.ofD r, z⟩
  · exact absurd rfl k
  · split at h
    · rename_i ho
      cases h
      cases ru with
      | tup s z r => exact ⟨rfl, ho, _, _, rfl, s, r, z⟩
    · cases h
  · cases h
theorem zipL_get {l m : List U} {i : Nat} {u w : U} (h1 : l[i]? = some u) (h2 : m[i]? = some w) : (zipL l m)[i]? = some (mkTup [u, w]) := by
  unfold zipL
  rw [List.getElem?_zipWith, h1, h2]
theorem si_zip {e e2 : Expr} {f g : SemE} {p pos tpos : Pos} {elts : List Expr} {kk : Nat} (hK : X.K = G.K) (hg : Gl X "zip") (hm : X.mg "zip" = none) (he : SE X oS G W e f) (he2 : SE X oS G W e2 g)
    (hs : starEach [e, e2] X.env = (false, eval e X.env) :: starEach [e2] X.env := by rfl) (hs2 : starEach [e2] X.env = (false, eval e2 X.env) :: starEach [] X.env := by rfl) (hpl : (backTo pos (starEach [e2] X.env)).any (·.1) = false := by rfl) :
    SI X oS G W (.Tuple elts kk tpos) (.Call (.Name "zip" p) [e, e2] [] pos) (mZip f g) := by
  have ha : PA X [e, e2] (tCons (rdE oS G W f) (tCons (rdE oS G W g) tNil)) := pa_cons he (pa_cons he2 pa_nil hs2) hs
  refine PI.imp (RZ.pi_zipA hg hm ha hs hpl) fun σ H R ⟨B, ρ, en, st, RR, h⟩ => ?_
  refine ⟨B, ρ, en, st, RR, (PostE.bind h).mono fun u st1 ρ1 H1 _ s1 R1 h1 v rv => ?_⟩
  refine ⟨B, ρ1, en, st1, R1, (PostE.bind h1).mono fun w st2 ρ2 H2 _ s2 R2 h2 y ry => ?_⟩
  have rv := rv.stp s2
  split at h2
  · rename_i l m hl hm'
    split at h2
    · rename_i hk
      rw [hK]
      by_cases k1 : kindOf u = 1
      · obtain ⟨ho, a, vs, rfl, sq, rs, hz⟩ := stay_list rv hl k1
        obtain ⟨ho2, a2, vs2, rfl, sq2, rs2, _⟩ := stay_list ry hm' (hk ▸ k1)
        refine ⟨a, a2, vs, vs2, rfl, .inl ⟨.inl (Rd.le vis_le nt_lst sq), .inl (Rd.le vis_le nt_lst sq2), h2 ρ2 H2 (Stp.refl _ _) R2 _ ?_ (by show (zipL l m).length ≤ _; unfold zipL; rw [List.length_zipWith, rs.length]; exact Nat.le_trans (Nat.min_le_left _ _) hz)⟩⟩
        intro oS Bx hbx ρ H en st σ s R _ i
        have q : SqL G.K H a vs := .inl (Rd.le vis_le nt_lst (Rd.le s.le nt_lst sq))
        have q2 : SqL G.K H a2 vs2 := .inl (Rd.le vis_le nt_lst (Rd.le s.le nt_lst sq2))
        have hlen : (zipL l m).length = min l.length m.length := by unfold zipL; simp
        dsimp only
        refine ⟨fun hi => ?_, fun hi => ⟨vs, vs2, q, q2, by rw [← rs.length, ← rs2.length]; omega⟩⟩
        obtain ⟨v, hv, _⟩ := rs.get (List.getElem?_eq_getElem (show i < l.length by omega))
        obtain ⟨v2, hv2, _⟩ := rs2.get (List.getElem?_eq_getElem (show i < m.length by omega))
        refine ⟨⟨vs, vs2, v, v2, q, q2, hv, hv2⟩, fun x H' y => ?_⟩
        obtain ⟨T, x0, y0, rfl, hT, rfl, y1, y2⟩ := y
        obtain ⟨u', hu, ru⟩ := item_rep (own' := oS σ) s hbx rs ho (y1 vs q)
        obtain ⟨w', hw, rw'⟩ := item_rep (own' := oS σ) s hbx rs2 ho2 (y2 vs2 q2)
        obtain ⟨z1, z2, z3⟩ := pair_rep R hT ru rw'
        exact ⟨_, zipL_get hu hw, z1, z2, z3⟩
      · obtain ⟨k2, ho, a, vs, rfl, sq, rs, hz⟩ := stay_tup rv hl k1
        obtain ⟨_, ho2, a2, vs2, rfl, sq2, rs2, _⟩ := stay_tup ry hm' (hk ▸ k1)
        refine ⟨a, a2, vs, vs2, rfl, .inr ⟨SqT.le vis_le sq, SqT.le vis_le sq2, h2 ρ2 H2 (Stp.refl _ _) R2 _ ?_ (by show (zipL l m).length ≤ _; unfold zipL; rw [List.length_zipWith, rs.length]; exact Nat.le_trans (Nat.min_le_left _ _) hz)⟩⟩
        intro oS Bx hbx ρ H en st σ s R _ i
        have q : SqT G.K H a vs := SqT.le vis_le (SqT.le s.le sq)
        have q2 : SqT G.K H a2 vs2 := SqT.le vis_le (SqT.le s.le sq2)
        have hlen : (zipL l m).length = min l.length m.length := by unfold zipL; simp
        dsimp only
        refine ⟨fun hi => ?_, fun hi => ⟨vs, vs2, q, q2, by rw [← rs.length, ← rs2.length]; omega⟩⟩
        obtain ⟨v, hv, _⟩ := rs.get (List.getElem?_eq_getElem (show i < l.length by omega))
        obtain ⟨v2, hv2, _⟩ := rs2.get (List.getElem?_eq_getElem (show i < m.length by omega))
        refine ⟨⟨vs, vs2, v, v2, q, q2, hv, hv2⟩, fun x H' y => ?_⟩
        obtain ⟨T, x0, y0, rfl, hT, rfl, y1, y2⟩ := y
        obtain ⟨u', hu, ru⟩ := item_rep (own' := oS σ) s hbx rs ho (y1 vs q)
        obtain ⟨w', hw, rw'⟩ := item_rep (own' := oS σ) s hbx rs2 ho2 (y2 vs2 q2)
        obtain ⟨z1, z2, z3⟩ := pair_rep R hT ru rw'
        exact ⟨_, zipL_get hu hw, z1, z2, z3⟩
    · exact h2.elim
  · exact h2.elim
/-! range -/
def rgU (lo hi : Int) : List U := (List.range (hi - lo).toNat).map fun i => U.d (.int (lo + (i : Nat)))
theorem itok_rg {B ρ0 : List Addr} {H0 : Hp} (lo hi : Int) : ItOk G B ρ0 H0 (Itr lo (hi - lo).toNat) (rgU lo hi) yes := by
  intro oS Bx hbx ρ H en st σ s R _ i
  have hl : (rgU lo hi).length = (hi - lo).toNat := by unfold rgU; simp
  rw [hl]
  refine ⟨fun hi' => ⟨hi', fun x H' y => ?_⟩, fun h => h⟩
  obtain ⟨rfl, rfl⟩ := y
  refine ⟨.d (.int (lo + (i : Nat))), ?_, Stp.refl _ _, R, .d (.int _)⟩
  unfold rgU
  rw [List.getElem?_map, List.getElem?_range hi']
  rfl
theorem rgU_len {lo hi : Int} (h : rgOk lo hi) : (rgU lo hi).length ≤ sizeLine := by
  have e : (rgU lo hi).length = (hi - lo).toNat := by unfold rgU; simp
  rw [e, sizeLine_eq]
  exact h.2.2.2.2
def b62 (i : Int) : Prop := -(2 ^ 62) ≤ i ∧ i < 2 ^ 62
instance (i : Int) : Decidable (b62 i) := by unfold b62; infer_instance
def mRg1 (f : SemE) : SemI := fun en st => (f en st).bind fun u st => match u with
  | .d (.int j) => if rgOk 0 j then .ok (rgU 0 j, yes) st else .bad
  | _ => .bad
def mRg2 (f g : SemE) : SemI := fun en st => (f en st).bind fun u st => (g en st).bind fun w st => match u, w with
  | .d (.int i), .d (.int j) => if rgOk i j then .ok (rgU i j, yes) st else .bad
  | _, _ => .bad
theorem si_range1 {a : Expr} {f : SemE} {p pos : Pos} (hg : Gl X "range") (hm : X.mg "range" = none) (ha : SE X oS G W a f) (hs : starEach [a] X.env = [(false, eval a X.env)] := by rfl) : SI X oS G W tg (.Call (.Name "range" p) [a] [] pos) (mRg1 f) := by
  have ha' : PA X [a] (tCons (rdE oS G W f) tNil) := pa_cons ha pa_nil hs
  refine PI.imp (pi_range1 hg hm ha' hs) fun σ H R ⟨B, ρ, en, st, RR, h⟩ => ?_
  refine ⟨B, ρ, en, st, RR, (PostE.bind h).mono fun u st1 ρ1 H1 _ s1 R1 h1 v rv => ?_⟩
  split at h1
  · split at h1
    · rename_i hb
      cases rv with
      | d rv =>
        cases rv
        refine ⟨_, rfl, hb.2.2.1, hb.2.2.2.1, ?_⟩
        have q := h1 ρ1 H1 (Stp.refl _ _) R1 _ (itok_rg 0 _) (rgU_len hb)
        simpa using q
    · exact h1.elim
  · exact h1.elim
theorem si_range2 {a b : Expr} {f g : SemE} {p pos : Pos} (hg : Gl X "range") (hm : X.mg "range" = none) (ha : SE X oS G W a f) (hb : SE X oS G W b g) (hs : starEach [a, b] X.env = [(false, eval a X.env), (false, eval b X.env)] := by rfl) (hs2 : starEach [b] X.env = [(false, eval b X.env)] := by rfl) (hs3 : starEach [a, b] X.env = (false, eval a X.env) :: starEach [b] X.env := by rfl) (hs4 : starEach [b] X.env = (false, eval b X.env) :: starEach [] X.env := by rfl) : SI X oS G W tg (.Call (.Name "range" p) [a, b] [] pos) (mRg2 f g) := by
  have ha' : PA X [a, b] (tCons (rdE oS G W f) (tCons (rdE oS G W g) tNil)) := pa_cons ha (pa_cons hb pa_nil hs4) hs3
  refine PI.imp (pi_range2 hg hm ha' hs hs2) fun σ H R ⟨B, ρ, en, st, RR, h⟩ => ?_
  refine ⟨B, ρ, en, st, RR, (PostE.bind h).mono fun u st1 ρ1 H1 _ s1 R1 h1 v rv => ?_⟩
  refine ⟨B, ρ1, en, st1, R1, (PostE.bind h1).mono fun w st2 ρ2 H2 _ s2 R2 h2 y ry => ?_⟩
  have rv := rv.stp s2
  split at h2
  · split at h2
    · rename_i hb
      cases rv with
      | d rv =>
        cases rv
        cases ry with
        | d ry =>
          cases ry
          exact ⟨_, _, rfl, ⟨hb.1, hb.2.1, hb.2.2.1, hb.2.2.2.1⟩, h2 ρ2 H2 (Stp.refl _ _) R2 _ (itok_rg _ _) (rgU_len hb)⟩
    · exact h2.elim
  · exact h2.elim
end
end TT
set_option Elab.async false
set_option linter.all false
set_option maxRecDepth 100000
set_option maxHeartbeats 2000000
namespace TT
open PySem PySem.Spec PyProof.Rows L2

/-! ## comprehensions -/
def wipeN (en : Nv) : List Nat → Nv
  | [] => en
  | v :: vs => (wipeN en vs).set v none
theorem wipeN_length (en : Nv) : ∀ vs : List Nat, (wipeN en vs).length = en.length
  | [] => rfl
  | v :: vs => by unfold wipeN; rw [List.length_set, wipeN_length en vs]
theorem wipeN_some {en : Nv} {i : Nat} {x : U} : ∀ {vs : List Nat}, (wipeN en vs)[i]? = some (some x) → en[i]? = some (some x) ∧ i ∉ vs
  | [], h => ⟨h, by simp⟩
  | v :: vs, h => by
    unfold wipeN at h
    by_cases hi : v = i
    · subst hi
      by_cases hv : v < (wipeN en vs).length
      · rw [List.getElem?_set_self hv] at h; cases h
      · rw [List.getElem?_eq_none (by simpa using hv)] at h; cases h
    · rw [List.getElem?_set_ne hi] at h
      obtain ⟨h1, h2⟩ := wipeN_some h
      exact ⟨h1, by simp only [List.mem_cons, not_or]; exact ⟨fun e => hi e.symm, h2⟩⟩
theorem wipe_set {σ : L2.St} {i : Nat} {x : Option V} : ∀ {vs : List Nat}, i ∈ vs → wipe (σ.set i x) vs = wipe σ vs
  | [], h => by cases h
  | v :: vs, h => by
    unfold wipe
    by_cases hv : i ∈ vs
    · rw [wipe_set hv]
    · have e : i = v := by
        rcases List.mem_cons.mp h with z | z
        · exact z
        · exact absurd z hv
      subst e
      have comm : ∀ ws : List Nat, i ∉ ws → wipe (σ.set i x) ws = (wipe σ ws).set i x := fun ws => by
        induction ws with
        | nil => intro _; rfl
        | cons w ws ih =>
          intro hw
          simp only [List.mem_cons, not_or] at hw
          unfold wipe
          rw [ih hw.2, List.set_comm _ _ hw.1]
      rw [comm vs hv, List.set_set]
theorem wipe_sub {σ : L2.St} : ∀ {ws vs : List Nat}, (∀ w ∈ ws, w ∈ vs) → wipe (wipe σ ws) vs = wipe σ vs
  | [], vs, _ => rfl
  | w :: ws, vs, h => by
    show wipe ((wipe σ ws).set w none) vs = wipe σ vs
    rw [wipe_set (h w List.mem_cons_self)]
    exact wipe_sub fun z hz => h z (List.mem_cons_of_mem _ hz)
theorem wipe_wipe (σ : L2.St) (vs : List Nat) : wipe (wipe σ vs) vs = wipe σ vs := wipe_sub fun _ h => h
theorem onlyNx_rt {r : RS} {u : U} {s : Sto} : onlyNx r ≠ .rt u s := by cases r <;> simp [onlyNx]
section
variable {X : Cx} {oS : OwnS} {G : Gd} {W : WX}
abbrev W0 : WX := fun _ _ _ _ => False
/-- a store to a name of the block's own -/
def rdW (vs : List Nat) (G : Gd) (g : SemG) : TG := fun v σ H Q => ∃ B ρ en st u, Rel noOwnS G B ρ en st σ H ∧ RepU G (vis B ρ H) ρ (noOwnS σ) u v ∧ PostS noOwnS G W0 B ρ H ⟨fun σ2 H2 => wipe σ2 vs = wipe σ vs → Q σ2 H2, fun _ _ => False, fun _ _ => False, fun _ _ => False⟩ (g u en st)
def rdWs (vs : List Nat) (G : Gd) (g : List U → Nv → Sto → RS) : TGs := fun v σ H Q => ∃ B ρ en st us, Rel noOwnS G B ρ en st σ H ∧ RepUs G (vis B ρ H) ρ (noOwnS σ) us v ∧ PostS noOwnS G W0 B ρ H ⟨fun σ2 H2 => wipe σ2 vs = wipe σ vs → Q σ2 H2, fun _ _ => False, fun _ _ => False, fun _ _ => False⟩ (g us en st)
def WG (X : Cx) (vs : List Nat) (G : Gd) (t : Expr) (g : SemG) : Prop := PG X t (rdW vs G g)
def WGs (X : Cx) (vs : List Nat) (G : Gd) (t : List Expr) (g : List U → Nv → Sto → RS) : Prop := PGs X t (rdWs vs G g)
theorem wg_name {vs : List Nat} {i : Nat} {x : Str} {pos : Pos} (hv : i ∈ vs) (hN : X.N.Nodup) (hi : X.N[i]? = some x) (hx : Loc X.env.scope x) (hf : X.fn x = true ∨ X.env.scope.names.lookup x = some .local := by first | exact .inl rfl | exact .inr rfl | assumption) : WG X vs G (.Name x pos) (mG i) := by
  refine PG.imp (pg_name hN hi hx hf) fun v σ H Q ⟨B, ρ, en, st, u, R, ru, h⟩ => ?_
  exact h ρ H _ (Stp.refl _ _) (R.setL ru noCell_no) (wipe_set hv)
theorem wgs_nil {vs : List Nat} : WGs X vs G [] mGNil := by
  refine PGs.imp pgs_nil fun v σ H Q ⟨B, ρ, en, st, us, R, ru, h⟩ => ?_
  unfold mGNil at h
  split at h
  · cases ru
    exact ⟨rfl, h ρ H σ (Stp.refl _ _) R rfl⟩
  · exact h.elim
def mGConsW (g : SemG) (gs : List U → Nv → Sto → RS) : List U → Nv → Sto → RS := fun us en st => match us with
  | u :: r => (onlyNx (g u en st)).then (gs r)
  | [] => .bad
theorem wgs_cons {vs : List Nat} {e : Expr} {es : List Expr} {g : SemG} {gs : List U → Nv → Sto → RS} (h1 : WG X vs G e g) (h2 : WGs X vs G es gs)
    (hs : (assignEach (e :: es) X.env).map (·.2) = assign e X.env :: (assignEach es X.env).map (·.2) := by rfl) : WGs X vs G (e :: es) (mGConsW g gs) := by
  refine PGs.imp (pgs_cons h1 h2 hs) fun v σ H Q ⟨B, ρ, en, st, us, R, ru, h⟩ => ?_
  unfold mGConsW at h
  split at h
  · rename_i u r
    cases ru with
    | cons a b =>
      refine ⟨_, _, rfl, B, ρ, en, st, u, R, a, ?_⟩
      refine PostS.only (Dn := ⟨fun σ2 H2 => wipe σ2 vs = wipe σ vs → rdWs vs G gs _ σ2 H2 Q, fun _ _ => False, fun _ _ => False, fun _ _ => False⟩) ?_
      cases q : onlyNx (g u en st) with
      | nx e s =>
        rw [q] at h
        intro ρ1 H1 σ1 s1 R1 hw
        refine ⟨B, ρ1, e, s, r, R1, b.stp s1, ?_⟩
        have h := PostS.step s1 h
        simp only [RS.then] at h
        rw [hw]
        exact h
      | exn c u e s => rw [q] at h; exact h
      | rt u s => exact absurd q onlyNx_rt
      | bk e s => rw [q] at h; exact h
      | ct e s => rw [q] at h; exact h
      | bad => rw [q] at h; exact h
  · exact h.elim
theorem wg_tup {vs : List Nat} {es : List Expr} {k : Nat} {gs : List U → Nv → Sto → RS} {n : Nat} {pos : Pos} (hK : X.K = G.K) (hc : X.calm = true) (h : WGs X vs G es gs)
    (hn : (assignEach es X.env).length = n := by rfl) (hst : (assignEach es X.env).findIdx? (·.1) = none := by rfl) : WG X vs G (.Tuple es k pos) (mGTup n gs) := by
  refine PG.imp (pg_tup hc h hn hst) fun v σ H Q ⟨B, ρ, en, st, u, R, ru, h⟩ => ?_
  unfold mGTup at h
  split at h
  · rename_i l hl
    split at h
    · rename_i hn
      have q : ∃ a vs, v = .ref a ∧ SqT G.K H a vs ∧ RepUs G (vis B ρ H) ρ (noOwnS σ) l vs := by
        unfold tupOf at hl
        split at hl
        · cases hl
          cases ru with
          | d r => cases r with
            | tuple s z r => exact ⟨_, _, rfl, SqT.le vis_le s, RepUs.ofD r⟩
        · cases hl
          cases ru with
          | tup s z r => exact ⟨_, _, rfl, SqT.le vis_le s, r⟩
        · cases hl
      obtain ⟨a, vs, rfl, sq, rs⟩ := q
      exact ⟨a, vs, rfl, by rw [hK]; exact sq, by rw [← rs.length]; exact hn, B, ρ, en, st, l, R, rs, h⟩
    · exact h.elim
  · exact h.elim
/-- the tests of a clause -/
def ST1 (X : Cx) (G : Gd) (ifs : List Expr) (t : SemT) : Prop := PTs X ifs (rdT noOwnS G W0 t)
theorem sts_nil : ST1 X G [] (fun _ st => .ok true st) := ⟨fun pins s σ H Q I ⟨B, ρ, en, st, R, h⟩ => (pts_nil : PTs X [] tYes).run pins s σ H Q I (h ρ H (Stp.refl _ _) R)⟩
theorem sts_one {c : Expr} {t : SemT} (h : ST X noOwnS G W0 c t) : ST1 X G [c] t := pts_one h

/-- the items, one after the other; what is made so far -/
def lcL (g : SemG) (t : SemT) (fe : SemE) (chk : Sto → Bool) (en : Nv) : List U → List U → Sto → Res (List U)
  | [], acc, st => if chk st = true then .ok acc st else .bad
  | u :: r, acc, st => if chk st = true then (match g u en st with
    | .nx en1 st1 => (match t en1 st1 with
      | .ok b st2 => if b = true then (match fe en1 st2 with
          | .ok y st3 => lcL g t fe chk en r (acc ++ [y]) st3
          | _ => .bad)
        else lcL g t fe chk en r acc st2
      | _ => .bad)
    | _ => .bad) else .bad
def mLc (fi : SemI) (vs : List Nat) (g : SemG) (t : SemT) (fe : SemE) : SemE := fun en st => (fi en st).bind fun it st =>
  if enOwn en = false ∧ stOwn st = false then (lcL g t fe it.2 (wipeN en vs) it.1 [] st).bind fun l st => (match allD l with
    | some l => .ok (.d (.list l)) st
    | none => .bad) else .bad
theorem Rel.block {B ρ : List Addr} {en : Nv} {st : Sto} {σ : L2.St} {H : Hp} {D : Addr} {o : HO} (R : Rel oS G B ρ en st σ H) (h1 : enOwn en = false) (h2 : stOwn st = false) (hD : H D = none) (ho : dat o) (vs : List Nat) :
    Rel noOwnS G (D :: B) ρ (wipeN en vs) st (wipe σ vs) (upd H D o) := by
  have f := R.sto.fresh hD
  have s : Stp ρ H ρ (upd H D o) := Stp.laid hD
  have l : Le (vis B ρ H) (vis (D :: B) ρ (upd H D o)) := leX (Bx := [D]) s.toB fun b hb => by
    have e : b = D := by simpa using hb
    rw [e]; exact hD
  have S := R.sto.noOwn (own' := noOwnS σ) h2
  refine ⟨⟨S.len, S.nd, fun n c hc => ?_, fun b hb => ?_, S.tabs.ext fun b o' e => by rw [upd_ne (ne_of_none e hD)]; exact e⟩, by rw [wipeN_length, wipe_length, R.len], fun i u hu => ?_⟩
  · obtain ⟨a, o', q1, q2, q3⟩ := S.cell n c hc
    exact ⟨a, o', q1, by rw [upd_ne (ne_of_none q2 hD)]; exact q2, q3.le l (fun _ _ z => z) fun _ _ z => z⟩
  · rcases List.mem_cons.mp hb with e | hb
    · subst e
      exact ⟨f.2, o, upd_same, ho⟩
    · obtain ⟨q1, o', q2, q3⟩ := S.hid b hb
      exact ⟨q1, o', by rw [upd_ne (ne_of_none q2 hD)]; exact q2, q3⟩
  · obtain ⟨hu, hv⟩ := wipeN_some hu
    obtain ⟨v, q1, q2⟩ := R.env i u hu
    refine ⟨v, by rw [wipe_out hv]; exact q1, (q2.noOwn ?_).le l (fun _ _ z => z) fun _ _ z => z⟩
    unfold enOwn at h1
    rw [List.any_eq_false] at h1
    simpa using h1 _ (List.mem_of_getElem? hu)
/-- a block's state at a later heap -/
theorem Rel.again {B ρ ρ' : List Addr} {en en' : Nv} {st st' : Sto} {σ σ' : L2.St} {H H' : Hp} (R : Rel noOwnS G B ρ en st σ H) (s : Stp ρ H ρ' H') (R' : Rel noOwnS G B ρ' en' st' σ' H') : Rel noOwnS G B ρ' en st' σ H' :=
  R.ofS s (R'.sto.own fun _ _ z => z)
/-- the list that grows is written -/
theorem Rel.grow {B ρ : List Addr} {en : Nv} {st : Sto} {σ : L2.St} {H : Hp} {D : Addr} {o : HO} {ws : List V} (R : Rel noOwnS G (D :: B) ρ en st σ H) (ho : dat o) (hws : H D = some (.lst ws)) : Rel noOwnS G (D :: B) ρ en st σ (upd H D o) := by
  obtain ⟨hD, o0, hH, hn⟩ := R.sto.hid D (List.mem_cons_self)
  have l : Le (vis (D :: B) ρ H) (vis (D :: B) ρ (upd H D o)) := fun b o' e _ => by
    obtain ⟨q1, q2, q3⟩ := vis_some e
    refine vis_of q1 q2 ?_
    rw [upd_ne (fun z => q1 (by rw [z]; exact List.mem_cons_self))]
    exact q3
  refine ⟨⟨R.sto.len, R.sto.nd, fun n c hc => ?_, fun b hb => ?_, tabs_write R.sto.tabs hws nt_lst (by intro c q e; unfold LamX.CodeO at e; cases e)⟩, R.len, fun i u hu => ?_⟩
  · obtain ⟨a, o', q1, q2, q3⟩ := R.sto.cell n c hc
    refine ⟨a, o', q1, ?_, q3.le l (fun _ _ z => z) fun _ _ z => z⟩
    rw [upd_ne (fun z => hD (by rw [← z]; exact List.mem_of_getElem? q1))]
    exact q2
  · obtain ⟨q1, o', q2, q3⟩ := R.sto.hid b hb
    by_cases e : b = D
    · subst e
      exact ⟨q1, o, upd_same, ho⟩
    · exact ⟨q1, o', by rw [upd_ne e]; exact q2, q3⟩
  · obtain ⟨v, q1, q2⟩ := R.env i u hu
    exact ⟨v, q1, q2.le l (fun _ _ z => z) fun _ _ z => z⟩
/-- the list is done: it stays from now on -/
theorem Rel.leave {B ρ0 ρ : List Addr} {en en' : Nv} {st st' : Sto} {σ σ' : L2.St} {H0 H : Hp} {D : Addr} (R0 : Rel oS G B ρ0 en st σ H0) (s : Stp ρ0 H0 ρ H) (R : Rel noOwnS G (D :: B) ρ en' st' σ' H) : Rel oS G B ρ en st' σ H := by
  refine R0.ofS s ⟨R.sto.len, R.sto.nd, fun n c hc => ?_, fun b hb => R.sto.hid b (List.mem_cons_of_mem _ hb), R.sto.tabs⟩
  obtain ⟨a, o', q1, q2, q3⟩ := R.sto.cell n c hc
  refine ⟨a, o', q1, q2, q3.le (fun b o e t => ?_) (fun _ _ z => z) fun _ _ z => z.elim⟩
  obtain ⟨z1, z2, z3⟩ := vis_some e
  exact vis_of (fun z => z1 (List.mem_cons_of_mem _ z)) z2 z3
theorem rd_lc {fi : SemI} {vs : List Nat} {g : SemG} {t : SemT} {fe : SemE} {σ : L2.St} {H : Hp} {Q : VK} (h : rdE oS G W (mLc fi vs g t fe) σ H Q) :
    tLc (rdI oS G W fi) (rdW vs G g) (rdT noOwnS G W0 t) (rdE noOwnS G W0 fe) vs σ H Q := by
  obtain ⟨B, ρ, en, st, R, h⟩ := h
  refine ⟨B, ρ, en, st, R, (PostE.bind h).mono fun it st1 ρ1 H1 _ s1 R1 h1 J ok hlen D hD => ?_⟩
  split at h1
  case isFalse => exact h1.elim
  rename_i hno
  have RB := R1.block hno.1 hno.2 hD (dat_lst (xs := [])) vs
  have sD : Stp ρ1 H1 ρ1 (upd H1 D (.lst [])) := Stp.laid hD
  have hDx : ∀ b ∈ [D], H1 b = none := fun b hb => by
    have e : b = D := by simpa using hb
    rw [e]; exact hD
  refine ⟨fun i m H => m = it.1.length - i ∧ i ≤ it.1.length ∧ ∃ ρ st acc ws, Stp ρ1 H1 ρ H ∧ Rel noOwnS G (D :: B) ρ (wipeN en vs) st (wipe σ vs) H ∧ H D = some (.lst ws) ∧ RepUs G (vis (D :: B) ρ H) ρ (noOwnS σ) acc ws ∧ acc.length ≤ i ∧
    PostE oS G W B ρ1 en σ H1 (fun u ρ' H' _ => ∀ v, RepU G (vis B ρ' H') ρ' (oS σ) u v → Q v H') ((lcL g t fe it.2 (wipeN en vs) (it.1.drop i) acc st).bind fun l st => (match allD l with
    | some l => .ok (.d (.list l)) st
    | none => .bad)), ⟨_, rfl, Nat.zero_le _, ρ1, st1, [], [], sD, RB, upd_same, .nil, Nat.le_refl _, h1⟩, ?_⟩
  rintro i m H ⟨rfl, hi, ρ, st, acc, ws, s, RR, hDH, racc, hacc, h⟩
  by_cases hl : i < it.1.length
  · rw [List.drop_eq_getElem_cons hl, lcL] at h
    split at h
    case isFalse => exact h.elim
    rename_i hk
    obtain ⟨go, yl⟩ := (ok noOwnS [D] hDx ρ H _ st _ s.toB RR hk i).1 hl
    refine .inr ⟨go, fun H' => ∃ ρ st acc ws, Stp ρ1 H1 ρ H' ∧ Rel noOwnS G (D :: B) ρ (wipeN en vs) st (wipe σ vs) H' ∧ H' D = some (.lst ws) ∧ RepUs G (vis (D :: B) ρ H') ρ (noOwnS σ) acc ws ∧ acc.length ≤ i + 1 ∧
      PostE oS G W B ρ1 en σ H1 (fun u ρ' H' _ => ∀ v, RepU G (vis B ρ' H') ρ' (oS σ) u v → Q v H') ((lcL g t fe it.2 (wipeN en vs) (it.1.drop (i + 1)) acc st).bind fun l st => (match allD l with
      | some l => .ok (.d (.list l)) st
      | none => .bad)), fun H' ⟨ρ', st', acc', ws', q⟩ => ⟨_, by omega, rfl, hl, ρ', st', acc', ws', q⟩, fun x H' y => ?_⟩
    obtain ⟨u, hu, sy, Ry, ru⟩ := yl x H' y
    rw [List.getElem?_eq_getElem hl] at hu
    cases hu
    have hDH' : H' D = some (.lst ws) := sy.keep D _ hDH (RR.sto.hid D List.mem_cons_self).1 nt_lst
    refine ⟨D :: B, ρ, wipeN en vs, st, it.1[i], Ry, ru, ?_⟩
    cases q : g it.1[i] (wipeN en vs) st with
    | nx en1 st1' =>
      rw [q] at h
      intro ρ2 H2 σ2 s2 R2 hw
      refine ⟨by rw [hw]; clear hw; exact wipe_wipe _ _, D :: B, ρ2, en1, st1', R2, ?_⟩
      dsimp only at h
      cases q2 : t en1 st1' with
      | ok b st2 =>
        rw [q2] at h
        intro ρ3 H3 s3 R3
        have s13 : Stp ρ H ρ3 H3 := (sy.trans s2).trans s3
        have hD3 : H3 D = some (.lst ws) := s13.keep D _ hDH (RR.sto.hid D List.mem_cons_self).1 nt_lst
        have racc3 := racc.le s13.le s13.pre fun _ _ z => z
        dsimp only at h ⊢
        by_cases hb : b = true
        · rw [if_pos hb] at h ⊢
          refine ⟨D :: B, ρ3, en1, st2, R3, ?_⟩
          cases q3 : fe en1 st2 with
          | ok y0 st3 =>
            rw [q3] at h
            intro ρ4 H4 s4 R4 v rv
            have s14 := s13.trans s4
            have hD4 : H4 D = some (.lst ws) := s4.keep D _ hD3 (R3.sto.hid D List.mem_cons_self).1 nt_lst
            have hz : ws.length < sizeLine := by
              have := racc.length
              omega
            refine ⟨ws, hD4, hz, ρ4, st3, acc ++ [y0], ws ++ [v], ?_, ?_, upd_same, ?_, by rw [List.length_append]; simp; omega, ?_⟩
            · have s1' := s.trans s14
              exact ⟨fun b o e hb' ht => by
                rw [upd_ne (ne_of_none e hD)]
                exact s1'.keep b o e hb' ht, fun b e => s1'.dom b (upd_dom e), s1'.pre, s1'.new⟩
            · exact (RR.again s14 R4).grow dat_lst hD4
            · have l : Le (vis (D :: B) ρ4 H4) (vis (D :: B) ρ4 (upd H4 D (.lst (ws ++ [v])))) := fun b o' e _ => by
                obtain ⟨z1, z2, z3⟩ := vis_some e
                refine vis_of z1 z2 ?_
                rw [upd_ne (fun z => z1 (by rw [z]; exact List.mem_cons_self))]
                exact z3
              exact ((racc3.le s4.le s4.pre fun _ _ z => z).append (.cons (rv.le (Le.refl _) (fun _ _ z => z) fun _ _ z => z.elim) .nil)).le l (fun _ _ z => z) fun _ _ z => z
            · exact h
          | exn c u0 st3 => rw [q3] at h; exact h.elim
          | bad => rw [q3] at h; exact h.elim
        · rw [if_neg hb] at h ⊢
          exact ⟨ρ3, st2, acc, ws, s.trans s13, RR.again s13 R3, hD3, racc3, by omega, h⟩
      | exn c u0 st2 => rw [q2] at h; exact h.elim
      | bad => rw [q2] at h; exact h.elim
    | rt u0 s0 => rw [q] at h; exact h.elim
    | bk e0 s0 => rw [q] at h; exact h.elim
    | ct e0 s0 => rw [q] at h; exact h.elim
    | exn c u0 e0 s0 => rw [q] at h; exact h.elim
    | bad => rw [q] at h; exact h.elim
  · have e : i = it.1.length := by omega
    subst e
    rw [List.drop_length, lcL] at h
    split at h
    case isFalse => exact h.elim
    rename_i hk
    refine .inl ⟨(ok noOwnS [D] hDx ρ H _ st _ s.toB RR hk _).2 (Nat.le_refl _), ?_⟩
    dsimp only [Res.bind] at h
    split at h
    · rename_i l hl
      refine h ρ H s (Rel.leave R1 s RR) _ (.d (.list (.inl (vis_of ?_ (RR.sto.hid D List.mem_cons_self).1 hDH)) ?_ ?_))
      · intro hb
        obtain ⟨_, o', q2, _⟩ := R1.sto.hid D hb
        rw [hD] at q2
        cases q2
      · have := racc.length
        omega
      · have r := (racc.allD hl)
        exact r.le fun b o e t => by
          obtain ⟨z1, z2, z3⟩ := vis_some e
          exact vis_of (fun z => z1 (List.mem_cons_of_mem _ z)) z2 z3
    · exact h.elim
theorem se_lc {elt tg iter : Expr} {ifs : List Expr} {scope : Scope} {own : List (Str × Nat)} {pos : Pos} {fi : SemI} {g : SemG} {t : SemT} {fe : SemE} (hc : X.calm = true) (hN : X.N.Nodup) (hi : SI X oS G W tg iter fi) (ok : BlkOk X.N X.env.scope scope own)
    (hg : ∀ (s : Shared) (H : Hp) (C : Addr) (cl : List (Str × Addr)) (fp : List Addr), WG (X.blk s H scope (compEnvC scope cl C X.env) fp) (own.map (·.2)) G tg g) (ht : ∀ (s : Shared) (H : Hp) (C : Addr) (cl : List (Str × Addr)) (fp : List Addr), ST1 (X.blk s H scope (compEnvC scope cl C X.env) fp) G ifs t)
    (he : ∀ (s : Shared) (H : Hp) (C : Addr) (cl : List (Str × Addr)) (fp : List Addr), SE (X.blk s H scope (compEnvC scope cl C X.env) fp) noOwnS G W0 elt fe) (hs : ∀ x, foldedSetIterable iter X.env x = pure x := by intro _; rfl) :
    SE X oS G W (.ListComp elt [⟨tg, iter, ifs, 0⟩] scope pos) (mLc fi (own.map (·.2)) g t fe) :=
  PE.imp (pe_lc hc hN hi ok hg ht he hs) fun _ _ _ h => rd_lc h
/-- name = [..] on one line, the name a local -/
theorem ss_setLc {i : Nat} {y : Str} {py : Pos} {elt tg iter : Expr} {ifs : List Expr} {scope : Scope} {own : List (Str × Nat)} {pos spos : Pos} {fi : SemI} {g : SemG} {t : SemT} {fe : SemE} (hc : X.calm = true) (hN : X.N.Nodup) (hy : X.N[i]? = some y) (hyl : X.env.scope.names.lookup y = some .local) (hnc : NoCell oS i)
    (hsw : swapsWith (.ListComp elt [⟨tg, iter, ifs, 0⟩] scope pos) (some (.Name y py)) spos.line X.env = pure true) (hi : SI X oS G W tg iter fi) (ok : BlkOk X.N X.env.scope scope own)
    (hg : ∀ (s : Shared) (H : Hp) (C : Addr) (cl : List (Str × Addr)) (fp : List Addr), WG (X.blk s H scope (compEnvC scope cl C X.env) fp) (own.map (·.2)) G tg g) (ht : ∀ (s : Shared) (H : Hp) (C : Addr) (cl : List (Str × Addr)) (fp : List Addr), ST1 (X.blk s H scope (compEnvC scope cl C X.env) fp) G ifs t)
    (he : ∀ (s : Shared) (H : Hp) (C : Addr) (cl : List (Str × Addr)) (fp : List Addr), SE (X.blk s H scope (compEnvC scope cl C X.env) fp) noOwnS G W0 elt fe) (hs : ∀ x, foldedSetIterable iter X.env x = pure x := by intro _; rfl) :
    SS X oS G W (.Assign [.Name y py] (.ListComp elt [⟨tg, iter, ifs, 0⟩] scope pos) spos) (mAsgT (mLc fi (own.map (·.2)) g t fe) (mG i)) := by
  refine PS.imp (ps_setLc hc hN hy hyl hsw hi ok hg ht he hs) fun Dn σ H ⟨B, ρ, en, st, R, h⟩ => ?_
  refine rd_lc (oS := oS) (W := W) ⟨B, ρ, en, st, R, postE_of R h fun u st1 ρ1 H1 s1 R1 h1 v rv => ?_⟩
  exact h1 ρ1 H1 _ (Stp.refl _ _) (R1.setL rv hnc)
end
end TT
set_option Elab.async false
set_option linter.all false
set_option maxRecDepth 100000
set_option maxHeartbeats 2000000
namespace TT
open PySem PySem.Spec PyProof.Rows L2

/-! ## defs -/
structure RoomG (k : Nat) (A : Around) : Prop where
  room : Room k A
  g : A.guards = some []
theorem RoomG.mono {j k : Nat} {A : Around} (r : RoomG k A) (h : j ≤ k) : RoomG j A := ⟨r.room.mono h, r.g⟩
theorem RoomG.deeper {k : Nat} {A : Around} (r : RoomG (k + 1) A) (env : Env) : RoomG k (A.deeper env) := ⟨r.room.deeper env, by
  have e : (A.deeper env).guards = A.guards := by first | rfl | (simp [Around.deeper])
  rw [e]; exact r.g⟩
abbrev noOwn : OwnV := fun _ _ => False
abbrev SemF := List U → Sto → Res U
/-- an error, as the heap has it -/
def ExcF (G : Gd) (B ρ' : List Addr) (H' : Hp) (c : Str) (u : Option U) (C : Addr) (d : Option Addr) : Prop := G.clsA c = some C ∧
  match u with
  | some u => ∃ dd v, d = some dd ∧ H' dd = some (.xd [(G.clsF c, v)]) ∧ RepU G (vis B ρ' H') ρ' noOwn u v
  | none => d = none
/-- behind a call -/
def PostF (G : Gd) (B ρ : List Addr) (H : Hp) (Q : VK) (E : XK) : Res U → Prop
  | .ok u st' => ∀ ρ' H' v, Stp ρ H ρ' H' → RelS G B ρ' noOwn st' H' → RepU G (vis B ρ' H') ρ' noOwn u v → Q v H'
  | .exn c u st' => ∀ ρ' H' (C : Addr) (d : Option Addr), Stp ρ H ρ' H' → RelS G B ρ' noOwn st' H' → ExcF G B ρ' H' c u C d → E (.ref C) d H'
  | .bad => False
def spF (G : Gd) (n : Nat) (F : SemF) : Sp := fun vs H Q E => ∃ B ρ us st, us.length = n ∧ RelS G B ρ noOwn st H ∧ RepUs G (vis B ρ H) ρ noOwn us vs ∧ PostF G B ρ H Q E (F us st)
/-- the def at f is F -/
structure FOk (P : Program) (w : World) (K : PySem.W.Frag) (mg : Str → Option Value) (base : Heap) (G : Gd) (k : Nat) (f : Addr) (fd : FuncData) (ps : List Str) (F : SemF) : Prop where
  run : ∀ (A : Around) (outer : List Env) (s : Shared) (H : Hp) (args : Args) (us : List Value) (vs : List V) (Q : VK) (E : XK), RoomG k A → Env0 P w K mg base A outer s H → BindsTo s fd args (ps.zip us) → Vals vs us → spF G ps.length F vs H Q E →
    codeAny (model P w) A (.call (.ref f) args) (CR (L2.CX P w) outer P w H s Q E) s
theorem spF.len {G : Gd} {n : Nat} {F : SemF} {vs : List V} {H : Hp} {Q : VK} {E : XK} (h : spF G n F vs H Q E) : vs.length = n := by
  obtain ⟨B, ρ, us, st, e, _, r, _⟩ := h
  rw [← r.length, e]
section
variable {P : Program} {w : World} {K : PySem.W.Frag} {mg : Str → Option Value} {base : Heap} {G : Gd}
theorem FOk.mono {j k : Nat} {f : Addr} {fd : FuncData} {ps : List Str} {F : SemF} (h : FOk P w K mg base G j f fd ps F) (hj : j ≤ k) : FOk P w K mg base G k f fd ps F :=
  ⟨fun A outer s H args us vs Q E hr => h.run A outer s H args us vs Q E (hr.mono hj)⟩
theorem FOk.congr {k : Nat} {f : Addr} {fd : FuncData} {ps : List Str} {F F' : SemF} (h : FOk P w K mg base G k f fd ps F) (e : ∀ us st, us.length = ps.length → F' us st ≠ .bad → F us st = F' us st) : FOk P w K mg base G k f fd ps F' :=
  ⟨fun A outer s H args us vs Q E hr h0 hb hv ⟨B, ρ, us', st, el, S, r, q⟩ => h.run A outer s H args us vs Q E hr h0 hb hv ⟨B, ρ, us', st, el, S, r, by
    by_cases hbad : F' us' st = .bad
    · rw [hbad] at q; exact q.elim
    · rw [e us' st el hbad]; exact q⟩⟩
/-- a body, as a call has it: the names' number -/
def runF (n : Nat) (f : SemS) : SemF := fun us st => match f (us.map some ++ List.replicate (n - us.length) none) st with
  | .nx _ st => if stOwn st = false then .ok (.d .none) st else .bad
  | .rt u st => if hasOwn u = false ∧ stOwn st = false then .ok u st else .bad
  | .exn c u _ st => (match u with
    | some u => if hasOwn u = false ∧ stOwn st = false then .exn c (some u) st else .bad
    | none => if stOwn st = false then .exn c none st else .bad)
  | _ => .bad
theorem start_rel {X : Cx} {N : List Str} {B ρ : List Addr} {us : List U} {vs : List V} {st : Sto} {H : Hp} (S : RelS G B ρ noOwn st H) (r : RepUs G (vis B ρ H) ρ noOwn us vs) (oS : OwnS) :
    Rel oS G B ρ (us.map some ++ List.replicate (N.length - us.length) none) st (L2.start N vs) H := by
  refine ⟨S.own fun _ _ z => z.elim, by unfold L2.start; simp [r.length], fun i u hu => ?_⟩
  by_cases hi : i < us.length
  · rw [List.getElem?_append_left (by simpa using hi), List.getElem?_map] at hu
    cases e : us[i]? with
    | none => rw [e] at hu; cases hu
    | some u' =>
      rw [e] at hu
      cases hu
      obtain ⟨v, hv, rv⟩ := r.get e
      refine ⟨v, ?_, rv.le (Le.refl _) (fun _ _ z => z) fun _ _ z => z.elim⟩
      unfold L2.start
      have hi' : i < vs.length := by rw [← r.length]; exact hi
      rw [List.getElem?_append_left (by simpa using hi'), List.getElem?_map, hv]
      rfl
  · rw [List.getElem?_append_right (by simpa using hi), List.getElem?_replicate] at hu
    split at hu <;> cases hu
/-- THE RULE for a def: its body -/
theorem fok_of {x qual : Str} {st : Stmt} {f : Addr} {fd : FuncData} {N ps : List Str} {k : Nat} {fb : SemS} (F : Fun K x qual st f fd) (S : FnScope N ps (defScope st))
    (hbody : ∀ (cdv : Value) (A : Around) (outer : List Env) (s : Shared) (H : Hp) (E : XK), cdv = fd.code → Env0 P w K mg base A outer s H → RoomG k (A.deeper (envOfC qual (defScope st) s.heap.objs.size f cdv)) →
      ∀ X, X = cxOf (L2.CX P w) P w K mg base N qual (defScope st) f cdv A outer s H E → Takes X (fun cls d _ H => E cls d H) → PassesOwn (model X.prog X.w) X.A X.env X.xe →
      SL X (ownV X) G (fun cls d _ H => E cls d H) (defBody st) fb) : FOk P w K mg base G (k + 1) f fd ps (runF N.length fb) := by
  obtain ⟨oc, od, kV, doc, pm, an, cdv, ct, osl, rfl, lk, hcd⟩ := F.ex
  refine ⟨fun A outer s H args us vs Q E hr e0 hb r hsp => ?_⟩
  have hl := spF.len hsp
  have KX : K.In s.heap := e0.mod.kin.keeps fun b o e => (e0.bs b o e).1
  have lim : s.heap.NoLimit := e0.mod.nolimit.keeps fun b o e => (e0.bs b o e).1
  have hkind : ∀ y ∈ ps.zip us, (defScope st).names.lookup y.1 = some .local ∨ ((defScope st).names.lookup y.1 = some .cell ∧ ((cellsFrom (s.heap.objs.size + 1) (defScope st).names []).lookup y.1).isSome = true) := fun ⟨n, v⟩ hy => by
    rcases S.par n (List.of_mem_zip hy).1 with q | q
    · exact .inl q
    · exact .inr ⟨q, PySem.W.cellsFrom_some _ _ _ (.inl q)⟩
  refine codeAny_call_function hr.room.depth (KX _ _ lk) rfl S.co S.gen rfl (PySem.W.codeRec_of KX hcd) (hb _ _ _ _ ?_)
  refine wpAny_newFunctionEnv_cells S.kind hkind fun env he s1 x => ?_
  subst he
  refine ⟨lim.keeps x.toInCall.keep, codeAny_func ?_⟩
  have hb := hbody cdv A outer s H E rfl e0 (hr.deeper _) _ rfl (takes_of rfl rfl rfl rfl) (passes_of rfl)
  have I : Inv (cxOf (L2.CX P w) P w K mg base N qual (defScope st) f cdv A outer s H E) [] (L2.start N vs) H s1 := inv_start S hr.room.hd e0 hl r x
  obtain ⟨B, ρ, us', st', el, S0, rr, q⟩ := hsp
  have R := start_rel (X := cxOf (L2.CX P w) P w K mg base N qual (defScope st) f cdv A outer s H E) (N := N) S0 rr (ownV (cxOf (L2.CX P w) P w K mg base N qual (defScope st) f cdv A outer s H E))
  have body := (hb : PSs _ _ _).run [] s1 (L2.start N vs) H { nx := fun _ H' => Q .non H', rt := Q } I ⟨B, ρ, _, st', R, by
    unfold runF at q
    split at q
    · rename_i e2 st2 heq
      rw [heq]
      split at q
      · rename_i hno
        exact fun ρ' H' σ' s' R' => q ρ' H' .non s' (R'.sto.noOwn hno) (.d .none)
      · exact q.elim
    · rename_i u2 st2 heq
      rw [heq]
      split at q
      · rename_i hno
        exact fun ρ' H' σ' v s' R' rv => q ρ' H' v s' (R'.noOwn hno.2) (rv.noOwn hno.1)
      · exact q.elim
    · rename_i c2 u2 e2 st2 heq
      rw [heq]
      intro ρ' H' σ' C d s' R' hx
      split at q
      · split at q
        · rename_i hno
          obtain ⟨x1, dd, v, x2, x3, x4⟩ := hx
          exact q ρ' H' C d s' (R'.sto.noOwn hno.2) ⟨x1, dd, v, x2, x3, x4.noOwn hno.1⟩
        · exact q.elim
      · split at q
        · rename_i hno
          exact q ρ' H' C d s' (R'.sto.noOwn hno) hx
        · exact q.elim
    · exact q.elim⟩
  refine wpAny_mono body (fun fl s' hs => ?_) fun e s' hs => hs
  have fin : ∀ {σ' : L2.St} {H' : Hp} {v : V} {u : Value}, Inv (cxOf (L2.CX P w) P w K mg base N qual (defScope st) f cdv A outer s H E) [] σ' H' s' → RelV v u → Q v H' → CE outer P w H s Q u s' :=
    fun {σ' H' v u} J rv q => ⟨v, H', J.os, J.bare, J.base, J.hok, rv, q⟩
  cases fl with
  | ret u =>
    obtain ⟨v, σ', H', J, rv, q⟩ := hs
    exact fin J rv q
  | next =>
    obtain ⟨σ', H', J, q⟩ := hs
    exact fin (v := V.non) (u := Value.none) J rfl q
  | brk =>
    obtain ⟨_, _, _, q⟩ := hs
    exact False.elim q
  | cont =>
    obtain ⟨_, _, _, q⟩ := hs
    exact False.elim q
end
/-! ## calls -/
section
variable {X : Cx} {oS : OwnS} {G : Gd} {W : WX} {k : Nat} {f : Addr} {fd : FuncData} {ps : List Str} {F : SemF} {x : Str} {p pos : Pos} {e : Expr} {es : List Expr}
/-- a call: nothing of one's own is handed on -/
def mCall (F : SemF) (fs : SemA) : SemE := fun en st => (fs en st).bind fun us st => if hasOwnL us = false ∧ stOwn st = false then F us st else .bad
theorem run_f {pins : List (Addr × Obj)} {σ : L2.St} {H : Hp} {s : Shared} {Q : VK} {us : List Value} {vs : List V} {B ρ : List Addr} {en : Nv} {st : Sto} {uu : List U} (FF : FOk X.prog X.w X.K X.mg X.base G k f fd ps F) (hr : RoomG k X.A) (hb : Binds X.K fd ps []) (tk : Takes X W)
    (I : L2.Inv X pins σ H s) (r : Vals vs us) (R : Rel oS G B ρ en st σ H) (ru : RepUs G (vis B ρ H) ρ (oS σ) uu vs) (hl : uu.length = ps.length)
    (h : PostE oS G W B ρ en σ H (fun u ρ' H' _ => ∀ v, RepU G (vis B ρ' H') ρ' (oS σ) u v → Q v H') (if hasOwnL uu = false ∧ stOwn st = false then F uu st else .bad)) : wpAny (model X.prog X.w) X.A (call (.ref f) us) (EP X pins σ Q) X.xe s := by
  split at h
  case isFalse => exact h.elim
  rename_i hno
  have r2 : Vals vs (us ++ []) := by rw [List.append_nil]; exact r
  have hlen : (us ++ []).length = ps.length := by rw [← r2.length, ← ru.length, hl]
  have hsp : spF G ps.length F vs H Q (fun cls d H' => W cls d σ H') := by
    refine ⟨B, ρ, uu, st, hl, R.sto.noOwn hno.2, ru.noOwn hno.1, ?_⟩
    cases q : F uu st with
    | ok u st' =>
      rw [q] at h
      exact fun ρ' H' v s' S' rv => h ρ' H' s' (R.ofS s' (S'.own fun _ _ z => z.elim)) v (rv.le (Le.refl _) (fun _ _ z => z) fun _ _ z => z.elim)
    | exn c u st' =>
      rw [q] at h
      refine fun ρ' H' C d s' S' hx => h ρ' H' C d s' (S'.own fun _ _ z => z.elim) ⟨hx.1, ?_⟩
      cases u with
      | some u =>
        obtain ⟨_, dd, v, x2, x3, x4⟩ := hx
        exact ⟨dd, v, x2, x3, x4.le (Le.refl _) (fun _ _ z => z) fun _ _ z => z.elim⟩
      | none => exact hx.2
    | bad => rw [q] at h; exact h
  have bb := hb s us I.kIn hlen
  have run := FF.run X.A X.stack s H ⟨us, []⟩ (us ++ []) vs Q (fun cls d H' => W cls d σ H') hr I.env0 bb r2 hsp
  refine wpAny_call (codeAny_mono run fun r s' hq => ?_)
  cases r with
  | error e => exact tk e s' (XE.of_call I (fun cls d H' h => h) hq)
  | ok fl =>
    cases fl with
    | ret u => exact I.after hq
    | next => exact False.elim hq
    | brk => exact False.elim hq
    | cont => exact False.elim hq
theorem se_call {fs : SemA} (FF : FOk X.prog X.w X.K X.mg X.base G k f fd ps F) (hr : RoomG k X.A) (hg : Gl X x) (hm : X.mg x = some (.ref f)) (hk : PySem.W.keepIn X.K (.ref f) = true) (hb : Binds X.K fd ps []) (tk : Takes X W) (hl : (e :: es).length = ps.length)
    (ha : SA X oS G W (e :: es) fs) (hal : ∀ en st us st', fs en st = .ok us st' → us.length = (e :: es).length) (hdb : (x == ("__debug__" : Str)) = false := by decide) (he : starEach (e :: es) X.env = (false, eval e X.env) :: starEach es X.env := by rfl) (hpl : (backTo pos (starEach es X.env)).any (·.1) = false := by rfl) :
    SE X oS G W (.Call (.Name x p) (e :: es) [] pos) (mCall F fs) := by
  refine ⟨fun pins s σ H Q I h => ?_⟩
  refine wpAny_Call_Name_kw (ld_glob I hg hm ?_ hdb)
  obtain ⟨B, ρ, en, st, R, h⟩ := h
  have args := (ha : PA X _ _).run pos pins s σ H (fun vs H1 => ∃ ρ1 st1 us, Stp ρ H ρ1 H1 ∧ Rel oS G B ρ1 en st1 σ H1 ∧ RepUs G (vis B ρ1 H1) ρ1 (oS σ) us vs ∧ us.length = ps.length ∧
    PostE oS G W B ρ1 en σ H1 (fun u ρ' H' _ => ∀ v, RepU G (vis B ρ' H') ρ' (oS σ) u v → Q v H') (if hasOwnL us = false ∧ stOwn st1 = false then F us st1 else .bad)) I
    ⟨B, ρ, en, st, R, (PostE.bind h).mono fun us st1 ρ1 H1 eq s1 R1 h1 vs rvs => ⟨ρ1, st1, us, s1, R1, rvs, by rw [hal _ _ _ _ eq, hl], h1⟩⟩
  refine PySem.W.callWith_K (h₀ := X.base) I.ok.mod.kin hk (thn args fun us s1 ⟨vs, H1, I1, r, ρ1, st1, uu, _, R1, ru, hlu, h1⟩ => ⟨I1.kIn, ?_⟩) he hpl
  exact run_f FF hr hb tk I1 r R1 ru hlu h1
theorem mNil_len {en : Nv} {st : Sto} {us : List U} {st' : Sto} (h : mNil en st = .ok us st') : us.length = 0 := by cases h; rfl
theorem mCons_len {n : Nat} {fe : SemE} {fs : SemA} (hs : ∀ en st us st', fs en st = .ok us st' → us.length = n) : ∀ (en : Nv) (st : Sto) (us : List U) (st' : Sto), mCons fe fs en st = .ok us st' → us.length = n + 1 := by
  intro en st us st' h
  unfold mCons at h
  cases q : fe en st with
  | ok u s1 =>
    rw [q] at h
    simp only [Res.bind] at h
    cases q2 : fs en s1 with
    | ok us2 s2 =>
      rw [q2] at h
      simp only at h
      cases h
      rw [List.length_cons, hs _ _ _ _ q2]
    | exn c u s2 => rw [q2] at h; cases h
    | bad => rw [q2] at h; cases h
  | exn c u s1 => rw [q] at h; cases h
  | bad => rw [q] at h; cases h
end
end TT
set_option Elab.async false
set_option linter.all false
set_option maxRecDepth 100000
set_option maxHeartbeats 2000000
/-! functions that a def makes: lambdas, defs within a def -/
namespace TT
open PySem PySem.Spec PyProof.Rows L2 LamX NdefX
section
variable {X : Cx} {pins : List (Addr × Obj)} {σ : L2.St} {H : Hp} {s : Shared}
abbrev lamI (X : Cx) (params : Arguments) (body : Expr) (scope : Scope) (fr : List Str) : CodeI := ⟨"<lambda>", X.env.qual ++ "<lambda>", params, .expr body, scope, fr⟩
/-- what is known behind the making of a function -/
structure MadeF (X : Cx) (T : List NTab) (H : Hp) (ci : CodeI) (cl : List (Str × Addr)) (f : Addr) (H1 : Hp) : Prop where
  ext : ExtN H H1
  dom : ∀ b, H1 b = none → H b = none
  tabs : TabsN T H1
  new : H f = none
  fn : ∃ c, H1 f = some (CloO f ci cl c) ∧ H1 c = some (CodeO c ci.qual)
/-- a new function object is tracked -/
theorem track_fn {ci : CodeI} {cl : List (Str × Addr)} {c : Addr} {o : Obj} {t' : Nat} {doc pm ctv : Value} (I : L2.Inv X pins σ H s)
    (ho : o = { cls := .type "function", data := .func { name := ci.name, qualname := ci.qual, params := ci.params, body := ci.body, scope := ci.scope, globals := mainGlobals, closure := cl, defaults := .none, kwdefaults := .none, doc := doc, pyModule := pm, annotations := none, code := .ref c, closureTuple := ctv, builtins := builtinsNs } }) :
    L2.Inv X pins σ (upd H s.heap.objs.size (CloO s.heap.objs.size ci cl c)) { s with heap := s.heap.push o, toks := t' } := by
  have e : (s.heap.push o).get? s.heap.objs.size = some o := Heap.get?_push_size _ (by rw [ho]; rfl)
  refine I.laid (a := s.heap.objs.size) (fun b u q => Heap.get?_push_of_some _ q) (Nat.le_refl _) ?_
  rw [ho] at e ⊢
  exact ⟨⟨_, _, doc, pm, ctv, e⟩, ⟨_, e⟩, fun h1 h2 ⟨od, sl, d, p, t, z⟩ st => ⟨od, sl, d, p, t, st _ z⟩⟩
theorem made_hit {T : List NTab} {ci : CodeI} {cl : List (Str × Addr)} {f c : Addr} (hT : TabsN T H) (hc : H c = some (CodeO c ci.qual)) (nF : H f = none) : MadeF X T H ci cl f (upd H f (CloO f ci cl c)) := by
  have keep : ∀ b o, H b = some o → upd H f (CloO f ci cl c) b = some o := fun b o e => by
    rw [upd_ne (ne_of_none e nF)]; exact e
  exact ⟨ExtN.of keep, fun b e => upd_dom e, hT.ext keep, nF, c, upd_same, keep _ _ hc⟩
theorem made_new {T : List NTab} {nm : Nat → Nat → Str} {ci : CodeI} {cl : List (Str × Addr)} {P f c : Addr} {ps : Array Value} {pos : Pos} (hT : TabsN T H) (hP : H P = some (.tbl ps)) (ht : TriplesOk ps.toList) (hn : nm pos.line pos.col = ci.qual)
    (ha : ∀ (p : Pos) (cv : Value), codeAmong p ps.toList = some cv → ∃ c, cv = .ref c ∧ H c = some (CodeO c (nm p.line p.col))) (hu : ∀ p ∈ T, p.1 = P → p.2 = nm) (nC : H c = none) (nF : upd (upd H P (.tbl (ps ++ #[rawInt pos.line, rawInt pos.col, .ref c]))) c (CodeO c ci.qual) f = none) :
    MadeF X T H ci cl f (upd (upd (upd H P (.tbl (ps ++ #[rawInt pos.line, rawInt pos.col, .ref c]))) c (CodeO c ci.qual)) f (CloO f ci cl c)) := by
  have ext1 : ExtN H (upd (upd H P (.tbl (ps ++ #[rawInt pos.line, rawInt pos.col, .ref c]))) c (CodeO c ci.qual)) := fun b o e n => by
    have hbP : b ≠ P := fun z => n ps (by rw [z, hP] at e; exact (Option.some.inj e).symm)
    rw [upd_ne (ne_of_none e nC), upd_ne hbP]
    exact e
  have listEq : (ps ++ #[rawInt pos.line, rawInt pos.col, .ref c]).toList = ps.toList ++ [rawInt pos.line, rawInt pos.col, .ref c] := by simp
  have tabs1 : TabsN T (upd (upd H P (.tbl (ps ++ #[rawInt pos.line, rawInt pos.col, .ref c]))) c (CodeO c ci.qual)) := by
    intro p hp
    by_cases hb : p.1 = P
    · have e2 := hu p hp hb
      rw [e2, hb]
      refine ⟨ps ++ #[rawInt pos.line, rawInt pos.col, .ref c], (upd_ne (ne_of_none hP nC)).trans upd_same, ?_, fun q cv hq => ?_⟩
      · rw [listEq]; exact PySem.TriplesOk_snoc _ _ _ _ ht
      · rw [listEq] at hq
        rcases among_app2 _ ht hq with z | ⟨z, z1, z2⟩
        · obtain ⟨c0, e1, e3⟩ := ha q cv z
          exact ⟨c0, e1, ext1 _ _ e3 codeO_ne⟩
        · exact ⟨c, z, by rw [← z1, ← z2, hn]; exact upd_same⟩
    · obtain ⟨qs, a1, a2, a3⟩ := hT p hp
      refine ⟨qs, (upd_ne (ne_of_none a1 nC)).trans ((upd_ne hb).trans a1), a2, fun q cv hq => ?_⟩
      obtain ⟨c0, e1, e3⟩ := a3 q cv hq
      exact ⟨c0, e1, ext1 _ _ e3 codeO_ne⟩
  have keep : ∀ b o, upd (upd H P (.tbl (ps ++ #[rawInt pos.line, rawInt pos.col, .ref c]))) c (CodeO c ci.qual) b = some o → upd (upd (upd H P (.tbl (ps ++ #[rawInt pos.line, rawInt pos.col, .ref c]))) c (CodeO c ci.qual)) f (CloO f ci cl c) b = some o := fun b o e =>
    (upd_ne (ne_of_none e nF)).trans e
  exact ⟨ext1.trans (ExtN.of keep), fun b e => upd_dom (upd_dom (upd_dom e)), tabs1.ext keep, upd_dom (upd_dom nF), c, upd_same, keep _ _ upd_same⟩
/-- a lambda is made -/
theorem lam_make {T : List NTab} {nm : Nat → Nat → Str} {c P : Addr} {params : Arguments} {body : Expr} {scope : Scope} {pos : Pos} {fr : List Str} {E : Value → Shared → Prop} {Q : Value → Shared → Prop} (I : L2.Inv X pins σ H s) (TB : TabB X.base X.mg c P) (hcode : X.env.code = .ref c)
    (hm : (P, nm) ∈ T) (hn : nm pos.line pos.col = X.env.qual ++ "<lambda>") (hu : ∀ p ∈ T, p.1 = P → p.2 = nm) (hT : TabsN T H) (hdef : defaultsOf params X.env = ([], [])) (hfree : ∀ y ∈ scope.names, y.2 = .free → ∃ c, X.env.cells.lookup y.1 = some c)
    (h : ∀ (f : Addr) (H1 : Hp) (s' : Shared), L2.Inv X pins σ H1 s' → MadeF X T H (lamI X params body scope fr) (cloFrom X.env.cells scope.names []) f H1 → Q (.ref f) s') :
    wpAny (model X.prog X.w) X.A (eval (.Lambda params body scope pos) X.env) Q E s := by
  obtain ⟨ps, hP, ht, ha⟩ := (show TabN H P nm from hT _ hm)
  refine PySem.W.kla_eval hdef ?_
  have hB := TB.bm.keeps I.bk
  have hPo : s.heap.get? P = some { cls := .none, data := .fields ps } := I.hok P _ hP
  cases hc : codeAmong pos ps.toList with
  | none =>
    refine PySem.W.kla_makeFunction (mg := X.mg) (c := c) (P := P) (ps := ps) (closure_ok hfree) I.ok.glob (I.mod.glob.keeps I.bk) hcode (TB.code.keeps I.bk) hPo ht hc TB.gP hB fun c2 ctv h' tk hx hge hlt hrec htb => ?_
    obtain ⟨c3, oc, vs, t, e2, hoc, hd, hv⟩ := hrec
    cases e2
    have nC : H c2 = none := I.hok.fresh hge
    have I1 := inv_table (t' := tk) (more := #[rawInt pos.line, rawInt pos.col, .ref c2]) (h' := h') I hP (fun b o hb e => hx b o hb e) htb hge ⟨oc, vs, t, hoc, hd, hv⟩
    have nF := I1.hok.fresh (Nat.le_refl _)
    have I2 := track_fn (ci := lamI X params body scope fr) (cl := cloFrom X.env.cells scope.names []) (c := c2) (t' := tk) (doc := .none) (pm := (X.mg "__name__").getD .none) (ctv := ctv) I1 rfl
    exact h _ _ _ I2 (made_new (ci := lamI X params body scope fr) hT hP ht hn ha hu nC nF)
  | some cv =>
    obtain ⟨c2, e, hco⟩ := ha pos cv hc
    subst e
    rw [hn] at hco
    refine PySem.W.kla_makeFunctionHit (mg := X.mg) (c := c) (P := P) (ps := ps) (closure_ok hfree) I.ok.glob (I.mod.glob.keeps I.bk) hcode (TB.code.keeps I.bk) hPo ht hc hB fun ctv h' tk hx hsz => ?_
    have I1 : L2.Inv X pins σ H { s with heap := h', toks := tk } := I.kept hx
    have nF : H h'.objs.size = none := I1.hok.fresh (Nat.le_refl _)
    have I2 := track_fn (ci := lamI X params body scope fr) (cl := cloFrom X.env.cells scope.names []) (c := c2) (t' := tk) (doc := .none) (pm := (X.mg "__name__").getD .none) (ctv := ctv) I1 rfl
    exact h _ _ _ I2 (made_hit (ci := lamI X params body scope fr) hT hco nF)
end
end TT
set_option Elab.async false
set_option linter.all false
set_option maxRecDepth 100000
set_option maxHeartbeats 2000000
/-! made functions: what the heap keeps of their cells -/
namespace TT
open PySem PySem.Spec PyProof.Rows L2 LamX NdefX

mutual
def hasClo : U → Bool
  | .clo _ _ _ => true
  | .tup l => hasCloL l
  | _ => false
def hasCloL : List U → Bool
  | [] => false
  | u :: r => hasClo u || hasCloL r
end
def cellClo : Cell → Bool
  | .lst l => hasCloL l
  | .dct l => l.any fun p => hasClo p.2
def stClo (st : Sto) : Bool := st.any cellClo
mutual
theorem hasOwn_clo : ∀ {u : U}, hasClo u = false → hasOwn u = false
  | .d _, _ => rfl
  | .ref _, _ => rfl
  | .fn _, _ => rfl
  | .clo _ _ _, h => by simp [hasClo] at h
  | .tup l, h => by
    simp only [hasClo] at h
    simp only [hasOwn]
    exact hasOwnL_clo h
theorem hasOwnL_clo : ∀ {u : List U}, hasCloL u = false → hasOwnL u = false
  | [], _ => rfl
  | u :: r, h => by
    simp only [hasCloL, Bool.or_eq_false_iff] at h
    simp only [hasOwnL, Bool.or_eq_false_iff]
    exact ⟨hasOwn_clo h.1, hasOwnL_clo h.2⟩
end
theorem cellOwn_clo {c : Cell} (h : cellClo c = false) : cellOwn c = false := by
  cases c with
  | lst l => exact hasOwnL_clo h
  | dct l =>
    simp only [cellClo, List.any_eq_false, Bool.not_eq_true] at h
    simp only [cellOwn, List.any_eq_false, Bool.not_eq_true]
    exact fun p hp => hasOwn_clo (h p hp)
theorem stOwn_clo {st : Sto} (h : stClo st = false) : stOwn st = false := by
  unfold stClo at h
  unfold stOwn
  rw [List.any_eq_false] at h ⊢
  exact fun c hc => by
    have := h c hc
    rw [Bool.not_eq_true] at this ⊢
    exact cellOwn_clo this

/-! ## data only -/
def LeD (H H' : Hp) : Prop := ∀ b o, H b = some o → dat o → H' b = some o
theorem SqT.leD {K : PySem.W.Frag} {H H' : Hp} {a : Addr} {xs : List V} (e : LeD H H') (h : SqT K H a xs) : SqT K H' a xs := by
  rcases h with (h | ⟨o, h⟩) | h
  · exact .inl (.inl (e _ _ h dat_tup))
  · exact .inl (.inr ⟨o, e _ _ h dat_frz⟩)
  · exact .inr h
theorem Rd.leD {H H' : Hp} {a : Addr} {u : HO} (e : LeD H H') (n : dat u) (h : Rd H a u) : Rd H' a u := by
  rcases h with h | ⟨o, h⟩
  · exact .inl (e _ _ h n)
  · exact .inr ⟨o, e _ _ h dat_frz⟩
mutual
theorem RepD.leD {K : PySem.W.Frag} {H H' : Hp} (e : LeD H H') : ∀ {d : D} {v : V}, RepD K H d v → RepD K H' d v
  | _, _, .none => .none
  | _, _, .bool b => .bool b
  | _, _, .int i => .int i
  | _, _, .str x => .str x
  | _, _, .tuple s z r => .tuple (SqT.leD e s) z (RepDs.leD e r)
  | _, _, .list s z r => .list (Rd.leD e dat_lst s) z (RepDs.leD e r)
  | _, _, .dK s r => .dK (Rd.leD e dat_dK s) (RepK.leD e r)
  | _, _, .dT s r => .dT (Rd.leD e dat_dT s) (RepT.leD e r)
theorem RepDs.leD {K : PySem.W.Frag} {H H' : Hp} (e : LeD H H') : ∀ {d : List D} {v : List V}, RepDs K H d v → RepDs K H' d v
  | _, _, .nil => .nil
  | _, _, .cons a b => .cons (RepD.leD e a) (RepDs.leD e b)
theorem RepK.leD {K : PySem.W.Frag} {H H' : Hp} (e : LeD H H') : ∀ {d : List (D × D)} {v : List (Key × V)}, RepK K H d v → RepK K H' d v
  | _, _, .nil => .nil
  | _, _, .cons k a b => .cons k (RepD.leD e a) (RepK.leD e b)
theorem RepT.leD {K : PySem.W.Frag} {H H' : Hp} (e : LeD H H') : ∀ {d : List (D × D)} {v : List (List Key × V)}, RepT K H d v → RepT K H' d v
  | _, _, .nil => .nil
  | _, _, .cons k a b => .cons k (RepD.leD e a) (RepT.leD e b)
end
section
variable {G : Gd}
mutual
theorem RepU.leD {H H' : Hp} {ρ : List Addr} {own own' : OwnV} (e : LeD H H') : ∀ {u : U} {v : V}, RepU G H ρ own u v → hasClo u = false → RepU G H' ρ own' u v
  | _, _, .d r, _ => .d (r.leD e)
  | _, _, .ref h, _ => .ref h
  | _, _, .fn h, _ => .fn h
  | _, _, .tup s z r, h => .tup (SqT.leD e s) z (RepUs.leD e r (by simpa only [hasClo] using h))
  | _, _, .cloO k h h' co q r, z => by simp [hasClo] at z
  | _, _, .cloH k h h' co q r, z => by simp [hasClo] at z
theorem RepUs.leD {H H' : Hp} {ρ : List Addr} {own own' : OwnV} (e : LeD H H') : ∀ {u : List U} {v : List V}, RepUs G H ρ own u v → hasCloL u = false → RepUs G H' ρ own' u v
  | _, _, .nil, _ => .nil
  | _, _, .cons a b, h => by
    simp only [hasCloL, Bool.or_eq_false_iff] at h
    exact .cons (RepU.leD e a h.1) (RepUs.leD e b h.2)
end
theorem Paired.mapM {α β : Type} {F G : α → β → Prop} : ∀ {l₁ : List α} {l₂ : List β}, Paired F l₁ l₂ → (∀ a b, a ∈ l₁ → F a b → G a b) → Paired G l₁ l₂
  | _, _, .nil, _ => .nil
  | _, _, .cons r t, f => .cons (f _ _ (List.mem_cons_self ..) r) (Paired.mapM t fun a b m => f a b (List.mem_cons_of_mem _ m))
theorem RepC.leD {H H' : Hp} {ρ : List Addr} {own own' : OwnV} (e : LeD H H') {c : Cell} {o : HO} (r : RepC G H ρ own c o) (h : cellClo c = false) : RepC G H' ρ own' c o := by
  cases r with
  | lst z r => exact .lst z (r.leD e h)
  | dK r =>
    simp only [cellClo, List.any_eq_false, Bool.not_eq_true] at h
    exact .dK (Paired.mapM r fun p _ m z => ⟨z.1, z.2.leD e (h p m)⟩)
  | dT r =>
    simp only [cellClo, List.any_eq_false, Bool.not_eq_true] at h
    exact .dT (Paired.mapM r fun p _ m z => ⟨z.1, z.2.leD e (h p m)⟩)
theorem RepC.datO {H : Hp} {ρ : List Addr} {own : OwnV} {c : Cell} {o : HO} (r : RepC G H ρ own c o) : dat o := by
  cases r with
  | lst z r => exact dat_lst
  | dK r => exact dat_dK
  | dT r => exact dat_dT

/-! ## heaps that are told more, or less -/
def mns (cs : List Addr) (H : Hp) : Hp := fun b => if b ∈ cs then none else H b
def back (cs : List Addr) (H H' : Hp) : Hp := fun b => if b ∈ cs then H b else H' b
def pls (cs : List Addr) (h : Heap) (H : Hp) : Hp := fun b => if b ∈ cs then (h.get? b).map (CellO b) else H b
theorem mns_in {cs : List Addr} {H : Hp} {b : Addr} (h : b ∈ cs) : mns cs H b = none := by unfold mns; rw [if_pos h]
theorem mns_out {cs : List Addr} {H : Hp} {b : Addr} (h : b ∉ cs) : mns cs H b = H b := by unfold mns; rw [if_neg h]
theorem back_in {cs : List Addr} {H H' : Hp} {b : Addr} (h : b ∈ cs) : back cs H H' b = H b := by unfold back; rw [if_pos h]
theorem back_out {cs : List Addr} {H H' : Hp} {b : Addr} (h : b ∉ cs) : back cs H H' b = H' b := by unfold back; rw [if_neg h]
theorem pls_in {cs : List Addr} {h : Heap} {H : Hp} {b : Addr} (z : b ∈ cs) : pls cs h H b = (h.get? b).map (CellO b) := by unfold pls; rw [if_pos z]
theorem pls_out {cs : List Addr} {h : Heap} {H : Hp} {b : Addr} (z : b ∉ cs) : pls cs h H b = H b := by unfold pls; rw [if_neg z]
/-- the heap tells of each of cs that it is a cell -/
def Trk (cs : List Addr) (H : Hp) (h : Heap) : Prop := ∀ c ∈ cs, ∃ o v, H c = some (CellO c o) ∧ h.get? c = some o ∧ o.data = .cell v
theorem cell_code {h : Heap} {c : Addr} {o : Obj} {v : Option Value} {q : Str} (e : h.get? c = some o) (d : o.data = .cell v) : CellO c o ≠ CodeO c q := fun z => by
  unfold CellO CodeO at z
  have z2 := congrFun (HO.ext.inj z) h
  have z3 : h.get? c = some o := e
  rw [z2] at z3
  obtain ⟨oc, vs, t, h1, h2, h3⟩ := z3
  rw [e] at h1
  cases h1
  rw [d] at h2
  cases h2
theorem cell_dat {c : Addr} {o : Obj} : ¬ dat (CellO c o) := fun z => z.2 _ rfl
theorem Trk.leD {cs : List Addr} {H : Hp} {h : Heap} (t : Trk cs H h) : LeD H (mns cs H) := fun b o e d => by
  by_cases hb : b ∈ cs
  · obtain ⟨o', v, e1, _, _⟩ := t b hb
    rw [e1] at e
    cases e
    exact (cell_dat d).elim
  · rw [mns_out hb]; exact e
theorem vis_leD {B ρ : List Addr} {H H' : Hp} (e : LeD H H') : LeD (vis B ρ H) (vis B ρ H') := fun b o h d => by
  obtain ⟨h1, h2, h3⟩ := vis_some h
  exact vis_of h1 h2 (e b o h3 d)
theorem TabsN.mns {T : List NTab} {cs : List Addr} {H : Hp} {h : Heap} (x : TabsN T H) (t : Trk cs H h) : TabsN T (mns cs H) := fun p hp => by
  obtain ⟨ps, h1, h2, h3⟩ := x p hp
  refine ⟨ps, ?_, h2, fun pos cv hc => ?_⟩
  · rw [mns_out]
    · exact h1
    · intro z
      obtain ⟨o, v, e, _, _⟩ := t _ z
      rw [h1] at e
      cases e
  · obtain ⟨c, e1, e2⟩ := h3 pos cv hc
    refine ⟨c, e1, ?_⟩
    rw [mns_out]
    · exact e2
    · intro z
      obtain ⟨o, v, e, e3, e4⟩ := t _ z
      rw [e2] at e
      exact cell_code e3 e4 (Option.some.inj e).symm
theorem RelS.mns {B ρ : List Addr} {own own' : OwnV} {st : Sto} {cs : List Addr} {H : Hp} {h : Heap} (r : RelS G B ρ own st H) (t : Trk cs H h) (hc : stClo st = false) (hB : ∀ c ∈ cs, c ∉ B) : RelS G B ρ own' st (mns cs H) := by
  refine ⟨r.len, r.nd, fun n c hn => ?_, fun b hb => ?_, TT.TabsN.mns r.tabs t⟩
  · obtain ⟨a, o, h1, h2, h3⟩ := r.cell n c hn
    have hcc : cellClo c = false := by
      unfold stClo at hc
      rw [List.any_eq_false] at hc
      simpa using hc c (List.mem_of_getElem? hn)
    exact ⟨a, o, h1, t.leD _ _ h2 h3.datO, h3.leD (vis_leD t.leD) hcc⟩
  · obtain ⟨h1, o, h2, h3⟩ := r.hid b hb
    exact ⟨h1, o, by rw [mns_out (fun z => hB b z hb)]; exact h2, h3⟩
theorem RelS.sup {B ρ : List Addr} {own : OwnV} {st : Sto} {H H' : Hp} (r : RelS G B ρ own st H) (e : ∀ b o, H b = some o → H' b = some o) : RelS G B ρ own st H' :=
  ⟨r.len, r.nd, fun n c hn => by
    obtain ⟨a, o, h1, h2, h3⟩ := r.cell n c hn
    refine ⟨a, o, h1, e _ _ h2, h3.le (fun b o' h _ => ?_) (fun _ _ z => z) fun _ _ z => z⟩
    obtain ⟨z1, z2, z3⟩ := vis_some h
    exact vis_of z1 z2 (e _ _ z3), fun b hb => by
    obtain ⟨h1, o, h2, h3⟩ := r.hid b hb
    exact ⟨h1, o, e _ _ h2, h3⟩, r.tabs.ext e⟩
theorem vis_sup {B ρ : List Addr} {H H' : Hp} (e : ∀ b o, H b = some o → H' b = some o) : Le (vis B ρ H) (vis B ρ H') := fun b o h _ => by
  obtain ⟨z1, z2, z3⟩ := vis_some h
  exact vis_of z1 z2 (e _ _ z3)
section
variable {P : Program} {w : World} {K : PySem.W.Frag} {mg : Str → Option Value} {base : Heap} {A : Around} {outer : List Env} {s s' : Shared} {H H' : Hp} {cs fs : List Addr} {h h' B' : Heap}
theorem hok_mns (k : HOk P w H h) (t : ∀ c ∈ cs, ∃ φ, H c = some (.ext φ)) : HOk P w (mns cs H) h := fun b o e => by
  have hb : b ∉ cs := fun z => by rw [mns_in z] at e; cases e
  rw [mns_out hb] at e
  refine (k b o e).stay (fun _ _ _ q => q) (fun d q => ?_) fun d xs q => ?_
  · rw [mns_out]
    · exact q
    · intro z
      obtain ⟨φ, e1⟩ := t d z
      rw [q] at e1
      cases e1
  · rw [mns_out]
    · exact q
    · intro z
      obtain ⟨φ, e1⟩ := t d z
      rw [q] at e1
      cases e1
theorem Trk.ext (t : Trk cs H h) : ∀ c ∈ cs, ∃ φ, H c = some (.ext φ) := fun c hc => by
  obtain ⟨o, v, e, _, _⟩ := t c hc
  exact ⟨_, e⟩
theorem env0_mns (e0 : Env0 P w K mg base A outer s H) (t : Trk cs H s.heap) : Env0 P w K mg base A outer s (mns cs H) := by
  refine ⟨e0.frames, e0.mod, fun b o e => ⟨(e0.bs b o e).1, ?_⟩, e0.bsz, e0.funs, fun b hb => ?_, hok_mns e0.hok t.ext, e0.bare⟩
  · unfold mns; split
    · rfl
    · exact (e0.bs b o e).2
  · unfold mns; split
    · rfl
    · exact e0.frf b hb
theorem Trk.ne (t : Trk cs H h) {b : Addr} (n : H b = none) : b ∉ cs := fun z => by
  obtain ⟨o, v, e, _, _⟩ := t b z
  rw [n] at e
  cases e
theorem Trk.neO (t : Trk cs H h) {b : Addr} {o : HO} (n : H b = some o) (d : ∀ φ, o ≠ .ext φ) : b ∉ cs := fun z => by
  obtain ⟨o', v, e, _, _⟩ := t b z
  rw [n] at e
  cases e
  exact d _ rfl
theorem un_back (t : Trk cs H h) (u : Un fs [] (mns cs H) H' h h') : Un fs [] H (back cs H H') h h' where
  keep := fun b o e n hf hx => u.keep b o e (by rw [mns_out (t.ne n)]; exact n) hf hx
  slot := fun b o e n hf hx => u.slot b o e (by rw [mns_out (t.ne n)]; exact n) hf hx
  free := fun b o e n hx => by
    rw [back_out (t.ne n)]
    exact u.free b o e (by rw [mns_out (t.ne n)]; exact n) hx
  there := u.there
  tups := fun b xs e => by
    have z := t.neO e fun _ z => nomatch z
    rw [back_out z]
    exact u.tups b xs (by rw [mns_out z]; exact e)
  frzs := fun b o x e => by
    have z := t.neO e fun _ z => nomatch z
    rw [back_out z]
    exact u.frzs b o x (by rw [mns_out z]; exact e)
  tbls := fun b ps e => by
    have z := t.neO e fun _ z => nomatch z
    obtain ⟨more, q⟩ := u.tbls b ps (by rw [mns_out z]; exact e)
    exact ⟨more, by rw [back_out z]; exact q⟩
theorem ub_back (t : Trk cs H h) (u : UB fs (mns cs H) H' h B' h') : UB fs H (back cs H H') h B' h' where
  keep := fun b o e n hf => u.keep b o e (by rw [mns_out (t.ne n)]; exact n) hf
  slot := u.slot
  free := fun b o e n => by
    rw [back_out (t.ne n)]
    exact u.free b o e (by rw [mns_out (t.ne n)]; exact n)
  there := u.there
  tups := fun b xs e => by
    have z := t.neO e fun _ z => nomatch z
    rw [back_out z]
    exact u.tups b xs (by rw [mns_out z]; exact e)
  frzs := fun b o x e => by
    have z := t.neO e fun _ z => nomatch z
    rw [back_out z]
    exact u.frzs b o x (by rw [mns_out z]; exact e)
  tbls := fun b ps e => by
    have z := t.neO e fun _ z => nomatch z
    obtain ⟨more, q⟩ := u.tbls b ps (by rw [mns_out z]; exact e)
    exact ⟨more, by rw [back_out z]; exact q⟩
theorem back_sup (n : ∀ c ∈ cs, H' c = none) : ∀ b o, H' b = some o → back cs H H' b = some o := fun b o e => by
  rw [back_out]
  · exact e
  · intro z
    rw [n b z] at e
    cases e
theorem hok_back (k : HOk P w H' h') (n : ∀ c ∈ cs, H' c = none) (t : ∀ c ∈ cs, ∃ o, H c = some (CellO c o) ∧ h'.get? c = some o) : HOk P w (back cs H H') h' := fun b o e => by
  by_cases hb : b ∈ cs
  · obtain ⟨ob, e1, e2⟩ := t b hb
    rw [back_in hb, e1] at e
    cases e
    exact ⟨e2, ⟨ob, e2⟩, fun h1 h2 x st => st _ x⟩
  · rw [back_out hb] at e
    exact (k b o e).stay (fun _ _ _ q => q) (fun d q => back_sup n d _ q) fun d xs q => back_sup n d _ q
theorem stp_back {ρ ρ' : List Addr} (t : Trk cs H h) (s : Stp ρ (mns cs H) ρ' H') (n : ∀ c ∈ cs, H' c = none) (hρ : ∀ b ∈ ρ', H' b ≠ none) : Stp ρ H ρ' (back cs H H') where
  keep := fun b o e nb no => by
    by_cases hb : b ∈ cs
    · rw [back_in hb]; exact e
    · rw [back_out hb]; exact s.keep b o (by rw [mns_out hb]; exact e) nb no
  dom := fun b e => by
    by_cases hb : b ∈ cs
    · rw [back_in hb] at e; exact e
    · rw [back_out hb] at e
      have := s.dom b e
      rw [mns_out hb] at this
      exact this
  pre := s.pre
  new := fun b hb => by
    rcases s.new b hb with z | z
    · exact .inl z
    · have hb2 : b ∉ cs := fun zz => hρ b hb (n b zz)
      rw [mns_out hb2] at z
      exact .inr z
/-- what is owed behind the body, which knows less -/
theorem postF_back {B ρ : List Addr} {Q : VK} {E : XK} {r : Res U} (t : Trk cs H h) (p : PostF G B ρ H Q E r) :
    PostF G B ρ (mns cs H) (fun v H' => (∀ c ∈ cs, H' c = none) → Q v (back cs H H')) (fun c d H' => (∀ c ∈ cs, H' c = none) → E c d (back cs H H')) r := by
  cases r with
  | ok u st' =>
    intro ρ' H' v s S rv n
    exact p ρ' _ v (stp_back t s n fun b hb => by
      obtain ⟨o, e, _⟩ := S.mem hb
      rw [e]; exact fun z => nomatch z) (S.sup (back_sup n)) (rv.le (vis_sup (back_sup n)) (fun _ _ z => z) fun _ _ z => z)
  | exn c u st' =>
    intro ρ' H' C d s S hx n
    refine p ρ' _ C d (stp_back t s n fun b hb => by
      obtain ⟨o, e, _⟩ := S.mem hb
      rw [e]; exact fun z => nomatch z) (S.sup (back_sup n)) ⟨hx.1, ?_⟩
    cases u with
    | some u =>
      obtain ⟨_, dd, v, x2, x3, x4⟩ := hx
      exact ⟨dd, v, x2, back_sup n _ _ x3, x4.le (vis_sup (back_sup n)) (fun _ _ z => z) fun _ _ z => z⟩
    | none => exact hx.2
  | bad => exact p
theorem cr_back {r : Result} {Q : VK} {E : XK} (t : Trk cs H s.heap) (hf : ∀ c ∈ cs, c ∉ frs outer)
    (x : CR (L2.CX P w) outer P w (mns cs H) s (fun v H' => (∀ c ∈ cs, H' c = none) → Q v (back cs H H')) (fun c d H' => (∀ c ∈ cs, H' c = none) → E c d (back cs H H')) r s') :
    CR (L2.CX P w) outer P w H s Q E r s' := by
  cases r with
  | ok fl =>
    cases fl with
    | ret u =>
      obtain ⟨v, H', os, ag, un, hok, rv, q⟩ := x
      have n : ∀ c ∈ cs, H' c = none := fun c hc => by
        obtain ⟨o, _, _, e, _⟩ := t c hc
        exact un.free c o e (mns_in hc) (by simp)
      refine ⟨v, back cs H H', os, ag, un_back t un, hok_back hok n fun c hc => ?_, rv, q n⟩
      obtain ⟨o, _, e1, e, _⟩ := t c hc
      exact ⟨o, e1, un.keep c o e (mns_in hc) (hf c hc) (by simp)⟩
    | next => exact False.elim x
    | brk => exact False.elim x
    | cont => exact False.elim x
  | error e =>
    obtain ⟨a, B, H', cls, d, e1, fl, hok, ub, na, os, ag, hE⟩ := (show L2.CX P w outer (mns cs H) s _ e s' from x)
    have n : ∀ c ∈ cs, H' c = none := fun c hc => by
      obtain ⟨o, _, _, e, _⟩ := t c hc
      exact ub.free c o e (mns_in hc)
    have k : ∀ c ∈ cs, ∃ o, H c = some (CellO c o) ∧ B.get? c = some o := fun c hc => by
      obtain ⟨o, _, e1, e, _⟩ := t c hc
      exact ⟨o, e1, ub.keep c o e (mns_in hc) (hf c hc)⟩
    refine (show L2.CX P w outer H s E e s' from ⟨a, B, back cs H H', cls, d, e1, fl, hok_back hok n k, ub_back t ub, ?_, os, ag, hE n⟩)
    rw [back_out]
    · exact na
    · intro z
      obtain ⟨o, _, e⟩ := k a z
      rw [fl.2.1] at e
      cases e
end
end
end TT
set_option Elab.async false
set_option linter.all false
set_option maxRecDepth 100000
set_option maxHeartbeats 2000000
/-! calls of made functions; calls that hand them on -/
namespace TT
open PySem PySem.Spec PyProof.Rows L2 LamX NdefX

/-- a frame's cells are new: neither the base's nor frames -/
structure CellsNew (X : Cx) : Prop where
  base : ∀ y c, X.env.cells.lookup y = some c → X.base.get? c = none
  frs : ∀ y c, X.env.cells.lookup y = some c → c ∉ frs X.stack
  kin : ∀ y c, X.env.cells.lookup y = some c → X.env.scope.names.lookup y = some .cell ∨ X.env.scope.names.lookup y = some .free
theorem cellsFrom_in {y : Str} {c : Addr} : ∀ {names : List (Str × NameKind)} {n : Nat} {acc : List (Str × Addr)}, (y, c) ∈ cellsFrom n names acc → (y, c) ∈ acc ∨ ((y, NameKind.cell) ∈ names ∧ n ≤ c)
  | [], _, _, h => .inl h
  | (x, k) :: r, n, acc, h => by
    unfold cellsFrom at h
    split at h
    · rename_i hk
      rcases cellsFrom_in h with z | ⟨z1, z2⟩
      · rcases List.mem_cons.mp z with e | z
        · cases e
          have hk2 : k = .cell := by simpa using hk
          exact .inr ⟨by rw [hk2]; exact List.mem_cons_self .., Nat.le_refl _⟩
        · exact .inl z
      · exact .inr ⟨List.mem_cons_of_mem _ z1, by omega⟩
    · rcases cellsFrom_in h with z | ⟨z1, z2⟩
      · exact .inl z
      · exact .inr ⟨List.mem_cons_of_mem _ z1, z2⟩
def cellNamesB (sc : Scope) : Bool := sc.names.all fun y => !decide (y.2 = .cell) || decide (sc.names.lookup y.1 = some .cell)
theorem frs_lt {P : Program} {w : World} {K : PySem.W.Frag} {mg : Str → Option Value} {base : Heap} {A : Around} {outer : List Env} {s : Shared} {H : Hp} (e0 : Env0 P w K mg base A outer s H) {b : Addr} (hb : b ∈ frs outer) : b < s.heap.objs.size := by
  obtain ⟨_, o, e, _⟩ := e0.funs.mem hb
  exact Heap.lt_size e
theorem base_lt {P : Program} {w : World} {K : PySem.W.Frag} {mg : Str → Option Value} {base : Heap} {A : Around} {outer : List Env} {s : Shared} {H : Hp} (e0 : Env0 P w K mg base A outer s H) {b : Addr} {o : Obj} (hb : base.get? b = some o) : b < s.heap.objs.size := Heap.lt_size (e0.bs b o hb).1
theorem cellsNew_def {CX : CXT} {P : Program} {w : World} {K : PySem.W.Frag} {mg : Str → Option Value} {base : Heap} {N : List Str} {qual : Str} {sc : Scope} {f : Addr} {cdv : Value} {A : Around} {outer : List Env} {s : Shared} {H : Hp} {E : XK} (e0 : Env0 P w K mg base A outer s H) (hc : cellNamesB sc = true) :
    CellsNew (cxOf CX P w K mg base N qual sc f cdv A outer s H E) := by
  have at_ : ∀ y c, (cellsFrom (s.heap.objs.size + 1) sc.names []).lookup y = some c → (y, NameKind.cell) ∈ sc.names ∧ s.heap.objs.size + 1 ≤ c := fun y c h => by
    rcases cellsFrom_in (PySem.mem_of_lookup h) with z | z
    · cases z
    · exact z
  refine ⟨fun y c h => ?_, fun y c h hf => ?_, fun y c h => ?_⟩
  · cases q : base.get? c with
    | none => exact q
    | some o =>
      have h1 := base_lt e0 q
      have h2 := (at_ y c h).2
      exact (Nat.lt_irrefl c (Nat.lt_of_lt_of_le h1 (Nat.le_of_succ_le h2))).elim
  · have h2 := (at_ y c h).2
    have hf : c ∈ frs (envOfC qual sc s.heap.objs.size f cdv :: outer) := hf
    rcases List.mem_cons.mp (show c ∈ s.heap.objs.size :: frs outer from hf) with e | e
    · rw [e] at h2
      exact Nat.lt_irrefl _ h2
    · have h1 := frs_lt e0 e
      exact Nat.lt_irrefl c (Nat.lt_of_lt_of_le h1 (Nat.le_of_succ_le h2))
  · have h1 := (at_ y c h).1
    unfold cellNamesB at hc
    rw [List.all_eq_true] at hc
    have := hc _ h1
    simp only [Bool.or_eq_true, Bool.not_eq_true', decide_eq_false_iff_not, decide_eq_true_eq] at this
    exact .inl (this.resolve_left fun z => z trivial)

/-! ## a body's end -/
def finS : RS → Res U
  | .nx _ st => if stOwn st = false then .ok (.d .none) st else .bad
  | .rt u st => if hasOwn u = false ∧ stOwn st = false then .ok u st else .bad
  | .exn c u _ st => (match u with
    | some u => if hasOwn u = false ∧ stOwn st = false then .exn c (some u) st else .bad
    | none => if stOwn st = false then .exn c none st else .bad)
  | _ => .bad
section
variable {G : Gd}
theorem fin_post {oS : OwnS} {B ρ : List Addr} {H : Hp} {Q : VK} {E : XK} {r : RS} (q : PostF G B ρ H Q E (finS r)) : PostS oS G (fun cls d _ H => E cls d H) B ρ H { nx := fun _ H' => Q .non H', rt := Q } r := by
  unfold finS at q
  cases r with
  | nx e2 st2 =>
    dsimp only at q
    split at q
    · rename_i hno
      exact fun ρ' H' σ' s' R' => q ρ' H' .non s' (R'.sto.noOwn hno) (.d .none)
    · exact q.elim
  | rt u2 st2 =>
    dsimp only at q
    split at q
    · rename_i hno
      exact fun ρ' H' σ' v s' R' rv => q ρ' H' v s' (R'.noOwn hno.2) (rv.noOwn hno.1)
    · exact q.elim
  | exn c2 u2 e2 st2 =>
    dsimp only at q
    intro ρ' H' σ' C d s' R' hx
    split at q
    · split at q
      · rename_i hno
        obtain ⟨x1, dd, v, x2, x3, x4⟩ := hx
        exact q ρ' H' C d s' (R'.sto.noOwn hno.2) ⟨x1, dd, v, x2, x3, x4.noOwn hno.1⟩
      · exact q.elim
    · split at q
      · rename_i hno
        exact q ρ' H' C d s' (R'.sto.noOwn hno) hx
      · exact q.elim
  | bk e s => exact q.elim
  | ct e s => exact q.elim
  | bad => exact q.elim
theorem fin_postE {oS : OwnS} {B ρ : List Addr} {en : Nv} {σ : L2.St} {H : Hp} {Q : VK} {E : XK} {r : Res U} (q : PostF G B ρ H Q E (match r with
    | .ok u st => if hasOwn u = false ∧ stOwn st = false then .ok u st else .bad
    | .exn c u st => (match u with
      | some u => if hasOwn u = false ∧ stOwn st = false then .exn c (some u) st else .bad
      | none => if stOwn st = false then .exn c none st else .bad)
    | .bad => .bad)) : PostE oS G (fun cls d _ H => E cls d H) B ρ en σ H (fun u ρ' H' _ => ∀ v, RepU G (vis B ρ' H') ρ' (oS σ) u v → Q v H') r := by
  cases r with
  | ok u2 st2 =>
    dsimp only at q
    split at q
    · rename_i hno
      exact fun ρ' H' s' R' v rv => q ρ' H' v s' (R'.sto.noOwn hno.2) (rv.noOwn hno.1)
    · exact q.elim
  | exn c2 u2 st2 =>
    dsimp only at q
    intro ρ' H' C d s' R' hx
    split at q
    · split at q
      · rename_i hno
        obtain ⟨x1, dd, v, x2, x3, x4⟩ := hx
        exact q ρ' H' C d s' (R'.noOwn hno.2) ⟨x1, dd, v, x2, x3, x4.noOwn hno.1⟩
      · exact q.elim
    · split at q
      · rename_i hno
        exact q ρ' H' C d s' (R'.noOwn hno) hx
      · exact q.elim
  | bad => exact q.elim
end
def finE : Res U → Res U
  | .ok u st => if hasOwn u = false ∧ stOwn st = false then .ok u st else .bad
  | .exn c u st => (match u with
    | some u => if hasOwn u = false ∧ stOwn st = false then .exn c (some u) st else .bad
    | none => if stOwn st = false then .exn c none st else .bad)
  | .bad => .bad
/-! ## code -/
abbrev CapR (cl : List (Str × Addr)) (H : Hp) : Str → V → Prop := fun y v => ∃ c o u, cl.lookup y = some c ∧ H c = some (CellO c o) ∧ o.data = .cell (some u) ∧ RelV v u
structure COk (P : Program) (w : World) (K : PySem.W.Frag) (mg : Str → Option Value) (base : Heap) (G : Gd) (k kc n : Nat) (Fc : List U → SemF) : Prop where
  run : ∀ (A : Around) (outer : List Env) (s : Shared) (H : Hp) (f c : Addr) (ci : CodeI) (cl : List (Str × Addr)) (caps uu : List U) (cvs vs : List V) (us : List Value) (B ρ : List Addr) (st : Sto) (Q : VK) (E : XK),
    RoomG k A → Env0 P w K mg base A outer s H → G.cod kc = some ci → vis B ρ H f = some (CloO f ci cl c) → vis B ρ H c = some (CodeO c ci.qual) → CapsOk ci.fr cl →
    Paired (CapR cl (vis B ρ H)) ci.fr cvs → RepUs G (vis B ρ H) ρ noOwn caps cvs → Vals vs us → uu.length = n → RelS G B ρ noOwn st H → RepUs G (vis B ρ H) ρ noOwn uu vs →
    hasCloL uu = false → stClo st = false → hasCloL caps = false → PostF G B ρ H Q E (Fc caps uu st) → codeAny (model P w) A (.call (.ref f) ⟨us, []⟩) (CR (L2.CX P w) outer P w H s Q E) s
def runC (n : Nat) (f : SemS) : List U → SemF := fun caps us st => finS (f (us.map some ++ (caps.map some ++ List.replicate (n - us.length - caps.length) none)) st)
def runCE (n : Nat) (f : SemE) : List U → SemF := fun caps us st => finE (f (us.map some ++ (caps.map some ++ List.replicate (n - us.length - caps.length) none)) st)
section
variable {P : Program} {w : World} {K : PySem.W.Frag} {mg : Str → Option Value} {base : Heap} {G : Gd} {N ps : List Str} {k kc : Nat}
theorem COk.mono {j n : Nat} {Fc : List U → SemF} (h : COk P w K mg base G j kc n Fc) (hj : j ≤ k) : COk P w K mg base G k kc n Fc :=
  ⟨fun A outer s H f c ci cl caps uu cvs vs us B ρ st Q E hr => h.run A outer s H f c ci cl caps uu cvs vs us B ρ st Q E (hr.mono hj)⟩
theorem Paired.len {α β : Type} {F : α → β → Prop} : ∀ {l₁ : List α} {l₂ : List β}, Paired F l₁ l₂ → l₁.length = l₂.length
  | _, _, .nil => rfl
  | _, _, .cons _ t => by rw [List.length_cons, List.length_cons, Paired.len t]
theorem Paired.at {α β : Type} {F : α → β → Prop} : ∀ {l₁ : List α} {l₂ : List β}, Paired F l₁ l₂ → ∀ {i : Nat} {a : α}, l₁[i]? = some a → ∃ b, l₂[i]? = some b ∧ F a b
  | _, _, .nil, _, _, h => by simp at h
  | _, _, .cons r t, 0, _, h => by
    simp at h
    cases h
    exact ⟨_, rfl, r⟩
  | _, _, .cons r t, i + 1, _, h => by
    obtain ⟨b, h1, h2⟩ := Paired.at t (i := i) (by simpa using h)
    exact ⟨b, by simpa using h1, h2⟩
def capA (fr : List Str) (cl : List (Str × Addr)) : List Addr := fr.filterMap fun y => cl.lookup y
theorem capA_mem {fr : List Str} {cl : List (Str × Addr)} {c : Addr} : c ∈ capA fr cl ↔ ∃ y ∈ fr, cl.lookup y = some c := by
  unfold capA
  rw [List.mem_filterMap]
theorem capA_trk {fr : List Str} {cl : List (Str × Addr)} {H : Hp} {h : Heap} {cvs : List V} (hok : HOk P w H h) (p : Paired (CapR cl H) fr cvs) : Trk (capA fr cl) H h := fun c hc => by
  obtain ⟨y, hy, e⟩ := capA_mem.mp hc
  obtain ⟨i, hi⟩ := List.getElem?_of_mem hy
  obtain ⟨v, _, c', o, u, e1, e2, e3, _⟩ := Paired.at p hi
  rw [e] at e1
  cases e1
  obtain ⟨z, _, _⟩ := hok c _ e2
  exact ⟨o, _, e2, z, e3⟩
theorem capA_cells {fr : List Str} {cl : List (Str × Addr)} {H : Hp} {h : Heap} {cvs : List V} (hok : HOk P w H h) (co : CapsOk fr cl) (p : Paired (CapR cl H) fr cvs) : CellsAt cl fr (cvs.map some) h (mns (capA fr cl) H) := by
  refine ⟨by rw [List.length_map, Paired.len p], fun y c e => ⟨mns_in (capA_mem.mpr ⟨y, co.mem y c e, e⟩), ?_⟩, co.inj, fun i y hi => ?_⟩
  · obtain ⟨o, v, _, e2, e3⟩ := capA_trk hok p c (capA_mem.mpr ⟨y, co.mem y c e, e⟩)
    exact ⟨v, o, e2, e3⟩
  · obtain ⟨v, hv, c, o, u, e1, e2, e3, rv⟩ := Paired.at p hi
    refine ⟨c, e1, fun v' hv' => ?_⟩
    rw [List.getElem?_map, hv] at hv'
    cases hv'
    obtain ⟨z, _, _⟩ := hok c _ e2
    exact ⟨u, rv, o, z, e3⟩
theorem startF_rel {B ρ : List Addr} {us caps : List U} {vs cvs : List V} {st : Sto} {H : Hp} (S : RelS G B ρ noOwn st H) (r : RepUs G (vis B ρ H) ρ noOwn us vs) (rc : RepUs G (vis B ρ H) ρ noOwn caps cvs) (oS : OwnS) (hl : us.length + caps.length ≤ N.length) :
    Rel oS G B ρ (us.map some ++ (caps.map some ++ List.replicate (N.length - us.length - caps.length) none)) st (startF N vs (cvs.map some)) H := by
  have l1 := r.length
  have l2 := rc.length
  refine ⟨S.own fun _ _ z => z.elim, by unfold startF; simp [r.length, rc.length], fun i u hu => ?_⟩
  unfold startF
  by_cases hi : i < us.length
  · rw [List.getElem?_append_left (by simpa using hi), List.getElem?_map] at hu
    cases e : us[i]? with
    | none => rw [e] at hu; cases hu
    | some u' =>
      rw [e] at hu
      cases hu
      obtain ⟨v, hv, rv⟩ := r.get e
      refine ⟨v, ?_, rv.le (Le.refl _) (fun _ _ z => z) fun _ _ z => z.elim⟩
      rw [List.getElem?_append_left (by simp; omega), List.getElem?_map, hv]
      rfl
  · rw [List.getElem?_append_right (by simpa using hi), List.length_map] at hu
    by_cases hj : i - us.length < caps.length
    · rw [List.getElem?_append_left (by simpa using hj), List.getElem?_map] at hu
      cases e : caps[i - us.length]? with
      | none => rw [e] at hu; cases hu
      | some u' =>
        rw [e] at hu
        cases hu
        obtain ⟨v, hv, rv⟩ := rc.get e
        refine ⟨v, ?_, rv.le (Le.refl _) (fun _ _ z => z) fun _ _ z => z.elim⟩
        have ei : i - (vs.map some).length = i - us.length := by rw [List.length_map, l1]
        rw [List.getElem?_append_right (by simp; omega), ei, List.getElem?_append_left (by simp; omega), List.getElem?_map, hv]
        rfl
    · rw [List.getElem?_append_right (by simpa using hj), List.getElem?_replicate] at hu
      split at hu <;> cases hu
abbrev nfOf (ci : CodeI) (b : List Stmt) (cl : List (Str × Addr)) (c : Addr) : NF := ⟨ci.name, ci.qual, ci.params, b, ci.scope, cl, c⟩
theorem cellsNew_n {CX : CXT} {F : NF} {f : Addr} {A : Around} {outer : List Env} {s : Shared} {H0 H : Hp} {E : XK} {fr : List Str} (e0 : Env0 P w K mg base A outer s H0) (S : NScope N ps fr F.scope) (t : Trk (capA fr F.cl) H0 s.heap) (co : CapsOk fr F.cl) : CellsNew (ncx CX P w K mg base N F f A outer s H E) := by
  have at_ : ∀ y c, F.cl.lookup y = some c → ∃ o v, H0 c = some (CellO c o) ∧ s.heap.get? c = some o ∧ o.data = .cell v := fun y c h => t c (capA_mem.mpr ⟨y, co.mem y c h, h⟩)
  refine ⟨fun y c h => ?_, fun y c h hf => ?_, fun y c h => .inr (S.frk y (co.mem y c h))⟩
  · obtain ⟨o, v, e1, e2, e3⟩ := at_ y c h
    cases q : base.get? c with
    | none => exact q
    | some ob =>
      rw [(e0.bs c ob q).2] at e1
      cases e1
  · obtain ⟨o, v, e1, e2, e3⟩ := at_ y c h
    rcases List.mem_cons.mp (show c ∈ s.heap.objs.size :: frs outer from hf) with e | e
    · have h1 := Heap.lt_size e2
      rw [e] at h1
      exact Nat.lt_irrefl _ h1
    · rw [e0.frf c e] at e1
      cases e1
/-- THE RULE for a nested def: its body -/
theorem cok_of {ci : CodeI} {body : List Stmt} {fb : SemS} (hcod : G.cod kc = some ci) (hbd : ci.body = .stmts body) (S : NScope N ps ci.fr ci.scope) (hb : ∀ (F : NF) (doc pm ctv : Value) (us : List Value), F.params = ci.params → us.length = ps.length → bindArgs (F.fd doc pm ctv) ⟨us, []⟩ = pure (ps.zip us))
    (hbody : ∀ (A : Around) (outer : List Env) (s : Shared) (H : Hp) (E : XK) (f c : Addr) (cl : List (Str × Addr)), RoomG k (A.deeper (envF (nfOf ci body cl c) f s.heap.objs.size)) → (∀ y, y ∉ ci.fr → cl.lookup y = none) →
      ∀ X, X = ncx (L2.CX P w) P w K mg base N (nfOf ci body cl c) f A outer s H E → Takes X (fun cls d _ H => E cls d H) → PassesOwn (model X.prog X.w) X.A X.env X.xe → CellsNew X →
      SL X (ownV X) G (fun cls d _ H => E cls d H) body fb) : COk P w K mg base G (k + 1) kc ps.length (runC N.length fb) := by
  refine ⟨fun A outer s H f c ci' cl caps uu cvs vs us B ρ st Q E hr e0 hc' hf hc co pc rc r hl SS ru nu ns nc q => ?_⟩
  rw [hcod] at hc'
  cases hc'
  have hfH := (vis_some hf).2.2
  have hcH := (vis_some hc).2.2
  have pcH : Paired (CapR cl H) ci.fr cvs := Paired.mapP pc fun y v ⟨c, o, u, z1, z2, z3⟩ => ⟨c, o, u, z1, (vis_some z2).2.2, z3⟩
  have t := capA_trk e0.hok pcH
  have tB : ∀ b ∈ capA ci.fr cl, b ∉ B := fun b hb => by
    obtain ⟨y, hy, e⟩ := capA_mem.mp hb
    obtain ⟨i, hi⟩ := List.getElem?_of_mem hy
    obtain ⟨v, _, c', o, u, e1, e2, _⟩ := Paired.at pc hi
    rw [e] at e1
    cases e1
    exact (vis_some e2).1
  have hfr : ∀ b ∈ capA ci.fr cl, b ∉ frs outer := fun b hb hf => by
    obtain ⟨o, v, e, _, _⟩ := t b hb
    rw [e0.frf b hf] at e
    cases e
  have e1 := env0_mns e0 t
  have C := capA_cells e0.hok co pcH
  have lim : s.heap.NoLimit := e0.mod.nolimit.keeps fun b o e => (e0.bs b o e).1
  have hvl : vs.length = ps.length := by rw [← ru.length, hl]
  obtain ⟨⟨od, sl, doc, pm, ctv, ho⟩, _, _⟩ := e0.hok f _ hfH
  have q2 := postF_back t q
  refine codeAny_mono ?_ fun r' s' => cr_back t hfr
  refine codeAny_call_function (body := body) hr.room.depth ho rfl S.co S.gen hbd (codeO_at e0.hok hcH) ?_
  have hbb := hb (nfOf ci body cl c) doc pm ctv us rfl (by rw [← r.length]; exact hvl)
  have hbb2 : bindArgs { name := ci.name, qualname := ci.qual, params := ci.params, body := ci.body, scope := ci.scope, globals := mainGlobals, closure := cl, defaults := .none, kwdefaults := .none, doc := doc, pyModule := pm, annotations := none, code := .ref c, closureTuple := ctv, builtins := builtinsNs } ⟨us, []⟩ = pure (ps.zip us) := by
    rw [hbd]; exact hbb
  rw [hbb2]
  refine wpAny_pure (wpAny_newFunctionEnv S.nocell (fun ⟨n, _⟩ hy => S.par n (List.of_mem_zip hy).1) (fun h₁ hns hsb => ⟨lim.fresh _ hsb, ?_⟩) S.kind)
  show codeAny _ _ (.func body (envF (nfOf ci body cl c) f s.heap.objs.size)) _ _
  refine codeAny_func ?_
  have kp : ∀ b o, s.heap.get? b = some o → h₁.get? b = some o := fun b o e => hsb.extBut b o (Nat.ne_of_lt (Heap.lt_size e)) (Heap.get?_push_of_some _ e)
  have bod := hbody A outer s (mns (capA ci.fr cl) H) (fun cl' d H' => (∀ b ∈ capA ci.fr cl, H' b = none) → E cl' d (back (capA ci.fr cl) H H')) f c cl (hr.deeper _) (fun y hy => by
    cases e : cl.lookup y with
    | none => rfl
    | some b => exact (hy (co.mem y b e)).elim) _ rfl (takes_of rfl rfl rfl rfl) (passes_of rfl) (cellsNew_n (F := nfOf ci body cl c) e0 S t co)
  have I : Inv (ncx (L2.CX P w) P w K mg base N (nfOf ci body cl c) f A outer s (mns (capA ci.fr cl) H) (fun cl' d H' => (∀ b ∈ capA ci.fr cl, H' b = none) → E cl' d (back (capA ci.fr cl) H H'))) [] (startF N vs (cvs.map some)) (mns (capA ci.fr cl) H) { s with heap := h₁, toks := s.toks + (ps.zip us).length } := inv_startN (F := nfOf ci body cl c) S hr.room.hd e1 hvl r C hns kp
  have hN : uu.length + caps.length ≤ N.length := by
    have z := congrArg List.length S.pre
    have l1 := Paired.len pcH
    have l2 := rc.length
    rw [List.length_take, List.length_append] at z
    omega
  have SM := SS.mns (own' := noOwn) t ns tB
  have R := startF_rel (N := N) SM (ru.leD (vis_leD t.leD) nu) (rc.leD (vis_leD t.leD) nc) (ownV (ncx (L2.CX P w) P w K mg base N (nfOf ci body cl c) f A outer s (mns (capA ci.fr cl) H) (fun cl' d H' => (∀ b ∈ capA ci.fr cl, H' b = none) → E cl' d (back (capA ci.fr cl) H H')))) hN
  refine wpAny_mono ((bod : PSs _ _ _).run [] _ (startF N vs (cvs.map some)) (mns (capA ci.fr cl) H) { nx := fun _ H' => (∀ c_1 ∈ capA ci.fr cl, H' c_1 = none) → Q .non (back (capA ci.fr cl) H H'), rt := fun v H' => (∀ c_1 ∈ capA ci.fr cl, H' c_1 = none) → Q v (back (capA ci.fr cl) H H') } I ⟨B, ρ, _, st, R, fin_post (Q := fun v H' => (∀ c_1 ∈ capA ci.fr cl, H' c_1 = none) → Q v (back (capA ci.fr cl) H H')) q2⟩) (fun fl s' hs => ?_) fun e s' hs => hs
  cases fl with
  | ret u =>
    obtain ⟨v, σ', H', J, rv, q⟩ := hs
    exact ⟨v, H', J.os, J.bare, J.base, J.hok, rv, q⟩
  | next =>
    obtain ⟨σ', H', J, q⟩ := hs
    exact ⟨.non, H', J.os, J.bare, J.base, J.hok, rfl, q⟩
  | brk =>
    obtain ⟨_, _, _, q⟩ := hs
    exact False.elim q
  | cont =>
    obtain ⟨_, _, _, q⟩ := hs
    exact False.elim q
theorem bind_congr {x y : FuncData} {a : Args} (h1 : x.params = y.params) (h2 : x.defaults = y.defaults) (h3 : x.kwdefaults = y.kwdefaults) (h4 : x.name = y.name) (h5 : x.qualname = y.qualname) : bindArgs x a = bindArgs y a := by
  cases x
  cases y
  simp only at h1 h2 h3 h4 h5
  subst h1 h2 h3 h4 h5
  rfl
/-- THE RULE for a lambda: its body -/
theorem cok_lam {ci : CodeI} {body : Expr} {fb : SemE} (hcod : G.cod kc = some ci) (hbd : ci.body = .expr body) (S : NScope N ps ci.fr ci.scope) (hb : ∀ (F : NF) (doc pm ctv : Value) (us : List Value), F.params = ci.params → us.length = ps.length → bindArgs (F.fd doc pm ctv) ⟨us, []⟩ = pure (ps.zip us))
    (hbody : ∀ (A : Around) (outer : List Env) (s : Shared) (H : Hp) (E : XK) (f c : Addr) (cl : List (Str × Addr)), RoomG k (A.deeper (envF (nfOf ci [] cl c) f s.heap.objs.size)) → (∀ y, y ∉ ci.fr → cl.lookup y = none) →
      ∀ X, X = ncx (L2.CX P w) P w K mg base N (nfOf ci [] cl c) f A outer s H E → Takes X (fun cls d _ H => E cls d H) → PassesOwn (model X.prog X.w) X.A X.env X.xe → CellsNew X →
      SE X (ownV X) G (fun cls d _ H => E cls d H) body fb) : COk P w K mg base G (k + 1) kc ps.length (runCE N.length fb) := by
  refine ⟨fun A outer s H f c ci' cl caps uu cvs vs us B ρ st Q E hr e0 hc' hf hc co pc rc r hl SS ru nu ns nc q => ?_⟩
  rw [hcod] at hc'
  cases hc'
  have hfH := (vis_some hf).2.2
  have hcH := (vis_some hc).2.2
  have pcH : Paired (CapR cl H) ci.fr cvs := Paired.mapP pc fun y v ⟨c, o, u, z1, z2, z3⟩ => ⟨c, o, u, z1, (vis_some z2).2.2, z3⟩
  have t := capA_trk e0.hok pcH
  have tB : ∀ b ∈ capA ci.fr cl, b ∉ B := fun b hb => by
    obtain ⟨y, hy, e⟩ := capA_mem.mp hb
    obtain ⟨i, hi⟩ := List.getElem?_of_mem hy
    obtain ⟨v, _, c', o, u, e1, e2, _⟩ := Paired.at pc hi
    rw [e] at e1
    cases e1
    exact (vis_some e2).1
  have hfr : ∀ b ∈ capA ci.fr cl, b ∉ frs outer := fun b hb hf => by
    obtain ⟨o, v, e, _, _⟩ := t b hb
    rw [e0.frf b hf] at e
    cases e
  have e1 := env0_mns e0 t
  have C := capA_cells e0.hok co pcH
  have lim : s.heap.NoLimit := e0.mod.nolimit.keeps fun b o e => (e0.bs b o e).1
  have hvl : vs.length = ps.length := by rw [← ru.length, hl]
  obtain ⟨⟨od, sl, doc, pm, ctv, ho⟩, _, _⟩ := e0.hok f _ hfH
  have q2 := postF_back t q
  refine codeAny_mono ?_ fun r' s' => cr_back t hfr
  refine PySem.W.kla_callFunE (body := body) hr.room.depth ho rfl S.co S.gen hbd (codeO_at e0.hok hcH) ?_
  have hbb := hb (nfOf ci [] cl c) doc pm ctv us rfl (by rw [← r.length]; exact hvl)
  have hbb2 : bindArgs { name := ci.name, qualname := ci.qual, params := ci.params, body := ci.body, scope := ci.scope, globals := mainGlobals, closure := cl, defaults := .none, kwdefaults := .none, doc := doc, pyModule := pm, annotations := none, code := .ref c, closureTuple := ctv, builtins := builtinsNs } ⟨us, []⟩ = pure (ps.zip us) := by
    rw [← hbb]; exact bind_congr rfl rfl rfl rfl rfl
  rw [hbb2]
  refine wpAny_pure (wpAny_newFunctionEnv S.nocell (fun ⟨n, _⟩ hy => S.par n (List.of_mem_zip hy).1) (fun h₁ hns hsb => ⟨lim.fresh _ hsb, ?_⟩) S.kind)
  show codeAny _ _ (.expr body (envF (nfOf ci [] cl c) f s.heap.objs.size)) _ _
  refine PySem.W.kla_codeExpr ?_
  have kp : ∀ b o, s.heap.get? b = some o → h₁.get? b = some o := fun b o e => hsb.extBut b o (Nat.ne_of_lt (Heap.lt_size e)) (Heap.get?_push_of_some _ e)
  have bod := hbody A outer s (mns (capA ci.fr cl) H) (fun cl' d H' => (∀ b ∈ capA ci.fr cl, H' b = none) → E cl' d (back (capA ci.fr cl) H H')) f c cl (hr.deeper _) (fun y hy => by
    cases e : cl.lookup y with
    | none => rfl
    | some b => exact (hy (co.mem y b e)).elim) _ rfl (takes_of rfl rfl rfl rfl) (passes_of rfl) (cellsNew_n (F := nfOf ci [] cl c) e0 S t co)
  have I : Inv (ncx (L2.CX P w) P w K mg base N (nfOf ci [] cl c) f A outer s (mns (capA ci.fr cl) H) (fun cl' d H' => (∀ b ∈ capA ci.fr cl, H' b = none) → E cl' d (back (capA ci.fr cl) H H'))) [] (startF N vs (cvs.map some)) (mns (capA ci.fr cl) H) { s with heap := h₁, toks := s.toks + (ps.zip us).length } := inv_startN (F := nfOf ci [] cl c) S hr.room.hd e1 hvl r C hns kp
  have hN : uu.length + caps.length ≤ N.length := by
    have z := congrArg List.length S.pre
    have l1 := Paired.len pcH
    have l2 := rc.length
    rw [List.length_take, List.length_append] at z
    omega
  have SM := SS.mns (own' := noOwn) t ns tB
  have R := startF_rel (N := N) SM (ru.leD (vis_leD t.leD) nu) (rc.leD (vis_leD t.leD) nc) (ownV (ncx (L2.CX P w) P w K mg base N (nfOf ci [] cl c) f A outer s (mns (capA ci.fr cl) H) (fun cl' d H' => (∀ b ∈ capA ci.fr cl, H' b = none) → E cl' d (back (capA ci.fr cl) H H')))) hN
  refine wpAny_mono ((bod : PE _ _ _).run [] _ (startF N vs (cvs.map some)) (mns (capA ci.fr cl) H) (fun v H' => (∀ c_1 ∈ capA ci.fr cl, H' c_1 = none) → Q v (back (capA ci.fr cl) H H')) I ⟨B, ρ, _, st, R, fin_postE q2⟩) (fun u s' hs => ?_) fun e s' hs => hs
  obtain ⟨v, H', J, rv, q⟩ := hs
  exact ⟨v, H', J.os, J.bare, J.base, J.hok, rv, q⟩
end
end TT
set_option Elab.async false
set_option linter.all false
set_option maxRecDepth 100000
set_option maxHeartbeats 2000000
/-! lambdas; calls of values; calls that hand on one's own functions -/
namespace TT
open PySem PySem.Spec PyProof.Rows L2 LamX NdefX
/-- THE RULE for a def: its body, with what is known of the frame's cells -/
theorem fok_def {P : Program} {w : World} {K : PySem.W.Frag} {mg : Str → Option Value} {base : Heap} {G : Gd} {x qual : Str} {st : Stmt} {f : Addr} {fd : FuncData} {N ps : List Str} {k : Nat} {fb : SemS} (F : Fun K x qual st f fd) (S : FnScope N ps (defScope st)) (hc : cellNamesB (defScope st) = true)
    (hbody : ∀ (cdv : Value) (A : Around) (outer : List Env) (s : Shared) (H : Hp) (E : XK), cdv = fd.code → RoomG k (A.deeper (envOfC qual (defScope st) s.heap.objs.size f cdv)) →
      ∀ X, X = cxOf (L2.CX P w) P w K mg base N qual (defScope st) f cdv A outer s H E → Takes X (fun cls d _ H => E cls d H) → PassesOwn (model X.prog X.w) X.A X.env X.xe → CellsNew X →
      SL X (ownV X) G (fun cls d _ H => E cls d H) (defBody st) fb) : FOk P w K mg base G (k + 1) f fd ps (runF N.length fb) :=
  fok_of F S fun cdv A outer s H E hcd e0 hr X hX tk ps => hbody cdv A outer s H E hcd hr X hX tk ps (by rw [hX]; exact cellsNew_def e0 hc)

/-! ## lambdas -/
def capOf (en : Nv) : List Nat → Option (List U)
  | [] => some []
  | j :: js => match en[j]?, capOf en js with
    | some (some u), some r => some (u :: r)
    | _, _ => none
def mLam (kc : Nat) (js : List Nat) : SemE := fun en st => match capOf en js with
  | some us => if hasCloL us = false then .ok (.clo (!js.isEmpty) kc us) st else .bad
  | none => .bad
section
variable {X : Cx} {G : Gd} {W : WX}
theorem capOf_rel {B ρ : List Addr} {en : Nv} {st : Sto} {σ : L2.St} {H : Hp} (R : Rel (ownV X) G B ρ en st σ H) : ∀ {js : List Nat} {us : List U} {fr : List Str} {cl : List (Str × Addr)}, capOf en js = some us → js.map (fun j => X.N[j]?) = fr.map some → (∀ y ∈ fr, ∃ c, cl.lookup y = some c ∧ X.env.cells.lookup y = some c) →
    ∃ vs, Paired (fun (y : Str) (v : V) => ∃ c, cl.lookup y = some c ∧ ownV X σ c v) fr vs ∧ RepUs G (vis B ρ H) ρ (ownV X σ) us vs
  | [], us, fr, cl, h, hj, hc => by
    cases fr with
    | nil =>
      cases h
      exact ⟨[], .nil, .nil⟩
    | cons y r => cases hj
  | j :: js, us, fr, cl, h, hj, hc => by
    cases fr with
    | nil => cases hj
    | cons y r =>
      simp only [List.map_cons, List.cons.injEq] at hj
      unfold capOf at h
      split at h
      · rename_i u us' e1 e2
        cases h
        obtain ⟨vs, h1, h2⟩ := capOf_rel R e2 hj.2 fun y hy => hc y (List.mem_cons_of_mem _ hy)
        obtain ⟨v, hv, rv⟩ := R.env j u e1
        obtain ⟨c, c1, c2⟩ := hc y (List.mem_cons_self ..)
        exact ⟨v :: vs, .cons ⟨c, c1, j, y, hj.1, c2, hv⟩ h1, .cons rv h2⟩
      · cases h
/-- lambda ..: body -/
theorem se_lam {kc : Nat} {js : List Nat} {nm : Nat → Nat → Str} {c P : Addr} {params : Arguments} {body : Expr} {scope : Scope} {pos : Pos} {fr : List Str} (TB : TabB X.base X.mg c P) (hcode : X.env.code = .ref c) (hm : (P, nm) ∈ G.T) (hn : nm pos.line pos.col = X.env.qual ++ "<lambda>") (hu : ∀ p ∈ G.T, p.1 = P → p.2 = nm)
    (hdef : defaultsOf params X.env = ([], [])) (hfree : ∀ y ∈ scope.names, y.2 = .free → X.env.scope.names.lookup y.1 = some .cell ∨ X.env.scope.names.lookup y.1 = some .free) (hcod : G.cod kc = some (lamI X params body scope fr)) (hfr : ∀ y ∈ fr, (y, NameKind.free) ∈ scope.names) (hfr2 : ∀ y ∈ scope.names, y.2 = .free → y.1 ∈ fr)
    (hjs : js.map (fun j => X.N[j]?) = fr.map some) : SE X (ownV X) G W (.Lambda params body scope pos) (mLam kc js) := by
  refine ⟨fun pins s σ H Q I ⟨B, ρ, en, st, R, h⟩ => ?_⟩
  have hfr' : ∀ y ∈ scope.names, y.2 = .free → ∃ c, X.env.cells.lookup y.1 = some c := fun y hy e => (hfree y hy e).elim (fun z => I.ok.has _ (.inl z)) fun z => I.ok.has _ (.inr z)
  refine lam_make I TB hcode hm hn hu R.sto.tabs hdef hfr' (fr := fr) fun f H1 s' I1 M => ⟨.ref f, H1, I1, rfl, ?_⟩
  have stp : Stp ρ H ρ H1 := ⟨fun b o e _ n => M.ext b o e n, M.dom, fun _ _ z => z, fun _ z => .inl z⟩
  have R1 : Rel (ownV X) G B ρ en st σ H1 := by
    refine R.ofS stp ⟨R.sto.len, R.sto.nd, fun n cc hn => ?_, fun b hb => ?_, M.tabs⟩
    · obtain ⟨a, o, h1, h2, h3⟩ := R.sto.cell n cc hn
      exact ⟨a, o, h1, M.ext _ _ h2 h3.nt, h3.le stp.le stp.pre fun _ _ z => z⟩
    · obtain ⟨h1, o, h2, h3⟩ := R.sto.hid b hb
      exact ⟨h1, o, M.ext _ _ h2 h3.1, h3⟩
  unfold mLam at h
  split at h
  · rename_i us e1
    split at h
    · obtain ⟨cc, z1, z2⟩ := M.fn
      have ncap : ∀ y ∈ fr, ∃ c, (cloFrom X.env.cells scope.names []).lookup y = some c ∧ X.env.cells.lookup y = some c := fun y hy => by
        obtain ⟨c0, hc0⟩ := hfr' _ (hfr y hy) rfl
        exact ⟨c0, clo_has hfr' (hfr y hy) hc0, hc0⟩
      obtain ⟨vs, p1, p2⟩ := capOf_rel R1 e1 hjs ncap
      have co : CapsOk fr (cloFrom X.env.cells scope.names []) := ⟨fun y a e => by
        rcases cloFrom_mem (PySem.mem_of_lookup e) with hm | ⟨h1, h2⟩
        · cases hm
        · exact hfr2 _ h1 rfl, fun x y a e1 e2 => I.ok.inj x y a (clo_cm hfr' e1) (clo_cm hfr' e2)⟩
      have fB : f ∉ B ∧ f ∉ ρ := R.sto.fresh M.new
      have cB : vis B ρ H1 cc = some (CodeO cc (lamI X params body scope fr).qual) := by
        refine vis_of (fun z => ?_) (fun z => ?_) z2
        · obtain ⟨_, o, e, n⟩ := R1.sto.hid cc z
          rw [z2] at e
          cases e
          exact n.2 _ rfl
        · obtain ⟨i, hi⟩ := List.getElem?_of_mem z
          obtain ⟨_, o, _, e, n⟩ := R1.sto.at hi
          rw [z2] at e
          cases e
          exact n.datO.2 _ rfl
      refine h ρ H1 stp R1 (.ref f) ?_
      cases js with
      | nil =>
        have e : fr = [] := by
          cases fr with
          | nil => rfl
          | cons y r => cases hjs
        subst e
        cases p1
        cases p2
        exact .cloH hcod (vis_of fB.1 fB.2 z1) cB co .nil .nil
      | cons j js => exact .cloO hcod (vis_of fB.1 fB.2 z1) cB co p1 p2
    · exact h.elim
  · exact h.elim
end
/-! ## what a name may hold that is called -/
structure APOk (P : Program) (w : World) (K : PySem.W.Frag) (mg : Str → Option Value) (base : Heap) (G : Gd) (k : Nat) (ap : U → SemF) : Prop where
  fns : ∀ x a, G.fnA x = some a → ∀ h, K.In h → PySem.W.FnAt a h
  at_ : ∀ g us st, ap g us st ≠ .bad →
    (∃ kc caps ow n Fc, g = .clo ow kc caps ∧ COk P w K mg base G k kc n Fc ∧ us.length = n ∧ ap g us st = Fc caps us st) ∨
    (∃ x a fd ps F, g = .fn x ∧ G.fnA x = some a ∧ Binds K fd ps [] ∧ FOk P w K mg base G k a fd ps F ∧ us.length = ps.length ∧ ap g us st = F us st)
def apNil : U → SemF := fun _ _ _ => .bad
def apC (kc n : Nat) (Fc : List U → SemF) (ap : U → SemF) : U → SemF := fun g us st => match g with
  | .clo _ k' caps => if k' = kc then (if us.length = n then Fc caps us st else .bad) else ap g us st
  | _ => ap g us st
def apF (x : Str) (n : Nat) (F : SemF) (ap : U → SemF) : U → SemF := fun g us st => match g with
  | .fn y => if y = x then (if us.length = n then F us st else .bad) else ap g us st
  | _ => ap g us st
section
variable {P : Program} {w : World} {K : PySem.W.Frag} {mg : Str → Option Value} {base : Heap} {G : Gd} {k : Nat}
theorem apNil_ok (hf : ∀ x a, G.fnA x = some a → ∀ h, K.In h → PySem.W.FnAt a h) : APOk P w K mg base G k apNil := ⟨hf, fun g us st h => (h rfl).elim⟩
theorem apC_ok {kc n : Nat} {Fc : List U → SemF} {ap : U → SemF} (hc : COk P w K mg base G k kc n Fc) (h : APOk P w K mg base G k ap) : APOk P w K mg base G k (apC kc n Fc ap) := ⟨h.fns, fun g us st hb => by
  unfold apC at hb ⊢
  split at hb
  · rename_i ow k' caps
    split at hb
    · rename_i e
      subst e
      split at hb
      · rename_i e2
        refine .inl ⟨k', caps, ow, n, Fc, rfl, hc, e2, ?_⟩
        rw [if_pos rfl, if_pos e2]
      · exact (hb rfl).elim
    · rename_i e
      rw [if_neg e]
      exact h.at_ _ _ _ hb
  · exact h.at_ _ _ _ hb⟩
theorem apF_ok {x : Str} {a : Addr} {fd : FuncData} {ps : List Str} {F : SemF} {ap : U → SemF} (ha : G.fnA x = some a) (hb : Binds K fd ps []) (FF : FOk P w K mg base G k a fd ps F) (h : APOk P w K mg base G k ap) : APOk P w K mg base G k (apF x ps.length F ap) := ⟨h.fns, fun g us st hbd => by
  unfold apF at hbd ⊢
  split at hbd
  · rename_i y
    split at hbd
    · rename_i e
      subst e
      split at hbd
      · rename_i e2
        refine .inr ⟨y, a, fd, ps, F, rfl, ha, hb, FF, e2, ?_⟩
        rw [if_pos rfl, if_pos e2]
      · exact (hbd rfl).elim
    · rename_i e
      rw [if_neg e]
      exact h.at_ _ _ _ hbd
  · exact h.at_ _ _ _ hbd⟩
theorem APOk.mono {j : Nat} {ap : U → SemF} (h : APOk P w K mg base G j ap) (hj : j ≤ k) : APOk P w K mg base G k ap := ⟨h.fns, fun g us st hb => (h.at_ g us st hb).elim
  (fun ⟨kc, caps, ow, n, Fc, z1, z2, z3⟩ => .inl ⟨kc, caps, ow, n, Fc, z1, z2.mono hj, z3⟩)
  fun ⟨x, a, fd, ps, F, z1, z2, z4, z5, z6⟩ => .inr ⟨x, a, fd, ps, F, z1, z2, z4, z5.mono hj, z6⟩⟩
end
/-- may g be called with us, nothing of one's own handed on -/
def okAp (g : U) (us : List U) (st : Sto) : Bool := match g with
  | .clo ow _ caps => !ow && !hasCloL us && !stClo st && !hasCloL caps
  | _ => !hasOwnL us && !stOwn st
def applyV (ap : U → SemF) (g : U) (us : List U) (st : Sto) : Res U := if okAp g us st = true then ap g us st else .bad
def isFun : U → Bool
  | .clo _ _ _ => true
  | .fn _ => true
  | _ => false
def mCallV (ap : U → SemF) (i : Nat) (fs : SemA) : SemE := fun en st => match en[i]? with
  | some (some g) => if isFun g = true then (fs en st).bind fun us st => applyV ap g us st else .bad
  | _ => .bad

section
variable {X : Cx} {oS : OwnS} {G : Gd} {W : WX} {k i : Nat} {x : Str} {p pos : Pos} {e : Expr} {es : List Expr} {ap : U → SemF}
theorem RepU.fnAt {B ρ : List Addr} {pins : List (Addr × Obj)} {σ : L2.St} {H : Hp} {s : Shared} {g : U} {v : V} (AP : APOk X.prog X.w X.K X.mg X.base G k ap) (I : L2.Inv X pins σ H s) (r : RepU G (vis B ρ H) ρ (oS σ) g v) (hb : isFun g = true) : ∃ a, v = .ref a ∧ PySem.W.FnAt a s.heap := by
  cases r with
  | cloO h1 h2 h3 h4 h5 h6 =>
    obtain ⟨⟨od, sl, doc, pm, ctv, ho⟩, _, _⟩ := I.hok _ _ (vis_some h2).2.2
    exact ⟨_, rfl, _, od, _, sl, ho⟩
  | cloH h1 h2 h3 h4 h5 h6 =>
    obtain ⟨⟨od, sl, doc, pm, ctv, ho⟩, _, _⟩ := I.hok _ _ (vis_some h2).2.2
    exact ⟨_, rfl, _, od, _, sl, ho⟩
  | fn h => exact ⟨_, rfl, AP.fns _ _ h _ I.kIn⟩
  | d _ => cases hb
  | ref _ => cases hb
  | tup _ _ _ => cases hb
theorem run_v {pins : List (Addr × Obj)} {σ : L2.St} {H : Hp} {s : Shared} {Q : VK} {us : List Value} {vs : List V} {B ρ : List Addr} {en : Nv} {st : Sto} {uu : List U} {g : U} {a : Addr} (AP : APOk X.prog X.w X.K X.mg X.base G k ap) (hr : RoomG k X.A) (tk : Takes X W)
    (I : L2.Inv X pins σ H s) (r : Vals vs us) (R : Rel oS G B ρ en st σ H) (ru : RepUs G (vis B ρ H) ρ (oS σ) uu vs) (rg : RepU G (vis B ρ H) ρ (oS σ) g (.ref a))
    (h : PostE oS G W B ρ en σ H (fun u ρ' H' _ => ∀ v, RepU G (vis B ρ' H') ρ' (oS σ) u v → Q v H') (applyV ap g uu st)) : wpAny (model X.prog X.w) X.A (call (.ref a) us) (EP X pins σ Q) X.xe s := by
  unfold applyV at h
  split at h
  case isFalse => exact h.elim
  rename_i hno
  have nb : ap g uu st ≠ .bad := fun z => by rw [z] at h; exact h
  rcases AP.at_ g uu st nb with ⟨kc, caps, ow, n, Fc, e1, C, e2, e3⟩ | ⟨x, a', fd, ps, F, e1, e2, hb, FF, e4, e5⟩
  · subst e1
    unfold okAp at hno
    simp only [Bool.and_eq_true, Bool.not_eq_true'] at hno
    obtain ⟨⟨⟨z1, z2⟩, z3⟩, z4⟩ := hno
    subst z1
    cases rg with
    | cloH q1 q2 q3 q4 q5 q6 =>
      rw [e3] at h
      have run := C.run X.A X.stack s H a _ _ _ caps uu _ vs us B ρ st Q (fun cls d H' => W cls d σ H') hr I.env0 q1 q2 q3 q4 q5 (q6.noOwn (hasOwnL_clo z4)) r e2 (R.sto.noOwn (stOwn_clo z3)) (ru.noOwn (hasOwnL_clo z2)) z2 z3 z4 (by
        cases q : Fc caps uu st with
        | ok u st' =>
          rw [q] at h
          exact fun ρ' H' v s' S' rv => h ρ' H' s' (R.ofS s' (S'.own fun _ _ z => z.elim)) v (rv.le (Le.refl _) (fun _ _ z => z) fun _ _ z => z.elim)
        | exn c u st' =>
          rw [q] at h
          refine fun ρ' H' C d s' S' hx => h ρ' H' C d s' (S'.own fun _ _ z => z.elim) ⟨hx.1, ?_⟩
          cases u with
          | some u =>
            obtain ⟨_, dd, v, x2, x3, x4⟩ := hx
            exact ⟨dd, v, x2, x3, x4.le (Le.refl _) (fun _ _ z => z) fun _ _ z => z.elim⟩
          | none => exact hx.2
        | bad => rw [q] at h; exact h)
      refine wpAny_call (codeAny_mono run fun r s' hq => ?_)
      cases r with
      | error e => exact tk e s' (XE.of_call I (fun cls d H' h => h) hq)
      | ok fl =>
        cases fl with
        | ret u => exact I.after hq
        | next => exact False.elim hq
        | brk => exact False.elim hq
        | cont => exact False.elim hq
  · subst e1
    cases rg with
    | fn q =>
      rw [e2] at q
      cases q
      unfold okAp at hno
      simp only [Bool.and_eq_true, Bool.not_eq_true'] at hno
      rw [e5] at h
      exact run_f FF hr hb tk I r R ru e4 (by rw [if_pos hno]; exact h)
/-- f(..), f a name of the frame -/
theorem se_callV {fs : SemA} (AP : APOk X.prog X.w X.K X.mg X.base G k ap) (hr : RoomG k X.A) (tk : Takes X W) (hN : X.N[i]? = some x) (hv : Vis X.env.scope x) (ha : SA X oS G W (e :: es) fs)
    (hd : (x == ("__debug__" : Str)) = false := by decide) (hcd : (x == ("__classdict__" : Str)) = false := by decide)
    (he : starEach (e :: es) X.env = (false, eval e X.env) :: starEach es X.env := by rfl) (hpl : (backTo pos (starEach es X.env)).any (·.1) = false := by rfl) :
    SE X oS G W (.Call (.Name x p) (e :: es) [] pos) (mCallV ap i fs) := by
  refine ⟨fun pins s σ H Q I ⟨B, ρ, en, st, R, h⟩ => ?_⟩
  unfold mCallV at h
  split at h
  case h_2 => exact h.elim
  rename_i g hg
  split at h
  case isFalse => exact h.elim
  rename_i hfun
  obtain ⟨v, hs, rv⟩ := R.env i g hg
  refine wpAny_Call_Name_kw (thn ((pe_var (pos := p) hN hv hd hcd).run pins s σ H (fun v' H1 => v' = v ∧ H1 = H) I ⟨v, hs, rfl, rfl⟩) fun u s1 ⟨v', H1, I1, r1, q1⟩ => ?_)
  obtain ⟨ev, eH⟩ := q1
  subst ev
  subst eH
  obtain ⟨a, e1, fa⟩ := RepU.fnAt AP I1 rv hfun
  subst e1
  obtain rfl : u = Value.ref a := r1
  have args := (ha : PA X _ _).run pos pins s1 σ H1 (fun vs H2 => ∃ ρ1 st1 us, Stp ρ H1 ρ1 H2 ∧ Rel oS G B ρ1 en st1 σ H2 ∧ RepUs G (vis B ρ1 H2) ρ1 (oS σ) us vs ∧
    PostE oS G W B ρ1 en σ H2 (fun u ρ' H' _ => ∀ v, RepU G (vis B ρ' H') ρ' (oS σ) u v → Q v H') (applyV ap g us st1)) I1
    ⟨B, ρ, en, st, R, (PostE.bind h).mono fun us st1 ρ1 H1 eq s1 R1 h1 vs rvs => ⟨ρ1, st1, us, s1, R1, rvs, h1⟩⟩
  refine PySem.W.callWith_F (first := []) fa (thn args fun us s2 ⟨vs, H2, I2, r, ρ1, st1, uu, s12, R1, ru, h1⟩ => ?_) he hpl
  have rg := rv.stp s12
  obtain ⟨a', e1, fa'⟩ := RepU.fnAt AP I2 rg hfun
  cases e1
  exact ⟨fa', run_v AP hr tk I2 r R1 ru rg h1⟩
/-- f(), f a name of the frame -/
theorem se_callV0 (AP : APOk X.prog X.w X.K X.mg X.base G k ap) (hr : RoomG k X.A) (tk : Takes X W) (hN : X.N[i]? = some x) (hv : Vis X.env.scope x)
    (hd : (x == ("__debug__" : Str)) = false := by decide) (hcd : (x == ("__classdict__" : Str)) = false := by decide) :
    SE X oS G W (.Call (.Name x p) [] [] pos) (mCallV ap i mNil) := by
  refine ⟨fun pins s σ H Q I ⟨B, ρ, en, st, R, h⟩ => ?_⟩
  unfold mCallV at h
  split at h
  case h_2 => exact h.elim
  rename_i g hg
  split at h
  case isFalse => exact h.elim
  rename_i hfun
  obtain ⟨v, hs, rv⟩ := R.env i g hg
  refine wpAny_Call_Name_kw (thn ((pe_var (pos := p) hN hv hd hcd).run pins s σ H (fun v' H1 => v' = v ∧ H1 = H) I ⟨v, hs, rfl, rfl⟩) fun u s1 ⟨v', H1, I1, r1, q1⟩ => ?_)
  obtain ⟨ev, eH⟩ := q1
  subst ev
  subst eH
  obtain ⟨a, e1, fa⟩ := RepU.fnAt AP I1 rv hfun
  subst e1
  obtain rfl : u = Value.ref a := r1
  refine PySem.W.callWith_F0 (first := []) fa ?_
  exact run_v AP hr tk I1 .nil R .nil rv h
end
end TT
set_option Elab.async false
set_option linter.all false
set_option maxRecDepth 100000
set_option maxHeartbeats 2000000
/-! calls that hand on functions of the running frame -/
namespace TT
open PySem PySem.Spec PyProof.Rows L2 LamX NdefX
mutual
def expU : U → U
  | .clo _ k caps => .clo false k (expL caps)
  | .tup l => .tup (expL l)
  | u => u
def expL : List U → List U
  | [] => []
  | u :: r => expU u :: expL r
end
theorem expL_length : ∀ (l : List U), (expL l).length = l.length
  | [] => rfl
  | _ :: r => by simp [expL, expL_length r]
section
variable {G : Gd}
mutual
theorem RepU.exp {H H2 : Hp} {ρ : List Addr} {own : OwnV} (e : Le H H2) (ow : ∀ c v, own c v → ∃ o u, H2 c = some (CellO c o) ∧ o.data = .cell (some u) ∧ RelV v u) : ∀ {u : U} {v : V}, RepU G H ρ own u v → RepU G H2 ρ noOwn (expU u) v
  | _, _, .d r => .d (r.le e)
  | _, _, .ref h => .ref h
  | _, _, .fn h => .fn h
  | _, _, .tup s z r => .tup (SqT.le e s) z (RepUs.exp e ow r)
  | _, _, .cloO k h h' co q r => .cloH k (e _ _ h cloO_nt) (e _ _ h' codeO_nt) co (Paired.mapP q fun _ _ ⟨c, z1, z2⟩ => by
      obtain ⟨o, u, z3, z4, z5⟩ := ow _ _ z2
      exact ⟨c, o, u, z1, z3, z4, z5⟩) (RepUs.exp e ow r)
  | _, _, .cloH k h h' co q r => .cloH k (e _ _ h cloO_nt) (e _ _ h' codeO_nt) co (Paired.mapP q fun _ _ ⟨c, o, u, z1, z2, z3⟩ => ⟨c, o, u, z1, e _ _ z2 cellO_nt, z3⟩) (RepUs.exp e ow r)
theorem RepUs.exp {H H2 : Hp} {ρ : List Addr} {own : OwnV} (e : Le H H2) (ow : ∀ c v, own c v → ∃ o u, H2 c = some (CellO c o) ∧ o.data = .cell (some u) ∧ RelV v u) : ∀ {u : List U} {v : List V}, RepUs G H ρ own u v → RepUs G H2 ρ noOwn (expL u) v
  | _, _, .nil => .nil
  | _, _, .cons a b => .cons (RepU.exp e ow a) (RepUs.exp e ow b)
end
end
def cleanR : Res U → Res U
  | .ok u st => if hasClo u = false ∧ stClo st = false then .ok u st else .bad
  | _ => .bad
/-- the frame's cells -/
def cellsA (X : Cx) : List Addr := X.env.cells.filterMap fun p => X.env.cells.lookup p.1
theorem cellsA_mem {X : Cx} {c : Addr} : c ∈ cellsA X ↔ ∃ y, X.env.cells.lookup y = some c := by
  unfold cellsA
  rw [List.mem_filterMap]
  exact ⟨fun ⟨p, _, e⟩ => ⟨p.1, e⟩, fun ⟨y, e⟩ => ⟨(y, c), PySem.mem_of_lookup e, e⟩⟩
section
variable {X : Cx} {G : Gd} {W : WX} {k i : Nat} {x : Str} {p pos : Pos} {e : Expr} {es : List Expr} {ap : U → SemF}
theorem run_exp {pins : List (Addr × Obj)} {σ : L2.St} {H : Hp} {s : Shared} {Q : VK} {vs : List V} {us : List Value} {B ρ : List Addr} {en : Nv} {st : Sto} {uu : List U} {a : Addr} {r : Res U} (CN : CellsNew X) (I : L2.Inv X pins σ H s) (R : Rel (ownV X) G B ρ en st σ H) (ns : stClo st = false)
    (ru : RepUs G (vis B ρ H) ρ (ownV X σ) uu vs)
    (h : PostE (ownV X) G W B ρ en σ H (fun u ρ' H' _ => ∀ v, RepU G (vis B ρ' H') ρ' (ownV X σ) u v → Q v H') (cleanR r))
    (hrun : ∀ (H1 : Hp) (Q1 : VK), Env0 X.prog X.w X.K X.mg X.base X.A X.stack s H1 → RelS G B ρ noOwn st H1 → RepUs G (vis B ρ H1) ρ noOwn (expL uu) vs → PostF G B ρ H1 Q1 (fun _ _ _ => False) r →
      codeAny (model X.prog X.w) X.A (.call (.ref a) ⟨us, []⟩) (CR (L2.CX X.prog X.w) X.stack X.prog X.w H1 s Q1 fun _ _ _ => False) s) :
    wpAny (model X.prog X.w) X.A (call (.ref a) us) (EP X pins σ Q) X.xe s := by
  have e0 := I.env0
  have cH : ∀ c ∈ cellsA X, H c = none ∧ ∃ o v, s.heap.get? c = some o ∧ o.data = .cell v := fun c hc => by
    obtain ⟨y, e⟩ := cellsA_mem.mp hc
    obtain ⟨v, o, h1, h2⟩ := I.cell y c e
    exact ⟨I.freeC y c e, o, v, h1, h2⟩
  have cT : Trk (cellsA X) (pls (cellsA X) s.heap H) s.heap := fun c hc => by
    obtain ⟨_, o, v, h1, h2⟩ := cH c hc
    exact ⟨o, v, by rw [pls_in hc, h1]; rfl, h1, h2⟩
  have sup : ∀ b o, H b = some o → pls (cellsA X) s.heap H b = some o := fun b o e => by
    rw [pls_out]
    · exact e
    · intro z
      rw [(cH b z).1] at e
      cases e
  have out : ∀ b, pls (cellsA X) s.heap H b = none → b ∉ cellsA X ∧ H b = none := fun b e => by
    have z : b ∉ cellsA X := fun z => by
      obtain ⟨o, v, e1, _, _⟩ := cT b z
      rw [e] at e1
      cases e1
    rw [pls_out z] at e
    exact ⟨z, e⟩
  have cB : ∀ c ∈ cellsA X, c ∉ B := fun c hc hb => by
    obtain ⟨_, o, e, _⟩ := R.sto.hid c hb
    rw [(cH c hc).1] at e
    cases e
  have cρ : ∀ c ∈ cellsA X, c ∉ ρ := fun c hc hb => by
    obtain ⟨o, e, _⟩ := R.sto.mem hb
    rw [(cH c hc).1] at e
    cases e
  have hok : HOk X.prog X.w (pls (cellsA X) s.heap H) s.heap := fun b o e => by
    by_cases hb : b ∈ cellsA X
    · obtain ⟨ob, v, e1, e2, _⟩ := cT b hb
      rw [e1] at e
      cases e
      exact ⟨e2, ⟨ob, e2⟩, fun h1 h2 x st => st _ x⟩
    · rw [pls_out hb] at e
      exact (I.hok b o e).stay (fun _ _ _ q => q) (fun d q => sup d _ q) fun d xs q => sup d _ q
  have e1 : Env0 X.prog X.w X.K X.mg X.base X.A X.stack s (pls (cellsA X) s.heap H) := by
    refine ⟨e0.frames, e0.mod, fun b o e => ⟨(e0.bs b o e).1, ?_⟩, e0.bsz, e0.funs, fun b hb => ?_, hok, e0.bare⟩
    · rw [pls_out]
      · exact (e0.bs b o e).2
      · intro z
        obtain ⟨y, ey⟩ := cellsA_mem.mp z
        rw [CN.base y b ey] at e
        cases e
    · rw [pls_out]
      · exact e0.frf b hb
      · intro z
        obtain ⟨y, ey⟩ := cellsA_mem.mp z
        exact CN.frs y b ey hb
  have S1 : RelS G B ρ noOwn st (pls (cellsA X) s.heap H) := (R.sto.noOwn (stOwn_clo ns)).sup sup
  have ru1 : RepUs G (vis B ρ (pls (cellsA X) s.heap H)) ρ noOwn (expL uu) vs := by
    refine ru.exp (vis_sup sup) fun c v ⟨j, y, h1, h2, h3⟩ => ?_
    have hc : c ∈ cellsA X := cellsA_mem.mpr ⟨y, h2⟩
    obtain ⟨m, hn, hl⟩ := I.loc
    obtain ⟨u, rv, l⟩ := hl j y v h1 h3 ((CN.kin y c h2).elim (fun z => .inr (.inl z)) fun z => .inr (.inr z))
    rcases l with ⟨z, _⟩ | ⟨_, a', ha', o, ho, hd⟩
    · have z' : X.env.scope.names.lookup y = some .local := z
      rcases CN.kin y c h2 with q | q <;> rw [q] at z' <;> cases z'
    · rw [h2] at ha'
      cases ha'
      exact ⟨o, u, vis_of (cB c hc) (cρ c hc) (by rw [pls_in hc, ho]; rfl), hd, rv⟩
  have tR : ∀ {ρ' : List Addr} {H' : Hp}, Stp ρ (pls (cellsA X) s.heap H) ρ' H' → (∀ c ∈ cellsA X, H' c = pls (cellsA X) s.heap H c) ∧ Stp ρ H ρ' (mns (cellsA X) H') := fun {ρ' H'} st => by
    refine ⟨fun c hc => ?_, fun b o e nb no => ?_, fun b e => ?_, st.pre, fun b hb => ?_⟩
    · obtain ⟨o, v, z, _, _⟩ := cT c hc
      rw [z]
      exact st.keep c _ z (cρ c hc) cellO_nt
    · have hb : b ∉ cellsA X := fun z => by rw [(cH b z).1] at e; cases e
      rw [mns_out hb]
      exact st.keep b o (sup b o e) nb no
    · by_cases hb : b ∈ cellsA X
      · exact (cH b hb).1
      · rw [mns_out hb] at e
        exact (out b (st.dom b e)).2
    · rcases st.new b hb with z | z
      · exact .inl z
      · exact .inr (out b z).2
  have run := hrun (pls (cellsA X) s.heap H) (fun v H' => (∀ c ∈ cellsA X, H' c = pls (cellsA X) s.heap H c) ∧ Q v (mns (cellsA X) H')) e1 S1 ru1 (by
    cases r with
    | ok u st' =>
      unfold cleanR at h
      dsimp only at h
      split at h
      · rename_i hno
        intro ρ' H' v st S rv
        obtain ⟨t1, t2⟩ := tR st
        have t3 : Trk (cellsA X) H' s.heap := fun c hc => by
          obtain ⟨o, v, z1, z2⟩ := cT c hc
          exact ⟨o, v, by rw [t1 c hc]; exact z1, z2⟩
        exact ⟨t1, h ρ' _ t2 (R.ofS t2 (S.mns t3 hno.2 cB)) v (rv.leD (vis_leD t3.leD) hno.1)⟩
      · exact h.elim
    | exn c u st' => exact h.elim
    | bad => exact h.elim)
  refine wpAny_call (codeAny_mono run fun r s' hq => ?_)
  cases r with
  | error e =>
    obtain ⟨_, _, _, _, _, _, _, _, _, _, _, _, z⟩ := (show L2.CX X.prog X.w X.stack _ s _ e s' from hq)
    exact z.elim
  | ok fl =>
    cases fl with
    | next => exact False.elim hq
    | brk => exact False.elim hq
    | cont => exact False.elim hq
    | ret u =>
      obtain ⟨v, H', os, ag, un, hok', rv, t1, q⟩ := hq
      have same : ∀ c ∈ cellsA X, ∃ o, s.heap.get? c = some o ∧ s'.heap.get? c = some o := fun c hc => by
        obtain ⟨o, w, z1, z2, _⟩ := cT c hc
        have z3 : H' c = some (CellO c o) := by rw [t1 c hc]; exact z1
        obtain ⟨z, _, _⟩ := hok' c _ z3
        exact ⟨o, z2, z⟩
      refine I.after ⟨v, mns (cellsA X) H', os, ag, ⟨fun b o e n hf hx => ?_, fun b o e n hf hx => ?_, fun b o e n hx => ?_, un.there, fun b xs e => ?_, fun b o xs e => ?_, fun b ps e => ?_⟩, hok_mns hok' fun c hc => ?_, rv, q⟩
      · by_cases hb : b ∈ cellsA X
        · obtain ⟨o', q1, q2⟩ := same b hb
          rw [e] at q1
          cases q1
          exact q2
        · exact un.keep b o e (by rw [pls_out hb]; exact n) hf hx
      · have hb : b ∉ cellsA X := fun z => by
          obtain ⟨y, ey⟩ := cellsA_mem.mp z
          exact CN.frs y b ey hf
        exact un.slot b o e (by rw [pls_out hb]; exact n) hf hx
      · by_cases hb : b ∈ cellsA X
        · exact mns_in hb
        · rw [mns_out hb]
          exact un.free b o e (by rw [pls_out hb]; exact n) hx
      · have hb : b ∉ cellsA X := fun z => by rw [(cH b z).1] at e; cases e
        rw [mns_out hb]
        exact un.tups b xs (sup b _ e)
      · have hb : b ∉ cellsA X := fun z => by rw [(cH b z).1] at e; cases e
        rw [mns_out hb]
        exact un.frzs b o xs (sup b _ e)
      · have hb : b ∉ cellsA X := fun z => by rw [(cH b z).1] at e; cases e
        rw [mns_out hb]
        exact un.tbls b ps (sup b _ e)
      · obtain ⟨o, w, z1, z2, _⟩ := cT c hc
        exact ⟨_, by rw [t1 c hc]; exact z1⟩
/-- a call that hands on functions of the running frame -/
def mCallX (F : SemF) (fs : SemA) : SemE := fun en st => (fs en st).bind fun us st => if stClo st = false then cleanR (F (expL us) st) else .bad
theorem se_callX {f : Addr} {fd : FuncData} {ps : List Str} {F : SemF} {fs : SemA} (FF : FOk X.prog X.w X.K X.mg X.base G k f fd ps F) (hr : RoomG k X.A) (CN : CellsNew X) (hg : Gl X x) (hm : X.mg x = some (.ref f)) (hk : PySem.W.keepIn X.K (.ref f) = true) (hb : Binds X.K fd ps []) (hl : (e :: es).length = ps.length)
    (ha : SA X (ownV X) G W (e :: es) fs) (hal : ∀ en st us st', fs en st = .ok us st' → us.length = (e :: es).length) (hdb : (x == ("__debug__" : Str)) = false := by decide) (he : starEach (e :: es) X.env = (false, eval e X.env) :: starEach es X.env := by rfl) (hpl : (backTo pos (starEach es X.env)).any (·.1) = false := by rfl) :
    SE X (ownV X) G W (.Call (.Name x p) (e :: es) [] pos) (mCallX F fs) := by
  refine ⟨fun pins s σ H Q I h => ?_⟩
  refine wpAny_Call_Name_kw (ld_glob I hg hm ?_ hdb)
  obtain ⟨B, ρ, en, st, R, h⟩ := h
  have args := (ha : PA X _ _).run pos pins s σ H (fun vs H1 => ∃ ρ1 st1 us, Stp ρ H ρ1 H1 ∧ Rel (ownV X) G B ρ1 en st1 σ H1 ∧ RepUs G (vis B ρ1 H1) ρ1 (ownV X σ) us vs ∧ us.length = ps.length ∧
    PostE (ownV X) G W B ρ1 en σ H1 (fun u ρ' H' _ => ∀ v, RepU G (vis B ρ' H') ρ' (ownV X σ) u v → Q v H') (if stClo st1 = false then cleanR (F (expL us) st1) else .bad)) I
    ⟨B, ρ, en, st, R, (PostE.bind h).mono fun us st1 ρ1 H1 eq s1 R1 h1 vs rvs => ⟨ρ1, st1, us, s1, R1, rvs, by rw [hal _ _ _ _ eq, hl], h1⟩⟩
  refine PySem.W.callWith_K (h₀ := X.base) I.ok.mod.kin hk (thn args fun us s1 ⟨vs, H1, I1, r, ρ1, st1, uu, _, R1, ru, hlu, h1⟩ => ⟨I1.kIn, ?_⟩) he hpl
  split at h1
  case isFalse => exact h1.elim
  rename_i hno
  refine run_exp CN I1 R1 hno ru h1 fun H2 Q2 e2 S2 ru2 p2 => ?_
  have r2 : Vals vs (us ++ []) := by rw [List.append_nil]; exact r
  have hlen : (us ++ []).length = ps.length := by rw [← r2.length, ← ru.length, hlu]
  exact FF.run X.A X.stack s1 H2 ⟨us, []⟩ (us ++ []) vs Q2 _ hr e2 (hb s1 us I1.kIn hlen) r2 ⟨B, ρ1, expL uu, st1, by rw [expL_length, hlu], S2, ru2, p2⟩
/-- f(..), f a function that the running frame made -/
def mCallO (kc n : Nat) (Fc : List U → SemF) (i : Nat) (fs : SemA) : SemE := fun en st => match en[i]? with
  | some (some (.clo _ k' caps)) => if k' = kc then (fs en st).bind fun us st => if stClo st = false ∧ hasCloL us = false ∧ hasCloL caps = false ∧ us.length = n then cleanR (Fc caps us st) else .bad else .bad
  | _ => .bad
mutual
theorem expU_no : ∀ {u : U}, hasClo u = false → expU u = u
  | .d _, _ => rfl
  | .ref _, _ => rfl
  | .fn _, _ => rfl
  | .clo _ _ _, h => by simp [hasClo] at h
  | .tup l, h => by
    simp only [hasClo] at h
    simp only [expU, expL_no h]
theorem expL_no : ∀ {u : List U}, hasCloL u = false → expL u = u
  | [], _ => rfl
  | u :: r, h => by
    simp only [hasCloL, Bool.or_eq_false_iff] at h
    simp only [expL, expU_no h.1, expL_no h.2]
end
theorem run_o {kc n : Nat} {Fc : List U → SemF} {pins : List (Addr × Obj)} {σ : L2.St} {H : Hp} {s : Shared} {Q : VK} {us : List Value} {vs : List V} {B ρ : List Addr} {en : Nv} {st : Sto} {uu caps : List U} {a : Addr} {ow : Bool} (C : COk X.prog X.w X.K X.mg X.base G k kc n Fc) (hr : RoomG k X.A) (CN : CellsNew X)
    (I : L2.Inv X pins σ H s) (r : Vals vs us) (R : Rel (ownV X) G B ρ en st σ H) (ru : RepUs G (vis B ρ H) ρ (ownV X σ) uu vs) (rg : RepU G (vis B ρ H) ρ (ownV X σ) (.clo ow kc caps) (.ref a))
    (h : PostE (ownV X) G W B ρ en σ H (fun u ρ' H' _ => ∀ v, RepU G (vis B ρ' H') ρ' (ownV X σ) u v → Q v H') (if stClo st = false ∧ hasCloL uu = false ∧ hasCloL caps = false ∧ uu.length = n then cleanR (Fc caps uu st) else .bad)) : wpAny (model X.prog X.w) X.A (call (.ref a) us) (EP X pins σ Q) X.xe s := by
  split at h
  case isFalse => exact h.elim
  rename_i hno
  obtain ⟨z1, z2, z3, z4⟩ := hno
  refine run_exp (uu := .clo ow kc caps :: uu) (vs := .ref a :: vs) CN I R z1 (.cons rg ru) h fun H2 Q2 e2 S2 ru2 p2 => ?_
  simp only [expL, expU, expL_no z2, expL_no z3] at ru2
  cases ru2 with
  | cons r1 r2 =>
    cases r1 with
    | cloH q1 q2 q3 q4 q5 q6 => exact C.run X.A X.stack s H2 a _ _ _ caps uu _ vs us B ρ st Q2 _ hr e2 q1 q2 q3 q4 q5 q6 r z4 S2 r2 z2 z1 z3 p2
theorem own_fnAt {B ρ : List Addr} {pins : List (Addr × Obj)} {σ : L2.St} {H : Hp} {s : Shared} {ow : Bool} {kc : Nat} {caps : List U} {v : V} (I : L2.Inv X pins σ H s) (r : RepU G (vis B ρ H) ρ (ownV X σ) (.clo ow kc caps) v) : ∃ a, v = .ref a ∧ PySem.W.FnAt a s.heap := by
  cases r with
  | cloO h1 h2 h3 h4 h5 h6 =>
    obtain ⟨⟨od, sl, doc, pm, ctv, ho⟩, _, _⟩ := I.hok _ _ (vis_some h2).2.2
    exact ⟨_, rfl, _, od, _, sl, ho⟩
  | cloH h1 h2 h3 h4 h5 h6 =>
    obtain ⟨⟨od, sl, doc, pm, ctv, ho⟩, _, _⟩ := I.hok _ _ (vis_some h2).2.2
    exact ⟨_, rfl, _, od, _, sl, ho⟩
theorem se_callO {kc n : Nat} {Fc : List U → SemF} {fs : SemA} (C : COk X.prog X.w X.K X.mg X.base G k kc n Fc) (hr : RoomG k X.A) (CN : CellsNew X) (hN : X.N[i]? = some x) (hv : Vis X.env.scope x) (ha : SA X (ownV X) G W (e :: es) fs)
    (hd : (x == ("__debug__" : Str)) = false := by decide) (hcd : (x == ("__classdict__" : Str)) = false := by decide)
    (he : starEach (e :: es) X.env = (false, eval e X.env) :: starEach es X.env := by rfl) (hpl : (backTo pos (starEach es X.env)).any (·.1) = false := by rfl) :
    SE X (ownV X) G W (.Call (.Name x p) (e :: es) [] pos) (mCallO kc n Fc i fs) := by
  refine ⟨fun pins s σ H Q I ⟨B, ρ, en, st, R, h⟩ => ?_⟩
  unfold mCallO at h
  split at h
  case h_2 => exact h.elim
  rename_i ow k' caps hg
  split at h
  case isFalse => exact h.elim
  rename_i hkc
  subst hkc
  obtain ⟨v, hs, rv⟩ := R.env i _ hg
  refine wpAny_Call_Name_kw (thn ((pe_var (pos := p) hN hv hd hcd).run pins s σ H (fun v' H1 => v' = v ∧ H1 = H) I ⟨v, hs, rfl, rfl⟩) fun u s1 ⟨v', H1, I1, r1, q1⟩ => ?_)
  obtain ⟨ev, eH⟩ := q1
  subst ev
  subst eH
  obtain ⟨a, e1, fa⟩ := own_fnAt I1 rv
  subst e1
  obtain rfl : u = Value.ref a := r1
  have args := (ha : PA X _ _).run pos pins s1 σ H1 (fun vs H2 => ∃ ρ1 st1 us, Stp ρ H1 ρ1 H2 ∧ Rel (ownV X) G B ρ1 en st1 σ H2 ∧ RepUs G (vis B ρ1 H2) ρ1 (ownV X σ) us vs ∧
    PostE (ownV X) G W B ρ1 en σ H2 (fun u ρ' H' _ => ∀ v, RepU G (vis B ρ' H') ρ' (ownV X σ) u v → Q v H') (if stClo st1 = false ∧ hasCloL us = false ∧ hasCloL caps = false ∧ us.length = n then cleanR (Fc caps us st1) else .bad)) I1
    ⟨B, ρ, en, st, R, (PostE.bind h).mono fun us st1 ρ1 H1 eq s1 R1 h1 vs rvs => ⟨ρ1, st1, us, s1, R1, rvs, h1⟩⟩
  refine PySem.W.callWith_F (first := []) fa (thn args fun us s2 ⟨vs, H2, I2, r, ρ1, st1, uu, s12, R1, ru, h1⟩ => ?_) he hpl
  have rg := rv.stp s12
  obtain ⟨a', e1, fa'⟩ := own_fnAt I2 rg
  cases e1
  exact ⟨fa', run_o C hr CN I2 r R1 ru rg h1⟩
end
end TT
set_option Elab.async false
set_option linter.all false
set_option maxRecDepth 100000
set_option maxHeartbeats 2000000
/-! errors -/
namespace TT
open PySem PySem.Spec PyProof.Rows L2
/-- an __init__ that keeps what it is given as the field f -/
def initSp (K : PySem.W.Frag) (f : Str) : Sp := fun vs H Q E => ∃ (a C : Addr) (y : V), vs = [.ref a, y] ∧ OexC K C ∧ PySem.W.findIn K (.ref C) f = some none ∧ H a = some (exo a C none) ∧ ∀ dx, H dx = none → dx ≠ a → Q .non (upd (upd H dx (exd dx [(f, y)])) a (exo a C (some dx)))
theorem init_ok {P : Program} {w : World} {K : PySem.W.Frag} {mg : Str → Option Value} {base : Heap} {x qual f sn pn : Str} {st : Stmt} {fI : Addr} {fd : FuncData} {N : List Str} {p1 p2 p3 p4 : Pos} (F : Fun K x qual st fI fd) (S : FnScope N [sn, pn] (defScope st)) (h0 : N[0]? = some sn) (h1 : N[1]? = some pn)
    (hst : defBody st = [.Assign [.Attribute (.Name sn p1) f p2] (.Name pn p3) p4]) (hv0 : Vis (defScope st) sn) (hv1 : Vis (defScope st) pn) (hsw : ∀ env : Env, swapsWith (.Name pn p3) (some (.Attribute (.Name sn p1) f p2)) p4.line env = pure false) (d0 : (sn == ("__debug__" : Str)) = false) (c0 : (sn == ("__classdict__" : Str)) = false) (d1 : (pn == ("__debug__" : Str)) = false) (c1 : (pn == ("__classdict__" : Str)) = false) :
    FnOk P w K mg base (L2.CX P w) 1 fI fd [sn, pn] (initSp K f) := by
  refine F.okX S (fun vs H Q E ⟨a, C, y, e, _⟩ => by rw [e]; rfl) fun cdv A outer s H vs Q E hr ⟨a, C, y, e, T, hno, ha, hq⟩ => ?_
  subst e
  refine ⟨_, by rw [hst]; exact pss_one (ps_ost (pe_var (i := 0) h0 hv0 d0 c0) (pe_var (i := 1) h1 hv1 d1 c1) (hsw _)), ?_⟩
  exact ⟨y, rfl, .ref a, rfl, a, C, rfl, T, hno, .inl ⟨ha, hq⟩⟩
section
variable {X : Cx} {oS : OwnS} {G : Gd} {W : WX}
def mRaise (c : Str) (fe : SemE) : SemS := fun en st => (fe en st).toS en fun u st => .exn c (some u) en st
theorem exc_hp {H : Hp} {a d C : Addr} {f : Str} {y : V} (ha : H a = none) (hd : H d = none) (hda : d ≠ a) :
    upd (del (upd (upd (upd H a (exo a C none)) d (exd d [(f, y)])) a (exo a C (some d))) a) d (.xd [(f, y)]) = upd H d (.xd [(f, y)]) := by
  funext b
  by_cases h1 : b = d
  · rw [h1, upd_same, upd_same]
  · rw [upd_ne h1, upd_ne h1]
    by_cases h2 : b = a
    · rw [h2, del_same, ha]
    · rw [del_ne h2, upd_ne h2, upd_ne h1, upd_ne h2]
theorem ss_raise {x f sn pn : Str} {C fI : Addr} {fd : FuncData} {e : Expr} {fe : SemE} {p pos pos' : Pos} (hx : G.clsA x = some C) (hfld : G.clsF x = f) (T : OexC X.K C) (iC : PySem.W.findIn X.K (.ref C) "__init__" = some (some (.ref fI))) (tI : PySem.W.typeIn X.K (.ref fI) = some (.type "function"))
    (hno : PySem.W.findIn X.K (.ref C) f = some none) (FI : FnOk X.prog X.w X.K X.mg X.base (L2.CX X.prog X.w) 1 fI fd [sn, pn] (initSp X.K f)) (hr : RoomG 2 X.A) (hb : Binds X.K fd [sn, pn] []) (hg : Gl X x) (hm : X.mg x = some (.ref C)) (hc : X.calm = true) (tk : Takes X W) (he : SE X oS G W e fe)
    (hdb : (x == ("__debug__" : Str)) = false := by decide) (hst : starEach (e :: []) X.env = (false, eval e X.env) :: starEach [] X.env := by rfl) : SS X oS G W (.Raise (some (.Call (.Name x p) [e] [] pos)) none pos') (mRaise x fe) := by
  refine PS.imp (ps_raise hc tk (pmk_oex T iC tI FI hr.room hb .nil passL hg hm (pa_cons he pa_nil hst) hdb hst (by rfl))) fun Dn σ H ⟨B, ρ, en, st, R, h⟩ => ?_
  refine ⟨B, ρ, en, st, R, postE_of R h fun u st1 ρ1 H1 s1 R1 h1 v rv => ?_⟩
  refine ⟨by show 1 ≤ 1000; decide, fun a ha => ⟨a, C, v, rfl, T, hno, upd_same, fun dx hdx hne => ⟨rfl, dx, [(f, v)], ?_, ?_, ?_, ?_⟩⟩⟩
  · exact upd_same
  · rw [upd_ne hne, upd_same]
  · rw [upd_ne hne] at hdx; exact hdx
  · rw [upd_ne hne] at hdx
    rw [exc_hp ha hdx hne]
    refine h1 ρ1 _ σ C (some dx) (Stp.laid hdx) (R1.laid hdx) ⟨hx, dx, v, rfl, by rw [hfld]; exact upd_same, rv.stp (Stp.laid hdx)⟩
end
/-! ## try -/
section
variable {X : Cx} {oS : OwnS} {G : Gd}
abbrev HdT := Addr → Value → Option Addr → TS
/-- what the clauses wish -/
def wHs (K : PySem.W.Frag) (Wout : WX) (D : Ends) : List (Value × Option Nat × HdT) → WX
  | [] => Wout
  | (c, none, ts) :: r => fun cls d σ H => ∃ b, PySem.W.exmOne K cls c = some b ∧ (b = true → ∀ a, H a = none → ts a cls d D σ H) ∧ (b = false → wHs K Wout D r cls d σ H)
  | (c, some i, ts) :: r => fun cls d σ H => ∃ b, PySem.W.exmOne K cls c = some b ∧
      (b = true → ∀ a, H a = none → ts a cls d { nx := fun σ' H' => D.nx (σ'.set i none) H', rt := D.rt, bk := fun σ' H' => D.bk (σ'.set i none) H', ct := fun σ' H' => D.ct (σ'.set i none) H' } (σ.set i (some (.ref a))) H) ∧ (b = false → wHs K Wout D r cls d σ H)
inductive HsT (X : Cx) : List ExceptHandler → List (Value × Option Nat × HdT) → Prop
  | nil : HsT X [] []
  | cons {x : Str} {c : Value} {ts : HdT} {b₀ : Stmt} {suite : List Stmt} {np pos' : Pos} {hds : List ExceptHandler} {l : List (Value × Option Nat × HdT)} (hc : Names X x c)
      (hsu : ∀ (a : Addr) (oe : Obj) (cls : Value) (d : Option Addr) (pn : List (Addr × Obj)), Zc cls d oe → (∃ vs, oe.data = .fields vs) → PSs (X.suite a ((a, oe) :: pn)) (b₀ :: suite) (ts a cls d)) (r : HsT X hds l) :
      HsT X (.ExceptHandler (some (.Name x np)) none (b₀ :: suite) pos' :: hds) ((c, none, ts) :: l)
  | as {x n : Str} {i : Nat} {c : Value} {ts : HdT} {b₀ : Stmt} {suite : List Stmt} {np pos' : Pos} {hds : List ExceptHandler} {l : List (Value × Option Nat × HdT)} (hc : Names X x c) (hi : X.N[i]? = some n) (hln : X.env.kindOf n = some .local)
      (hsu : ∀ (a : Addr) (oe : Obj) (cls : Value) (d : Option Addr) (pn : List (Addr × Obj)), Zc cls d oe → (∃ vs, oe.data = .fields vs) → PSs (X.suite a ((a, oe) :: pn)) (b₀ :: suite) (ts a cls d)) (r : HsT X hds l) :
      HsT X (.ExceptHandler (some (.Name x np)) (some n) (b₀ :: suite) pos' :: hds) ((c, some i, ts) :: l)
theorem ps_try_hs {body : List Stmt} {h₀ : ExceptHandler} {hds : List ExceptHandler} {l : List (Value × Option Nat × HdT)} {pos : Pos} {tb : WX → TS} {Wout : WX} (hN : X.N.Nodup) (hs : X.stack = X.env :: X.outer) (hf : X.env.frame = some X.env.locals) (tk : Takes X Wout)
    (hb : ∀ (W : WX) (pn : List (Addr × Obj)) (xe : Value → Shared → Prop), Takes (X.tr pn xe) W → PassesOwn (model X.prog X.w) X.A X.env xe → PSs (X.tr pn xe) body (tb W))
    (hh : HsT X (h₀ :: hds) l) : PS X (.Try body (h₀ :: hds) [] [] pos) (fun D σ H => tb (wHs X.K Wout D l) D σ H) := by
  refine ⟨fun pins s σ H D I h => ?_⟩
  have ok := I.ok
  have hfr : X.A.frames = some (X.env :: X.outer) := by rw [ok.frames, hs]
  refine wpAny_Try_except (wpAny_mono ((hb (wHs X.K Wout D l) (X.pn ++ pins) (fun e s₁ => wpAny (model X.prog X.w) X.A (noteFrame e X.env) (fun _ s₂ => wpAny (model X.prog X.w) X.A (setFlight e none) (fun _ s₃ =>
    wpAny (model X.prog X.w) X.A (handleBy e X.env (h₀ :: hds)) (SP X pins D) X.xe s₃) X.xe s₂) X.xe s₁) (fun u s' xx => ?_) PassesOwn.looking).run [] s σ H D (I.toTry _) h) (fun f s1 hsp => ?_) (fun e s1 he => he))
  · obtain ⟨a, B, sI, pins', σ', H', cls, d, rfl, J', nb, up, sky, na, os, ag, w⟩ := xx
    have J : Inv X pins σ' H' sI := J'.ofTry ok
    show wpAny (model X.prog X.w) X.A (noteFrame (.ref a) X.env) _ _ _
    refine Sky.land Zc.steady hfr hf (by rw [← hs]; exact sky : Sky B (X.env :: X.outer) a (Zc cls d) X.env.locals s'.heap) fun h3 fl3 up3 => ?_
    have J3 : Inv X pins σ' H' { s' with heap := h3 } := J.landed nb fl3.1 (up.trans up3) os ag
    obtain ⟨oe3, vs3, he3, hz3, hd3⟩ := fl3.there
    have nfr : a ∉ frs (X.env :: X.outer) := fun hm => by
      obtain ⟨_, o', e', hnf⟩ := fl3.2.2.1.mem hm
      rw [he3] at e'
      cases e'
      exact hnf _ hd3
    have nL : a ≠ X.env.locals := fun z => nfr (List.mem_filterMap.mpr ⟨X.env, List.mem_cons_self, by rw [hf, z]⟩)
    have nF : a ∉ X.fs := fun hm => by
      obtain ⟨e, he, q⟩ := List.mem_filterMap.mp hm
      exact nfr (List.mem_filterMap.mpr ⟨e, List.mem_cons_of_mem _ he, q⟩)
    have S3 := J3.suite he3 hd3 na nL nF
    have LT : PySem.W.Looks (model X.prog X.w) h3 (typeOf (.ref a)) cls := fun A Q E s k q => wpAny_typeOf_ref (k _ _ he3) (by rw [hz3.1]; exact q)
    have test : ∀ {x : Str} {c : Value} {np : Pos}, Names X x c → ∀ {Q : Value → Shared → Prop} {E : Value → Shared → Prop}, Q c { s' with heap := h3 } → wpAny (model X.prog X.w) (X.A.mark (some (.ref a))) (eval (.Name x np) X.env) Q E { s' with heap := h3 } := fun {x c np} hc {Q E} q => by
      obtain ⟨hg, hdbg, hm | ⟨hm, hv, hnn⟩⟩ := hc
      · exact ld_glob (X := X.suite a ((a, oe3) :: (X.pn ++ pins))) S3 hg hm q hdbg
      · exact ld_blt (X := X.suite a ((a, oe3) :: (X.pn ++ pins))) S3 hg hm hv q hnn hdbg
    have go : ∀ {hds' : List ExceptHandler} {l' : List (Value × Option Nat × HdT)}, HsT X hds' l' → wHs X.K Wout D l' cls d σ' H' → wpAny (model X.prog X.w) X.A (handleBy (.ref a) X.env hds') (SP X pins D) X.xe { s' with heap := h3 } := by
      intro hds' l' hk
      induction hk with
      | nil =>
        intro w
        refine wpAny_handleBy_nil ?_
        obtain ⟨k1, k2, k3, oe, vs, T, oT, ts', he, hz, hd, h1, hr⟩ := id fl3
        unfold PySem.passOn
        refine wpAny_bind (wpAny_field he hd h1 ?_)
        rw [if_neg (show ¬ ((Value.ref T == Value.none) = true) from by simp)]
        have fin : wpAny (model X.prog X.w) X.A (setFlight (.ref a) X.env.frame) (fun _ s4 => wpAny (model X.prog X.w) X.A (throw (.ref a) : Sem Flow) (SP X pins D) X.xe s4) X.xe { s' with heap := h3 } := by
          rw [hf]
          refine HandSPX.setFlight_upZ fl3 fun h4 hh4 up4 => wpAny_throw (tk _ _ ?_)
          exact ⟨a, B, sI, pins, σ', H', cls, d, rfl, J, nb, (up.trans up3).trans up4, .inr (.inr (by rw [hs]; exact hh4)), na, os, ag, w⟩
        first
          | exact wpAny_bind (wpAny_pure (wpAny_bind fin))
          | exact wpAny_bind fin
      | @cons x c ts b₀ suite np pos' hds2 l2 hc hsu r ih =>
        intro w
        obtain ⟨b, hb1, hyes, hno⟩ := w
        refine wpAny_handleBy_cons (codeAny_handlers_test (test hc ((PySem.W.exm_one (M := model X.prog X.w) (J3.kIn) LT hb1).here ?_))) (by intro q; cases q)
        cases b with
        | true =>
          refine codeAny_handlers_suite (HandSPX.lands_againZ fl3 fun h4 fl4 up4 => ?_)
          have J4 : Inv X pins σ' H' { s' with heap := h4 } := J.landed nb fl4.1 ((up.trans up3).trans up4) os ag
          obtain ⟨oe4, vs4, he4, hz4, hd4⟩ := fl4.there
          refine wpAny_mono ((hsu a oe4 cls d (X.pn ++ pins) hz4 ⟨_, hd4⟩).run [] _ _ H' _ (J4.suite he4 hd4 na nL nF) (hyes rfl a na)) (fun f s6 hsp => ?_) (fun _ _ z => False.elim z)
          cases f with
          | ret u =>
            obtain ⟨v6, σ6, H6, S6, r6, q6⟩ := hsp
            exact ⟨_, _, _, S6.unsuite ok, r6, q6⟩
          | next =>
            obtain ⟨σ6, H6, S6, q6⟩ := hsp
            exact ⟨_, _, S6.unsuite ok, q6⟩
          | brk =>
            obtain ⟨σ6, H6, S6, q6⟩ := hsp
            exact ⟨_, _, S6.unsuite ok, q6⟩
          | cont =>
            obtain ⟨σ6, H6, S6, q6⟩ := hsp
            exact ⟨_, _, S6.unsuite ok, q6⟩
        | false =>
          show wpAny _ X.A (handleBy (.ref a) X.env hds2) _ _ _
          exact ih (hno rfl)
      | @as x n i c ts b₀ suite np pos' hds2 l2 hc hi hln hsu r ih =>
        intro w
        obtain ⟨b, hb1, hyes, hno⟩ := w
        refine wpAny_handleBy_cons (codeAny_handlers_test (test hc ((PySem.W.exm_one (M := model X.prog X.w) (J3.kIn) LT hb1).here ?_))) (by intro q; cases q)
        cases b with
        | true =>
          refine codeAny_handlers_suite_as (HandSPX.lands_againZ fl3 fun h4 fl4 up4 => ?_)
          have J4 : Inv X pins σ' H' { s' with heap := h4 } := J.landed nb fl4.1 ((up.trans up3).trans up4) os ag
          obtain ⟨oe4, vs4, he4, hz4, hd4⟩ := fl4.there
          refine store_ok (X := X.suite a ((a, oe4) :: (X.pn ++ pins))) (v := .ref a) (J4.suite he4 hd4 na nL nF) hN hi (.inl hln : Loc X.env.scope n) rfl (fun s5 S5 => ?_) (.inr hln)
          refine wpAny_mono ((hsu a oe4 cls d (X.pn ++ pins) hz4 ⟨_, hd4⟩).run [] s5 _ H' _ S5 (hyes rfl a na)) (fun f s6 hsp => ?_) (fun _ _ z => False.elim z)
          have end_ : ∀ {σ6 : L2.St} {H6 : Hp} {Q : Shared → Prop}, Inv (X.suite a ((a, oe4) :: (X.pn ++ pins))) [] σ6 H6 s6 → (∀ s7, Inv X pins (σ6.set i none) H6 s7 → Q s7) →
              wpAny (model X.prog X.w) X.A (do bindName X.env n .none; unbindBehindTheSuite X.env n pos') (fun _ s7 => Q s7) X.xe s6 := fun {σ6 H6 Q} S6 hq => gone_ok (S6.unsuite ok) hN hi hln hq
          cases f with
          | ret u =>
            obtain ⟨v6, σ6, H6, S6, r6, q6⟩ := hsp
            exact end_ S6 fun s7 J7 => ⟨_, _, _, J7, r6, q6⟩
          | next =>
            obtain ⟨σ6, H6, S6, q6⟩ := hsp
            exact end_ S6 fun s7 J7 => ⟨_, _, J7, q6⟩
          | brk =>
            obtain ⟨σ6, H6, S6, q6⟩ := hsp
            exact end_ S6 fun s7 J7 => ⟨_, _, J7, q6⟩
          | cont =>
            obtain ⟨σ6, H6, S6, q6⟩ := hsp
            exact end_ S6 fun s7 J7 => ⟨_, _, J7, q6⟩
        | false =>
          show wpAny _ X.A (handleBy (.ref a) X.env hds2) _ _ _
          exact ih (hno rfl)
    exact go hh w
  · cases f with
    | ret u =>
      obtain ⟨v, σ', H', J', r, q⟩ := hsp
      exact ⟨v, σ', H', J'.ofTry ok, r, q⟩
    | next =>
      obtain ⟨σ', H', J', q⟩ := hsp
      exact wpAny_execs_nil ⟨σ', H', J'.ofTry ok, q⟩
    | brk =>
      obtain ⟨σ', H', J', q⟩ := hsp
      exact ⟨σ', H', J'.ofTry ok, q⟩
    | cont =>
      obtain ⟨σ', H', J', q⟩ := hsp
      exact ⟨σ', H', J'.ofTry ok, q⟩
end
end TT
set_option Elab.async false
set_option linter.all false
set_option maxRecDepth 100000
set_option maxHeartbeats 2000000
/-! try, as a function -/
namespace TT
open PySem PySem.Spec PyProof.Rows L2
abbrev HSem := Option U → SemS
abbrev HdM := (Str → Option Bool) × Option Nat × HSem
def goneI : Option Nat → RS → RS
  | none, r => r
  | some _, .rt u s => .rt u s
  | some _, _ => .bad
def fitI : Option Nat → Nv → Bool
  | none, _ => true
  | some i, en => decide (i < en.length)
def runHs : List HdM → Str → Option U → Nv → Sto → RS
  | [], c, u, en, st => .exn c u en st
  | (mt, oi, hf) :: r, c, u, en, st => match mt c with
    | some true => if fitI oi en = true then goneI oi (hf u en st) else .bad
    | some false => runHs r c u en st
    | none => .bad
def mTry (fb : SemS) (hs : List HdM) : SemS := fun en st => match fb en st with
  | .exn c u e s => runHs hs c u e s
  | r => r
abbrev Wn : WX := fun _ _ _ _ => False
section
variable {X : Cx} {oS : OwnS} {G : Gd} {W : WX}
inductive HsR (X : Cx) (oS : OwnS) (G : Gd) : List HdM → List (Value × Option Nat × HdT) → Prop
  | nil : HsR X oS G [] []
  | cons {mt : Str → Option Bool} {hf : HSem} {c : Value} {ts : HdT} {ms : List HdM} {l : List (Value × Option Nat × HdT)} (hm : ∀ cn C b, G.clsA cn = some C → mt cn = some b → PySem.W.exmOne X.K (.ref C) c = some b)
      (rd : ∀ (a : Addr) (cn : Str) (C : Addr) (d : Option Addr) (u : Option U) (B ρ : List Addr) (en : Nv) (st : Sto) (σ : L2.St) (H : Hp) (D : Ends), mt cn = some true → ExcR oS G B ρ σ H cn u C d → H a = none → Rel oS G B ρ en st σ H → PostS oS G Wn B ρ H D (hf u en st) → ts a (.ref C) d D σ H) (r : HsR X oS G ms l) :
      HsR X oS G ((mt, none, hf) :: ms) ((c, none, ts) :: l)
  | as {i : Nat} {mt : Str → Option Bool} {hf : HSem} {c : Value} {ts : HdT} {ms : List HdM} {l : List (Value × Option Nat × HdT)} (hm : ∀ cn C b, G.clsA cn = some C → mt cn = some b → PySem.W.exmOne X.K (.ref C) c = some b)
      (rd : ∀ (a : Addr) (cn : Str) (C : Addr) (d : Option Addr) (u : Option U) (B ρ : List Addr) (en : Nv) (st : Sto) (σ : L2.St) (H : Hp) (D : Ends), mt cn = some true → i < σ.length → ExcR oS G B ρ σ H cn u C d → H a = none → Rel oS G B ρ en st σ H → PostS oS G Wn B ρ H D (goneI (some i) (hf u en st)) →
        ts a (.ref C) d { nx := fun σ' H' => D.nx (σ'.set i none) H', rt := D.rt, bk := fun σ' H' => D.bk (σ'.set i none) H', ct := fun σ' H' => D.ct (σ'.set i none) H' } (σ.set i (some (.ref a))) H) (r : HsR X oS G ms l) :
      HsR X oS G ((mt, some i, hf) :: ms) ((c, some i, ts) :: l)
theorem PostS.noW {B ρ : List Addr} {H : Hp} {D : Ends} {r : RS} {W' : WX} (h : PostS oS G W B ρ H D (goneI (some 0) r)) : PostS oS G W' B ρ H D (goneI (some 0) r) := by
  cases r with
  | rt u s => exact h
  | nx e s => exact h.elim
  | bk e s => exact h.elim
  | ct e s => exact h.elim
  | exn c u e s => exact h.elim
  | bad => exact h.elim
/-- a suite that lets nothing out -/
def noExn : RS → RS
  | .exn _ _ _ _ => .bad
  | r => r
theorem PostS.ofNo {B ρ : List Addr} {H : Hp} {D : Ends} {r : RS} {W' : WX} (h : PostS oS G W B ρ H D (noExn r)) : PostS oS G W' B ρ H D r := by
  cases r with
  | rt u s => exact h
  | nx e s => exact h
  | bk e s => exact h
  | ct e s => exact h
  | exn c u e s => exact h.elim
  | bad => exact h.elim
theorem hs_read {ms : List HdM} {l : List (Value × Option Nat × HdT)} (k : HsR X oS G ms l) (hno : ∀ m ∈ ms, m.2.1 = none → ∀ u en st r, m.2.2 u en st = r → noExn r = r) : ∀ {c : Str} {C : Addr} {d : Option Addr} {u : Option U} {B ρ : List Addr} {en : Nv} {st : Sto} {σ : L2.St} {H : Hp} {D : Ends}, ExcR oS G B ρ σ H c u C d → Rel oS G B ρ en st σ H →
    PostS oS G W B ρ H D (runHs ms c u en st) → wHs X.K W D l (.ref C) d σ H := by
  induction k with
  | nil =>
    intro c C d u B ρ en st σ H D hx R h
    exact h ρ H σ C d (Stp.refl _ _) R hx
  | @cons mt hf cv ts ms l hm rd r ih =>
    intro c C d u B ρ en st σ H D hx R h
    unfold runHs at h
    split at h
    · rename_i e
      rw [show fitI none en = true from rfl, if_pos rfl] at h
      refine ⟨true, hm c C true hx.1 e, fun _ a ha => rd a c C d u B ρ en st σ H D e hx ha R ?_, fun z => nomatch z⟩
      have q := hno _ (List.mem_cons_self ..) rfl u en st _ rfl
      have h2 : PostS oS G W B ρ H D (noExn (hf u en st)) := by rw [q]; exact h
      exact h2.ofNo
    · rename_i e
      exact ⟨false, hm c C false hx.1 e, fun z => (nomatch z), fun _ => ih (fun m hm => hno m (List.mem_cons_of_mem _ hm)) hx R h⟩
    · exact h.elim
  | @as i mt hf cv ts ms l hm rd r ih =>
    intro c C d u B ρ en st σ H D hx R h
    unfold runHs at h
    split at h
    · rename_i e
      split at h
      case isFalse => exact h.elim
      rename_i hfit
      have hfit : i < en.length := by simpa [fitI] using hfit
      refine ⟨true, hm c C true hx.1 e, fun _ a ha => rd a c C d u B ρ en st σ H D e (by rw [← R.len]; exact hfit) hx ha R ?_, fun z => nomatch z⟩
      cases q : hf u en st with
      | rt u s => rw [q] at h; exact h
      | nx e s => rw [q] at h; exact h.elim
      | bk e s => rw [q] at h; exact h.elim
      | ct e s => rw [q] at h; exact h.elim
      | exn c u e s => rw [q] at h; exact h.elim
      | bad => rw [q] at h; exact h.elim
    · rename_i e
      exact ⟨false, hm c C false hx.1 e, fun z => (nomatch z), fun _ => ih (fun m hm => hno m (List.mem_cons_of_mem _ hm)) hx R h⟩
    · exact h.elim
/-- try: body / except ..: .. -/
theorem ss_try {body : List Stmt} {h₀ : ExceptHandler} {hds : List ExceptHandler} {l : List (Value × Option Nat × HdT)} {ms : List HdM} {fb : SemS} {pos : Pos} (hN : X.N.Nodup) (hs : X.stack = X.env :: X.outer) (hf : X.env.frame = some X.env.locals) (tk : Takes X W)
    (hb : ∀ (W : WX) (pn : List (Addr × Obj)) (xe : Value → Shared → Prop), Takes (X.tr pn xe) W → PassesOwn (model X.prog X.w) X.A X.env xe → SL (X.tr pn xe) oS G W body fb)
    (hh : HsT X (h₀ :: hds) l) (hr : HsR X oS G ms l) (hno : ∀ m ∈ ms, m.2.1 = none → ∀ u en st r, m.2.2 u en st = r → noExn r = r) : SS X oS G W (.Try body (h₀ :: hds) [] [] pos) (mTry fb ms) := by
  refine PS.imp (ps_try_hs hN hs hf tk hb hh) fun Dn σ H ⟨B, ρ, en, st, R, h⟩ => ?_
  refine ⟨B, ρ, en, st, R, ?_⟩
  unfold mTry at h
  cases q : fb en st with
  | exn c u e s =>
    rw [q] at h
    intro ρ' H' σ' C d s' R' hx
    exact hs_read hr hno hx R' (PostS.step s' h)
  | rt u s => rw [q] at h; exact h
  | nx e s => rw [q] at h; exact h
  | bk e s => rw [q] at h; exact h
  | ct e s => rw [q] at h; exact h
  | bad => rw [q] at h; exact h
/-- except ..: suite -/
def tSuite (oS : OwnS) (G : Gd) (f : SemS) : HdT := fun _ _ _ => rdS oS G Wn f
theorem hsr_plain {mt : Str → Option Bool} {f : SemS} {c : Value} {ms : List HdM} {l : List (Value × Option Nat × HdT)} (hm : ∀ cn C b, G.clsA cn = some C → mt cn = some b → PySem.W.exmOne X.K (.ref C) c = some b) (r : HsR X oS G ms l) :
    HsR X oS G ((mt, none, fun _ => f) :: ms) ((c, none, tSuite oS G f) :: l) :=
  .cons hm (fun a cn C d u B ρ en st σ H D _ hx ha R h => ⟨B, ρ, en, st, R, h⟩) r
/-- except .. as e: return [s, e.f] -/
def hRet2 (s : Str) : HSem := fun u _ st => match u with
  | some (.d x) => .rt (.d (.list [.str s, x])) st
  | _ => .bad
def tRet2 (X : Cx) (i : Nat) (s f : Str) : HdT := fun a cls d D σ H => ∃ C dd v, cls = .ref C ∧ XfC X.K C ∧ PySem.W.findIn X.K (.ref C) f = some none ∧ d = some dd ∧ H dd = some (.xd [(f, v)]) ∧ σ[i]? = some (some (.ref a)) ∧ ∀ p, H p = none → D.rt (.ref p) (upd H p (.lst [.str s, v]))
theorem pss_ret2 {i j : Nat} {n s f : Str} {a : Addr} {oe : Obj} {cls : Value} {d : Option Addr} {pn : List (Addr × Obj)} {p1 p2 p3 p4 p5 : Pos} (hN : X.N[i]? = some n) (hv : Vis X.env.scope n) (hz : Zc cls d oe) (hf : ∃ vs, oe.data = .fields vs) (hb : attributeBase (.Name n p2) f X.env (eval (.Name n p2) X.env) = eval (.Name n p2) X.env)
    (hd : (n == ("__debug__" : Str)) = false := by decide) (hcd : (n == ("__classdict__" : Str)) = false := by decide) :
    PSs (X.suite a ((a, oe) :: pn)) [.Return (some (.List [.Constant (.str s) j p1, .Attribute (.Name n p2) f p3] p4)) p5] (tRet2 X i s f a cls d) := by
  refine ⟨fun pins st σ H D I ⟨C, dd, v, e1, T, hno, e2, hH, hs, h⟩ => ?_⟩
  refine (pss_one (ps_ret (pe_lst (pa_cons pe_str (pa_cons (pe_xf (C := C) (n := f) T hno hz hf (pe_var (i := i) hN hv hd hcd) hb) pa_nil))))).run pins st σ H D I ?_
  refine ⟨.ref a, hs, rfl, e1, dd, [(f, v)], v, e2, hH, by simp [List.lookup], by show 2 ≤ sizeLine; rw [sizeLine_eq]; decide, h⟩
theorem hsr_ret2 {i : Nat} {s f : Str} {mt : Str → Option Bool} {c : Value} {ms : List HdM} {l : List (Value × Option Nat × HdT)} (hm : ∀ cn C b, G.clsA cn = some C → mt cn = some b → PySem.W.exmOne X.K (.ref C) c = some b) (hx : ∀ cn C, G.clsA cn = some C → mt cn = some true → XfC X.K C ∧ PySem.W.findIn X.K (.ref C) f = some none ∧ G.clsF cn = f) (r : HsR X oS G ms l) :
    HsR X oS G ((mt, some i, hRet2 s) :: ms) ((c, some i, tRet2 X i s f) :: l) := by
  refine .as hm (fun a cn C d u B ρ en st σ H D e hi hxc ha R h => ?_) r
  obtain ⟨z1, z2, z3⟩ := hx cn C hxc.1 e
  cases u with
  | none => exact h.elim
  | some u =>
    obtain ⟨_, dd, v, e1, e2, rv⟩ := hxc
    rw [z3] at e2
    refine ⟨C, dd, v, rfl, z1, z2, e1, e2, by rw [List.getElem?_set_self hi], fun p hp => ?_⟩
    cases u with
    | d x =>
      have f := R.sto.fresh hp
      cases rv with
      | d rv =>
        refine h ρ _ σ (.ref p) (Stp.laid hp) (R.laid hp).sto (.d (.list (.inl (vis_of f.1 f.2 upd_same)) (by show 2 ≤ sizeLine; rw [sizeLine_eq]; decide) (.cons (.str s) (.cons (rv.le (Stp.laid hp).le) .nil))))
    | ref n => exact h.elim
    | fn n => exact h.elim
    | clo n k l => exact h.elim
    | tup l => exact h.elim
end
end TT
set_option Elab.async false
set_option linter.all false
set_option maxRecDepth 100000
set_option maxHeartbeats 2000000
/-! texts' methods, repr, keywords -/
namespace TT
open PySem PySem.Spec PyProof.Rows L2
section
variable {X : Cx} {oS : OwnS} {G : Gd} {W : WX}
/-! ### repr -/
def isSq : D → Bool
  | .list _ => true
  | .tuple _ => true
  | _ => false
def gRepr : List U → Sto → Res U
  | [.d x], st => if x.canLay0 = true ∧ x.showable = true ∧ x.hasDict = false ∧ x.shown.length ≤ sizeLine ∧ x.depth < 100 ∧ isSq x = true then .ok (.d (.str x.shown)) st else .bad
  | _, _ => .bad
def rRepr (K : PySem.W.Frag) : List V → Hp → VK → Prop := fun xs H Q => ∃ a d, xs = [.ref a] ∧ Dp K H (.ref a) d ∧ d.showable = true ∧ d.hasDict = false ∧ d.shown.length ≤ sizeLine ∧ d.depth < 100 ∧ Q (.str d.shown) H
theorem call_repr {k : Nat} (hr : RoomG k X.A) : CallR X (.builtin "repr") (rRepr X.K) := by
  intro pins s σ H xs us Q I rs h
  obtain ⟨a, d, rfl, hd, h1, h2, h3, h4, q⟩ := h
  cases rs with
  | cons r rs =>
    cases rs
    obtain rfl : _ = Value.ref a := r
    obtain ⟨as, rd⟩ := Dp.reads I d _ _ hd rfl
    have hu := hr.room.un
    refine PySem.repr_of_reads' rd h1 (fun z => by rw [h2] at z; cases z) hr.g (by omega) (fun _ _ e => e) (fun h' u tk k => ?_) h3
    exact ⟨.str d.shown, H, I.kept k, ⟨u, rfl⟩, q⟩
theorem cs_repr : CallS oS G W (rRepr G.K) gRepr := by
  intro B ρ en st σ H us vs Q R r h
  unfold gRepr at h
  split at h
  · rename_i x
    split at h
    · rename_i hx
      obtain ⟨h0, h1, h2, h3, h4, h5⟩ := hx
      cases r with
      | cons a b =>
        cases b
        cases a with
        | d a =>
          have hp := RepD.dp (a.le vis_le) h0
          have q := h ρ H (Stp.refl _ _) R (.str x.shown) (.d (.str _))
          cases x with
          | list l => cases a with
            | list s z r => exact ⟨_, _, rfl, hp, h1, h2, h3, h4, q⟩
          | tuple l => cases a with
            | tuple s z r => exact ⟨_, _, rfl, hp, h1, h2, h3, h4, q⟩
          | none => cases h5
          | bool b => cases h5
          | int b => cases h5
          | str b => cases h5
          | dict b => cases h5
    · exact h.elim
  · exact h.elim
/-! ### methods of texts -/
def strsOf : List U → Option (List Str)
  | [] => some []
  | .d (.str x) :: r => (match strsOf r with
    | some l => some (x :: l)
    | none => none)
  | _ :: _ => none
theorem strsOf_rep {H : Hp} {ρ : List Addr} {own : OwnV} : ∀ {us : List U} {vs : List V} {l : List Str}, RepUs G H ρ own us vs → strsOf us = some l → vs = l.map V.str
  | _, _, _, .nil, h => by cases h; rfl
  | _, _, _, .cons (d := u) a b, h => by
    cases u with
    | d x =>
      cases x with
      | str x =>
        unfold strsOf at h
        split at h
        · rename_i l' e
          cases h
          cases a with
          | d a =>
            cases a
            rw [strsOf_rep b e]
            rfl
        · cases h
      | none => cases h
      | bool _ => cases h
      | int _ => cases h
      | list _ => cases h
      | tuple _ => cases h
      | dict _ => cases h
    | ref _ => cases h
    | fn _ => cases h
    | clo _ _ _ => cases h
    | tup _ => cases h
def mM1 (g : Str → U → Sto → Res U) (fo fe : SemE) : SemE := fun en st => (fo en st).bind fun u st => match u with
  | .d (.str x) => (fe en st).bind fun w st => g x w st
  | _ => .bad
def M1S (oS : OwnS) (G : Gd) (W : WX) (r : V → List V → Hp → VK → Prop) (g : Str → U → Sto → Res U) : Prop :=
  ∀ (B ρ : List Addr) (en : Nv) (st : Sto) (σ : L2.St) (H : Hp) (x : Str) (w : U) (y : V) (Q : VK), Rel oS G B ρ en st σ H → RepU G (vis B ρ H) ρ (oS σ) w y →
    PostE oS G W B ρ en σ H (fun u ρ' H' _ => ∀ v, RepU G (vis B ρ' H') ρ' (oS σ) u v → Q v H') (g x w st) → r (.str x) [y] H Q
theorem rd_M1 {r : V → List V → Hp → VK → Prop} {g : Str → U → Sto → Res U} {fo fe : SemE} (hg : M1S oS G W r g) {σ : L2.St} {H : Hp} {Q : VK} (h : rdE oS G W (mM1 g fo fe) σ H Q) : tM1 r (rdE oS G W fo) (rdE oS G W fe) σ H Q := by
  obtain ⟨B, ρ, en, st, R, h⟩ := h
  refine ⟨B, ρ, en, st, R, (PostE.bind h).mono fun u st1 ρ1 H1 _ s1 R1 h1 v rv => ?_⟩
  split at h1
  · cases rv with
    | d rv =>
      cases rv
      refine ⟨⟨_, rfl⟩, B, ρ1, en, st1, R1, (PostE.bind h1).mono fun w st2 ρ2 H2 _ s2 R2 h2 y ry => ?_⟩
      exact hg B ρ2 en st2 σ H2 _ w y Q R2 ry h2
  · exact h1.elim
/-- sep.join(l) -/
def gJoin : Str → U → Sto → Res U := fun x u st => match seqOf st u with
  | some l => (match strsOf l with
    | some ys => if (ys.map (·.length)).sum + ys.length * x.length ≤ 16777216 then .ok (.d (.str (Txt.join x ys))) st else .bad
    | none => .bad)
  | none => .bad
theorem se_join (hK : X.K = G.K) {o e : Expr} {fo fe : SemE} {apos pos : Pos} (ho : SE X oS G W o fo) (he : SE X oS G W e fe) (hs : starEach [e] X.env = [(false, eval e X.env)] := by rfl) (hbase : attributeBase o "join" X.env (eval o X.env) = eval o X.env := by rfl) (hline : (apos.endLine == pos.line) = true := by rfl) :
    SE X oS G W (.Call (.Attribute o "join" apos) [e] [] pos) (mM1 gJoin fo fe) := by
  refine PE.imp (pe_join ho he hs hbase hline) fun σ H Q h => rd_M1 (fun B ρ en st σ H x w y Q R ry h2 => ?_) h
  unfold gJoin at h2
  split at h2
  · rename_i l el
    split at h2
    · rename_i ys ey
      split at h2
      · rename_i hz
        obtain ⟨p, ws, rfl, sq, rs, _⟩ := seq_rep R ry el
        have e := strsOf_rep rs ey
        rw [e, ← hK] at sq
        exact ⟨x, p, ys, rfl, rfl, sq.elim (fun z => .inl (.inl z)) .inr, hz, h2 ρ H (Stp.refl _ _) R _ (.d (.str _))⟩
      · exact h2.elim
    · exact h2.elim
  · exact h2.elim
theorem strs_reps {K : PySem.W.Frag} {H : Hp} : ∀ (l : List Str), RepDs K H (l.map PyData.str) (l.map V.str)
  | [] => .nil
  | x :: r => .cons (.str x) (strs_reps r)
/-- x.split(sep) -/
def gSplit : Str → U → Sto → Res U := fun x u st => match u with
  | .d (.str b) => if (b.length == 0) = false ∧ x.length + 2 ≤ sizeLine then .ok (.d (.list ((Txt.split x b).map PyData.str))) st else .bad
  | _ => .bad
theorem se_split {o e : Expr} {fo fe : SemE} {apos pos : Pos} (ho : SE X oS G W o fo) (he : SE X oS G W e fe) (hs : starEach [e] X.env = [(false, eval e X.env)] := by rfl) (hbase : attributeBase o "split" X.env (eval o X.env) = eval o X.env := by rfl) (hline : (apos.endLine == pos.line) = true := by rfl) :
    SE X oS G W (.Call (.Attribute o "split" apos) [e] [] pos) (mM1 gSplit fo fe) := by
  refine PE.imp (pe_split ho he hs hbase hline) fun σ H Q h => rd_M1 (fun B ρ en st σ H x w y Q R ry h2 => ?_) h
  unfold gSplit at h2
  split at h2
  · rename_i b
    split at h2
    · rename_i hz
      cases ry with
      | d ry =>
        cases ry
        refine ⟨x, b, rfl, rfl, hz.1, hz.2, fun p hp => ?_⟩
        have f := R.sto.fresh hp
        have hl : ((Txt.split x b).map V.str).length ≤ sizeLine := by rw [List.length_map]; exact Nat.le_trans (PyProof.Rows.split_le x b) hz.2
        exact h2 ρ _ (Stp.laid hp) (R.laid hp) _ (.d (.list (.inl (vis_of f.1 f.2 upd_same)) hl (strs_reps _)))
    · exact h2.elim
  · exact h2.elim
/-! ### x.replace(..): a token must be out -/
def SET (X : Cx) (oS : OwnS) (G : Gd) (W : WX) (e : Expr) (f : SemE) : Prop := PET X e (rdE oS G W f)
def SAT (X : Cx) (oS : OwnS) (G : Gd) (W : WX) (e : List Expr) (f : SemA) : Prop := PAT X e (rdA oS G W f)
def SST (X : Cx) (oS : OwnS) (G : Gd) (W : WX) (s : Stmt) (f : SemS) : Prop := PST X s (rdS oS G W f)
def SLT (X : Cx) (oS : OwnS) (G : Gd) (W : WX) (s : List Stmt) (f : SemS) : Prop := PSsT X s (rdS oS G W f)
theorem SE.t {e : Expr} {f : SemE} (h : SE X oS G W e f) : SET X oS G W e f := CwR.PET.of h
theorem SL.t {e : List Stmt} {f : SemS} (h : SL X oS G W e f) : SLT X oS G W e f := PSsT.of h
theorem SS.t {e : Stmt} {f : SemS} (h : SS X oS G W e f) : SST X oS G W e f := PST.of h
theorem PET.imp {e : Expr} {t t' : TE} (h : PET X e t) (i : ∀ σ H Q, t' σ H Q → t σ H Q) : PET X e t' := fun pins s σ H Q h0 I w => h pins s σ H Q h0 I (i σ H Q w)
theorem slt_cons {s : Stmt} {r : List Stmt} {f g : SemS} (h1 : SST X oS G W s f) (h2 : SLT X oS G W r g) : SLT X oS G W (s :: r) (mSeq f g) := by
  intro pins s0 σ H Dn h0 I ⟨B, ρ, en, st, R, h⟩
  refine psst_cons h1 h2 pins s0 σ H Dn h0 I ⟨B, ρ, en, st, R, ?_⟩
  unfold mSeq at h
  cases q : f en st with
  | nx e s => rw [q] at h; exact fun ρ1 H1 σ1 s1 R1 => ⟨B, ρ1, e, s, R1, PostS.step s1 h⟩
  | rt u s => rw [q] at h; exact h
  | bk e s => rw [q] at h; exact h
  | ct e s => rw [q] at h; exact h
  | exn c u e s => rw [q] at h; exact h
  | bad => rw [q] at h; exact h
theorem set_op {op : Operator} {r : R2} {g : U → U → Sto → Res U} {a b : Expr} {fa fb : SemE} {pos : Pos} (ho : OpR X (binaryOp op) r) (hg : OpS oS G W r g) (ha : SET X oS G W a fa) (hb : SET X oS G W b fb) : SET X oS G W (.BinOp a op b pos) (mOp g fa fb) :=
  PET.imp (CwR.pet_op ho ha hb) fun _ _ _ h => rd_op hg h
theorem sat_nil : SAT X oS G W [] mNil := fun pos pins s σ H Q _ I h => (sa_nil : PA X _ _).run pos pins s σ H Q I h
theorem sat_cons {e : Expr} {es : List Expr} {f : SemE} {g : SemA} (he : SET X oS G W e f) (hs : SAT X oS G W es g) (hst : starEach (e :: es) X.env = (false, eval e X.env) :: starEach es X.env := by rfl) : SAT X oS G W (e :: es) (mCons f g) := by
  intro pos pins s σ H Q h0 I ⟨B, ρ, en, st, R, h⟩
  rw [hst]
  show wpAny _ _ (spliced ((false, eval e X.env) :: backTo pos (starEach es X.env))) _ _ s
  refine Calls.spliced_cons (wpAny_mono (PySem.wpAny_toks (he pins s σ H (fun v H1 => rdA oS G W g σ H1 fun vs H2 => Q (v :: vs) H2) h0 I ?_)) (fun u s1 q => ?_) fun _ _ z => z.2)
  · refine ⟨B, ρ, en, st, R, (PostE.bind h).mono fun u st1 ρ1 H1 _ s1 R1 h1 v rv => ?_⟩
    refine ⟨B, ρ1, en, st1, R1, (PostE.bind h1).mono fun us st2 ρ2 H2 _ s2 R2 h2 vs rvs => ?_⟩
    exact h2 ρ2 H2 (Stp.refl _ _) R2 (v :: vs) (.cons (rv.stp s2) rvs)
  · obtain ⟨hk, x, H1, I1, r1, q1⟩ := q
    exact thn (hs pos pins s1 σ H1 _ (Nat.le_trans h0 hk) I1 q1) fun us s2 ⟨xs, H2, I2, r2, q2⟩ => ⟨x :: xs, H2, I2, .cons r1 r2, q2⟩
theorem pet_lst {es : List Expr} {t : TA} {pos : Pos} (h : PAT X es t) : PET X (.List es pos) (tLst t) := by
  intro pins s σ H Q h0 I hq
  refine wpAny_List_spliced (thn (h pos pins s σ H _ h0 I hq) fun us s1 ⟨xs, H1, I1, r, z, q⟩ => ⟨by rw [← r.length]; exact z, ?_⟩)
  have hf : H1 s1.heap.objs.size = none := I1.hok.fresh (Nat.le_refl _)
  exact ⟨.ref s1.heap.objs.size, upd H1 s1.heap.objs.size (.lst xs), I1.laid (t' := s1.toks) (fun b u e => Heap.get?_push_of_some _ e) (Nat.le_refl _) ⟨z, us, 0, r, Heap.get?_push_size _ rfl⟩, rfl, q _ hf⟩
theorem set_lst {es : List Expr} {f : SemA} {pos : Pos} (h : SAT X oS G W es f) : SET X oS G W (.List es pos) (mLst f) := by
  refine PET.imp (pet_lst h) fun σ H Q ⟨B, ρ, en, st, R, h⟩ => ?_
  refine ⟨B, ρ, en, st, R, (PostE.bind h).mono fun us st1 ρ1 H1 _ s1 R1 h1 vs rvs => ?_⟩
  split at h1
  · rename_i hz
    rw [rvs.length] at hz
    split at h1
    · rename_i l hl
      refine ⟨hz, fun p hp => ?_⟩
      have f := R1.sto.fresh hp
      exact h1 ρ1 _ (Stp.laid hp) (R1.laid hp) _ (.d (.list (.inl (vis_of f.1 f.2 upd_same)) hz ((rvs.stp (Stp.laid hp)).allD hl)))
    · exact h1.elim
  · exact h1.elim
/-- x.replace(y, z), y and z written -/
def mRepl (y z : Str) (fo : SemE) : SemE := fun en st => (fo en st).bind fun u st => match u with
  | .d (.str x) => if x.length + (x.length + 1) * z.length ≤ 16777216 then .ok (.d (.str (Txt.replace x y z))) st else .bad
  | _ => .bad
theorem set_repl {o : Expr} {fo : SemE} {y z : Str} {j k : Nat} {c0 c1 apos pos : Pos} (ho : SE X oS G W o fo) (hyz : (y == z) = false := by decide)
    (hst : starEach [.Constant (.str y) j c0, .Constant (.str z) k c1] X.env = [(false, eval (.Constant (.str y) j c0) X.env), (false, eval (.Constant (.str z) k c1) X.env)] := by rfl)
    (hbase : attributeBase o "replace" X.env (eval o X.env) = eval o X.env := by rfl) (hline : (apos.endLine == pos.line) = true := by rfl) : SET X oS G W (.Call (.Attribute o "replace" apos) [.Constant (.str y) j c0, .Constant (.str z) k c1] [] pos) (mRepl y z fo) := by
  refine PET.imp (CwR.pet_replC ho hyz hst hbase hline) fun σ H Q ⟨B, ρ, en, st, R, h⟩ => ?_
  refine ⟨B, ρ, en, st, R, (PostE.bind h).mono fun u st1 ρ1 H1 _ s1 R1 h1 v rv => ?_⟩
  split at h1
  · split at h1
    · rename_i hz
      cases rv with
      | d rv =>
        cases rv
        exact ⟨_, rfl, hz, h1 ρ1 H1 (Stp.refl _ _) R1 _ (.d (.str _))⟩
    · exact h1.elim
  · exact h1.elim
/-- name = value -/
theorem sst_set {i : Nat} {x : Str} {e : Expr} {f : SemE} {pos pos' : Pos} (hN : X.N.Nodup) (hi : X.N[i]? = some x) (hx : Loc X.env.scope x) (he : SET X oS G W e f) (hc : NoCell oS i) (hs : swapsWith e (some (.Name x pos')) pos.line X.env = pure false := by rfl) (hf : X.fn x = true ∨ X.env.scope.names.lookup x = some .local := by first | exact .inl rfl | exact .inr rfl | assumption) : SST X oS G W (.Assign [.Name x pos'] e pos) (mAsgT f (mG i)) := by
  intro pins s σ H D h0 I ⟨B, ρ, en, st, R, h⟩
  have he' : PET X e (rdE oS G W f) := he
  refine wpAny_Assign_Name (thn (he' pins s σ H (fun v H1 => D.nx (σ.set i (some v)) H1) h0 I ⟨B, ρ, en, st, R, postE_of R h fun u st1 ρ1 H1 s1 R1 h1 v rv => h1 ρ1 H1 _ (Stp.refl _ _) (R1.setL rv hc)⟩) fun v s1 ⟨y, H1, I1, r1, q1⟩ => ?_) hs
  exact store_ok I1 hN hi hx r1 (fun s2 I2 => ⟨_, H1, I2, q1⟩) hf
/-! ### keywords -/
/-- f(e, .., k = v, ..): the keywords in the parameters' order -/
structure KwB (K : PySem.W.Frag) (fd : FuncData) (ps ks : List Str) : Prop where
  to : ∀ (s : Shared) (us ws : List Value), K.In s.heap → us.length + ks.length = ps.length → ws.length = ks.length → BindsTo s fd ⟨us, ks.zip ws⟩ (ps.zip (us ++ ws))
def SK (X : Cx) (oS : OwnS) (G : Gd) (W : WX) (kws : List Keyword) (f : SemA) : Prop := PK X kws (rdA oS G W f)
theorem PK.imp {kws : List Keyword} {t t' : TA} (h : PK X kws t) (i : ∀ σ H Q, t' σ H Q → t σ H Q) : PK X kws t' := ⟨fun pos pins s σ H Q I w => h.run pos pins s σ H Q I (i σ H Q w)⟩
theorem sk_nil : SK X oS G W [] mNil := PK.imp pk_nil fun σ H Q ⟨B, ρ, en, st, R, h⟩ => h ρ H (Stp.refl _ _) R [] .nil
theorem sk_cons {e : Expr} {kws : List Keyword} {nm : Option Str} {kpos : Pos} {f : SemE} {g : SemA} (he : SE X oS G W e f) (hs : SK X oS G W kws g) : SK X oS G W (⟨nm, e, kpos⟩ :: kws) (mCons f g) := by
  refine PK.imp (pk_cons he hs) fun σ H Q ⟨B, ρ, en, st, R, h⟩ => ?_
  refine ⟨B, ρ, en, st, R, (PostE.bind h).mono fun u st1 ρ1 H1 _ s1 R1 h1 v rv => ?_⟩
  refine ⟨B, ρ1, en, st1, R1, (PostE.bind h1).mono fun us st2 ρ2 H2 _ s2 R2 h2 vs rvs => ?_⟩
  exact h2 ρ2 H2 (Stp.refl _ _) R2 (v :: vs) (.cons (rv.stp s2) rvs)
theorem run_fk {k : Nat} {f : Addr} {fd : FuncData} {ps ks : List Str} {F : SemF} {pins : List (Addr × Obj)} {σ : L2.St} {H : Hp} {s : Shared} {Q : VK} {us ws : List Value} {vs : List V} {B ρ : List Addr} {en : Nv} {st : Sto} {uu : List U} (FF : FOk X.prog X.w X.K X.mg X.base G k f fd ps F) (hr : RoomG k X.A) (hb : KwB X.K fd ps ks) (tk : Takes X W)
    (I : L2.Inv X pins σ H s) (r : Vals vs (us ++ ws)) (R : Rel oS G B ρ en st σ H) (ru : RepUs G (vis B ρ H) ρ (oS σ) uu vs) (hl : uu.length = ps.length) (hws : ws.length = ks.length)
    (h : PostE oS G W B ρ en σ H (fun u ρ' H' _ => ∀ v, RepU G (vis B ρ' H') ρ' (oS σ) u v → Q v H') (if hasOwnL uu = false ∧ stOwn st = false then F uu st else .bad)) : wpAny (model X.prog X.w) X.A (call (.ref f) us (ks.zip ws)) (EP X pins σ Q) X.xe s := by
  split at h
  case isFalse => exact h.elim
  rename_i hno
  have hlen : (us ++ ws).length = ps.length := by rw [← r.length, ← ru.length, hl]
  have hsp : spF G ps.length F vs H Q (fun cls d H' => W cls d σ H') := by
    refine ⟨B, ρ, uu, st, hl, R.sto.noOwn hno.2, ru.noOwn hno.1, ?_⟩
    cases q : F uu st with
    | ok u st' =>
      rw [q] at h
      exact fun ρ' H' v s' S' rv => h ρ' H' s' (R.ofS s' (S'.own fun _ _ z => z.elim)) v (rv.le (Le.refl _) (fun _ _ z => z) fun _ _ z => z.elim)
    | exn c u st' =>
      rw [q] at h
      refine fun ρ' H' C d s' S' hx => h ρ' H' C d s' (S'.own fun _ _ z => z.elim) ⟨hx.1, ?_⟩
      cases u with
      | some u =>
        obtain ⟨_, dd, v, x2, x3, x4⟩ := hx
        exact ⟨dd, v, x2, x3, x4.le (Le.refl _) (fun _ _ z => z) fun _ _ z => z.elim⟩
      | none => exact hx.2
    | bad => rw [q] at h; exact h
  have bb := hb.to s us ws I.kIn (by rw [← hlen, List.length_append, hws]) hws
  have run := FF.run X.A X.stack s H ⟨us, ks.zip ws⟩ (us ++ ws) vs Q (fun cls d H' => W cls d σ H') hr I.env0 bb r hsp
  refine wpAny_call (codeAny_mono run fun r s' hq => ?_)
  cases r with
  | error e => exact tk e s' (XE.of_call I (fun cls d H' h => h) hq)
  | ok fl =>
    cases fl with
    | ret u => exact I.after hq
    | next => exact False.elim hq
    | brk => exact False.elim hq
    | cont => exact False.elim hq
/-- f(k = v, ..), all parameters so -/
theorem se_callK0 {k : Nat} {f : Addr} {fd : FuncData} {ps ks : List Str} {F : SemF} {x : Str} {p pos : Pos} {kws : List Keyword} {fs : SemA} (FF : FOk X.prog X.w X.K X.mg X.base G k f fd ps F) (hr : RoomG k X.A) (hg : Gl X x) (hm : X.mg x = some (.ref f)) (hk : PySem.W.keepIn X.K (.ref f) = true) (hb : KwB X.K fd ps ks) (tk : Takes X W)
    (hl : ks.length = ps.length) (ha : SK X oS G W kws fs) (hal : ∀ en st us st', fs en st = .ok us st' → us.length = ks.length) (hall : (backToKw pos (keywordEach kws X.env)).all (·.1.isSome) = true := by rfl) (hks : (backToKw pos (keywordEach kws X.env)).filterMap (·.1) = ks := by rfl) (hdb : (x == ("__debug__" : Str)) = false := by decide)
    (hpl : ((backTo pos (starEach [] X.env)).any (·.1) || (backToKw pos (keywordEach kws X.env)).any (·.1.isNone)) = false := by rfl) :
    SE X oS G W (.Call (.Name x p) [] kws pos) (mCall F fs) := by
  refine ⟨fun pins s σ H Q I h => ?_⟩
  refine wpAny_Call_Name_kw (ld_glob I hg hm ?_ hdb)
  obtain ⟨B, ρ, en, st, R, h⟩ := h
  have args := (ha : PK X _ _).run pos pins s σ H (fun vs H1 => ∃ ρ1 st1 us, Stp ρ H ρ1 H1 ∧ Rel oS G B ρ1 en st1 σ H1 ∧ RepUs G (vis B ρ1 H1) ρ1 (oS σ) us vs ∧ us.length = ks.length ∧
    PostE oS G W B ρ1 en σ H1 (fun u ρ' H' _ => ∀ v, RepU G (vis B ρ' H') ρ' (oS σ) u v → Q v H') (if hasOwnL us = false ∧ stOwn st1 = false then F us st1 else .bad)) I
    ⟨B, ρ, en, st, R, (PostE.bind h).mono fun us st1 ρ1 H1 eq s1 R1 h1 vs rvs => ⟨ρ1, st1, us, s1, R1, rvs, hal _ _ _ _ eq, h1⟩⟩
  refine PySem.W.callWith_KW0 (h₀ := X.base) I.ok.mod.kin hk hall (thn args fun ws s2 ⟨zs, H2, I2, rz, ρ1, st1, uu, _, R1, ru, hlu, h1⟩ => ⟨I2.kIn, ?_⟩) hpl
  rw [hks]
  exact run_fk (us := []) FF hr hb tk I2 rz R1 ru (by rw [hlu, hl]) (by rw [← rz.length, ← ru.length, hlu]) h1
end
section
variable {P : Program} {w : World} {K : PySem.W.Frag} {mg : Str → Option Value} {base : Heap} {G : Gd}
/-- THE RULE for a def that needs a token -/
theorem fok_defT {x qual : Str} {st : Stmt} {f : Addr} {fd : FuncData} {N ps : List Str} {k : Nat} {fb : SemS} (F : Fun K x qual st f fd) (S : FnScope N ps (defScope st)) (hnc : ∀ y ∈ (defScope st).names, y.2 ≠ .cell) (hps : 1 ≤ ps.length)
    (hbody : ∀ (cdv : Value) (A : Around) (outer : List Env) (s : Shared) (H : Hp) (E : XK), cdv = fd.code → RoomG k (A.deeper (envOfC qual (defScope st) s.heap.objs.size f cdv)) →
      ∀ X, X = cxOf (L2.CX P w) P w K mg base N qual (defScope st) f cdv A outer s H E → Takes X (fun cls d _ H => E cls d H) → PassesOwn (model X.prog X.w) X.A X.env X.xe →
      SLT X (ownV X) G (fun cls d _ H => E cls d H) (defBody st) fb) : FOk P w K mg base G (k + 1) f fd ps (fun us st => finS (fb (us.map some ++ List.replicate (N.length - us.length) none) st)) := by
  obtain ⟨oc, od, kV, doc, pm, an, cdv, ct, osl, rfl, lk, hcd⟩ := F.ex
  refine ⟨fun A outer s H args us vs Q E hr e0 hb r hsp => ?_⟩
  have hl := spF.len hsp
  have hul : us.length = ps.length := by rw [← r.length, hl]
  have KX : K.In s.heap := e0.mod.kin.keeps fun b o e => (e0.bs b o e).1
  have lim : s.heap.NoLimit := e0.mod.nolimit.keeps fun b o e => (e0.bs b o e).1
  have hloc : ∀ y ∈ ps.zip us, (defScope st).names.lookup y.1 = some .local := fun ⟨n, v⟩ hy => by
    rcases S.par n (List.of_mem_zip hy).1 with q | q
    · exact q
    · exact absurd rfl (hnc _ (PySem.mem_of_lookup q))
  refine codeAny_call_function hr.room.depth (KX _ _ lk) rfl S.co S.gen rfl (PySem.W.codeRec_of KX hcd) (hb _ _ _ _ ?_)
  refine wpAny_newFunctionEnv hnc hloc (fun h1 hns hsb => ?_) S.kind
  have hz : (ps.zip us).length = ps.length := by rw [List.length_zip, hul, Nat.min_self]
  have hcl : cellsFrom (s.heap.objs.size + 1) (defScope st).names [] = [] := cells_none _ _ _ hnc
  have hm : (bindL (envOfC qual (defScope st) s.heap.objs.size f cdv).kindOf (ps.zip us) fun _ => none) = fun x => (ps.zip us).reverse.lookup x := by
    funext y
    rw [bindL_loc _ _ (fun y hy => (by exact hloc y hy : (envOfC qual (defScope st) s.heap.objs.size f cdv).kindOf y.1 = some .local)) y]
    cases (ps.zip us).reverse.lookup y <;> rfl
  have x : InCallC s s.heap.objs.size (bindL (envOfC qual (defScope st) s.heap.objs.size f cdv).kindOf (ps.zip us) fun _ => none) (cellsFrom (s.heap.objs.size + 1) (defScope st).names [])
      (bindC (envOfC qual (defScope st) s.heap.objs.size f cdv).kindOf (ps.zip us) fun _ => none) ({ s with heap := h1, toks := s.toks + (ps.zip us).length } : Shared) := by
    rw [hm, hcl]
    exact ⟨⟨⟨_, _, rfl⟩, hns, fun b o e => hsb.extBut b o (Nat.ne_of_lt (Heap.lt_size e)) (Heap.get?_push_of_some _ e), Nat.le_refl _⟩, fun n c hc => absurd hc (by simp), .nil, fun n c hc => absurd hc (by simp)⟩
  have henv : newEnv (defScope st) s.heap.objs.size mainGlobals [] (qual ++ ".<locals>.") (some f) cdv none builtinsNs = envOfC qual (defScope st) s.heap.objs.size f cdv := by
    unfold envOfC
    rw [hcl] <;> rfl
  have hto : 1 ≤ ({ s with heap := h1, toks := s.toks + (ps.zip us).length } : Shared).toks := by
    show 1 ≤ s.toks + (ps.zip us).length
    omega
  show ({ s with heap := h1, toks := s.toks + (ps.zip us).length } : Shared).heap.NoLimit ∧ codeAny (model P w) A (.func (defBody st) (newEnv (defScope st) s.heap.objs.size mainGlobals [] (qual ++ ".<locals>.") (some f) cdv none builtinsNs)) _ ({ s with heap := h1, toks := s.toks + (ps.zip us).length } : Shared)
  rw [henv]
  generalize ({ s with heap := h1, toks := s.toks + (ps.zip us).length } : Shared) = s1 at x hto ⊢
  refine ⟨lim.keeps x.toInCall.keep, codeAny_func ?_⟩
  have hb := hbody cdv A outer s H E rfl (hr.deeper _) _ rfl (takes_of rfl rfl rfl rfl) (passes_of rfl)
  have I : Inv (cxOf (L2.CX P w) P w K mg base N qual (defScope st) f cdv A outer s H E) [] (L2.start N vs) H s1 := inv_start S hr.room.hd e0 hl r x
  obtain ⟨B, ρ, us', st', el, S0, rr, q⟩ := hsp
  have R := start_rel (X := cxOf (L2.CX P w) P w K mg base N qual (defScope st) f cdv A outer s H E) (N := N) S0 rr (ownV (cxOf (L2.CX P w) P w K mg base N qual (defScope st) f cdv A outer s H E))
  have body := (hb : PSsT _ _ _) [] s1 (L2.start N vs) H { nx := fun _ H' => Q .non H', rt := Q } hto I ⟨B, ρ, _, st', R, fin_post q⟩
  refine wpAny_mono body (fun fl s' hs => ?_) fun e s' hs => hs
  cases fl with
  | ret u =>
    obtain ⟨v, σ', H', J, rv, q⟩ := hs
    exact ⟨v, H', J.os, J.bare, J.base, J.hok, rv, q⟩
  | next =>
    obtain ⟨σ', H', J, q⟩ := hs
    exact ⟨.non, H', J.os, J.bare, J.base, J.hok, rfl, q⟩
  | brk =>
    obtain ⟨_, _, _, q⟩ := hs
    exact False.elim q
  | cont =>
    obtain ⟨_, _, _, q⟩ := hs
    exact False.elim q
end
end TT
set_option Elab.async false
set_option linter.all false
set_option maxRecDepth 100000
set_option maxHeartbeats 2000000
/-! the law's end; facts of the head -/
namespace TT
open PySem PySem.Spec PyProof.Rows L2 LamX NdefX
/-! ## own exception classes, looked at -/
def oexB (K : PySem.W.Frag) (C : Addr) : Bool := (match K.lookup C with
  | some ⟨.type "type", _, .cls cd, sl⟩ => (match cd.mro, sl.toList with
    | .ref C' :: bm, [_, _, _, _, some (.builtin n), _] => C' == C && n == "ValueError.__new__" && !cd.hasDel && cd.hasDict && PySem.HandSPX.refsVE bm
    | _, _ => false)
  | _ => false) && (decide (PySem.W.findIn K (.ref C) "__setattr__" = some (some (.builtin "object.__setattr__"))) && (decide (PySem.W.subIn K (.ref C) (.type "BaseException") = some true) && (decide (PySem.W.typeIn K (.ref C) = some (.type "type")) && PySem.W.keepIn K (.ref C))))
theorem oexB_ok {K : PySem.W.Frag} {C : Addr} (h : oexB K C = true) : OexC K C := by
  unfold oexB at h
  simp only [Bool.and_eq_true, decide_eq_true_eq] at h
  obtain ⟨h1, h2, h3, h4, h5⟩ := h
  refine ⟨?_, h2, h3, h4, h5⟩
  split at h1
  · rename_i dd cd sl ho
    split at h1
    · rename_i C' bm k0 k1 k2 k3 n k5 hm hs
      simp only [Bool.and_eq_true, beq_iff_eq, Bool.not_eq_true'] at h1
      obtain ⟨⟨⟨⟨rfl, rfl⟩, hdel⟩, hdi⟩, hve⟩ := h1
      obtain ⟨nm, bs, mro, ns, qn, hd, sn, sub, ab, col, del⟩ := cd
      dsimp only at hm hdel hdi
      subst hm hdel hdi
      have hsl : sl = #[k0, k1, k2, k3, some (.builtin "ValueError.__new__"), k5] := by
        obtain ⟨l⟩ := sl
        simp only at hs
        rw [hs]
      subst hsl
      exact ⟨nm, qn, ns, bs, bm, sn, sub, ab, col, dd, k0, k1, k2, k3, k5, ho, hve⟩
    · cases h1
  · cases h1
/-! ## parts of a text -/
def kidsE : Expr → List Expr
  | .Call f args kws _ => f :: (args ++ kws.map (·.value))
  | .BoolOp _ vs _ => vs
  | .BinOp a _ b _ => [a, b]
  | .UnaryOp _ a _ => [a]
  | .IfExp a b c _ => [a, b, c]
  | .Compare a _ cs _ => a :: cs
  | .List es _ => es
  | .Tuple es _ _ => es
  | .Subscript a b _ => [a, b]
  | .Attribute a _ _ => [a]
  | .Starred a _ => [a]
  | .ListComp e _ _ _ => [e]
  | _ => []
def exprsS : Stmt → List Expr
  | .Return (some e) _ => [e]
  | .Expr e _ => [e]
  | .Assign _ e _ => [e]
  | .AugAssign _ _ e _ => [e]
  | .For _ it _ _ _ => [it]
  | .While c _ _ _ => [c]
  | .If c _ _ _ => [c]
  | .Raise (some e) _ _ => [e]
  | _ => []
def bodiesS : Stmt → List Stmt
  | .FunctionDef _ _ b _ _ _ _ _ _ _ => b
  | .ClassDef _ _ _ b _ _ _ _ _ _ _ => b
  | .For _ _ a b _ => a ++ b
  | .While _ a b _ => a ++ b
  | .If _ a b _ => a ++ b
  | .Try a _ b c _ => a ++ b ++ c
  | _ => []
def eAt (e : Expr) : List Nat → Expr
  | [] => e
  | i :: r => eAt ((kidsE e).getD i e) r
def sAt (s : Stmt) : List Nat → Stmt
  | [] => s
  | i :: r => sAt ((bodiesS s).getD i s) r
def seAt (s : Stmt) (p q : List Nat) (k : Nat) : Expr := eAt ((exprsS (sAt s p)).getD k (.Name "" ⟨0, 0, 0, 0⟩)) q
def lamA : Expr → Arguments
  | .Lambda a _ _ _ => a
  | _ => { posonlyargs := [], args := [], vararg := none, kwonlyargs := [], kw_defaults := [], kwarg := none, defaults := [] }
def lamB : Expr → Expr
  | .Lambda _ b _ _ => b
  | e => e
def lamSc (d : Scope) : Expr → Scope
  | .Lambda _ _ s _ => s
  | _ => d
/-! ## defs by name -/
structure DefOk (P : Program) (w : World) (K : PySem.W.Frag) (mg : Str → Option Value) (base : Heap) (G : Gd) (k : Nat) (x : Str) (ps : List Str) (F : SemF) : Prop where
  ex : ∃ fd, FOk P w K mg base G k (He.ga K x) fd ps F ∧ Binds K fd ps [] ∧ KwB K fd ps ps
  kp : PySem.W.keepIn K (.ref (He.ga K x)) = true
  g : mg x = some (.ref (He.ga K x))
section
variable {X : Cx} {oS : OwnS} {G : Gd} {W : WX} {k j : Nat} {ps : List Str} {F : SemF} {x : Str} {p pos : Pos} {e : Expr} {es : List Expr}
theorem se_callD {fs : SemA} (D : DefOk X.prog X.w X.K X.mg X.base G j x ps F) (hr : RoomG k X.A) (hj : j ≤ k) (hg : Gl X x) (tk : Takes X W) (hl : (e :: es).length = ps.length)
    (ha : SA X oS G W (e :: es) fs) (hal : ∀ en st us st', fs en st = .ok us st' → us.length = (e :: es).length) (hdb : (x == ("__debug__" : Str)) = false := by decide) (he : starEach (e :: es) X.env = (false, eval e X.env) :: starEach es X.env := by rfl) (hpl : (backTo pos (starEach es X.env)).any (·.1) = false := by rfl) :
    SE X oS G W (.Call (.Name x p) (e :: es) [] pos) (mCall F fs) := by
  obtain ⟨fd, FF, hb, _⟩ := D.ex
  exact se_call FF (hr.mono hj) hg D.g D.kp hb tk hl ha hal hdb he hpl
theorem se_callXD {fs : SemA} (D : DefOk X.prog X.w X.K X.mg X.base G j x ps F) (hr : RoomG k X.A) (hj : j ≤ k) (CN : CellsNew X) (hg : Gl X x) (hl : (e :: es).length = ps.length)
    (ha : SA X (ownV X) G W (e :: es) fs) (hal : ∀ en st us st', fs en st = .ok us st' → us.length = (e :: es).length) (hdb : (x == ("__debug__" : Str)) = false := by decide) (he : starEach (e :: es) X.env = (false, eval e X.env) :: starEach es X.env := by rfl) (hpl : (backTo pos (starEach es X.env)).any (·.1) = false := by rfl) :
    SE X (ownV X) G W (.Call (.Name x p) (e :: es) [] pos) (mCallX F fs) := by
  obtain ⟨fd, FF, hb, _⟩ := D.ex
  exact se_callX FF (hr.mono hj) CN hg D.g D.kp hb hl ha hal hdb he hpl
theorem se_callKD {kws : List Keyword} {fs : SemA} (D : DefOk X.prog X.w X.K X.mg X.base G j x ps F) (hr : RoomG k X.A) (hj : j ≤ k) (hg : Gl X x) (tk : Takes X W) (ha : SK X oS G W kws fs) (hal : ∀ en st us st', fs en st = .ok us st' → us.length = ps.length)
    (hall : (backToKw pos (keywordEach kws X.env)).all (·.1.isSome) = true := by rfl) (hks : (backToKw pos (keywordEach kws X.env)).filterMap (·.1) = ps := by rfl) (hdb : (x == ("__debug__" : Str)) = false := by decide)
    (hpl : ((backTo pos (starEach [] X.env)).any (·.1) || (backToKw pos (keywordEach kws X.env)).any (·.1.isNone)) = false := by rfl) :
    SE X oS G W (.Call (.Name x p) [] kws pos) (mCall F fs) := by
  obtain ⟨fd, FF, _, hk⟩ := D.ex
  exact se_callK0 FF (hr.mono hj) hg D.g D.kp hk tk rfl ha hal hall hks hdb hpl
/-- a module's constants -/
theorem se_glS {z : Str} (hg : Gl X x) (hm : ∃ t, X.mg x = some (.str z t)) (hd : (x == ("__debug__" : Str)) = false := by decide) : SE X oS G W (.Name x pos) (mC (.str z)) := by
  obtain ⟨t, e⟩ := hm
  exact se_gl (v := .str z) hg e ⟨t, rfl⟩ (fun _ => .str z) hd
theorem se_glI {z : Int} (hg : Gl X x) (hm : ∃ t, X.mg x = some (.int z t)) (hd : (x == ("__debug__" : Str)) = false := by decide) : SE X oS G W (.Name x pos) (mC (.int z)) := by
  obtain ⟨t, e⟩ := hm
  exact se_gl (v := .int z) hg e ⟨t, rfl⟩ (fun _ => .int z) hd
end
/-! ## the end -/
/-- no list is part of what the head wrote down -/
def noLst (K : PySem.W.Frag) : Bool := K.all fun q => match q.2.cls with
  | .type c => !(c == "list")
  | _ => true
theorem noLst_none {K : PySem.W.Frag} {a : Addr} {o : Obj} (h : noLst K = true) (e : K.lookup a = some o) : o.cls ≠ .type "list" := fun z => by
  have q := List.all_eq_true.mp h _ (He.lookup_mem e)
  dsimp only at q
  rw [z] at q
  simp at q
theorem law_callG {P : Program} {w : World} {K : PySem.W.Frag} {mg mb : Str → Option Value} {G : Gd} {k : Nat} {fa a : Addr} {cs : List (Addr × Addr)} {x : Str} {F : SemF} {s₁ : Shared} {vs : List Value} {ns : List Int}
    (KX : K.In s₁.heap) (hns : s₁.heap.Ns mainGlobals mg) (hb : s₁.heap.Ns builtinsNs mb) (hbb : ∀ x : Str, x ≠ "__name__" → mb x = bootBuiltins x) (hlim : s₁.heap.NoLimit) (hg : s₁.gens = #[])
    (hT : ∀ p ∈ cs, s₁.heap.get? p.2 = some { cls := .none, data := .fields #[] }) (nT : ∀ p ∈ cs, K.lookup p.2 = none) (C : ∀ p ∈ cs, PySem.W.CodeHd s₁.heap p.1 p.2) (hGT : ∀ q ∈ G.T, ∃ p ∈ cs, q.1 = p.2)
    (hbm : ∃ (bm : Addr) (ob : Obj), mg "__builtins__" = some (.ref bm) ∧ bm ≠ builtinsNs ∧ s₁.heap.get? bm = some ob ∧ ob.cls = .type "module" ∧ ob.dict = some builtinsNs ∧ ob.data = .plain)
    (ha : s₁.heap.get? a = some { cls := .type "list", data := .seq vs.toArray }) (hi : IntsAre vs ns) (hl : ns.length ≤ sizeLine) (hr : Room k callerA) (hk : noLst K = true)
    (FF : ∀ base : Heap, K.In base → base.Ns mainGlobals mg → (∀ p ∈ cs, TabB base mg p.1 p.2) → ∃ fd, FOk P w K mg base G k fa fd [x] F ∧ Binds K fd [x] [])
    (hF : ∃ st, F [.d (.list (ns.map PyData.int))] [] = .ok (.d (.bool true)) st) :
    codeAny (model P w) callerA (.call (.ref fa) ⟨[.ref a], []⟩) (fun r s' => r = .ok (.ret (.bool true)) ∧ OldK s₁.heap s'.heap ∧ s'.os = s₁.os ∧ AllBare s'.gens) s₁ := by
  have rv := vals_ints hi
  have nKa : K.lookup a = none := by
    cases e : K.lookup a with
    | none => rfl
    | some o =>
      have z := KX _ _ e
      rw [ha] at z
      cases z
      exact (noLst_none hk e rfl).elim
  have isT : ∀ b : Addr, b ∈ cs.map (·.2) → s₁.heap.get? b = some { cls := .none, data := .fields #[] } := fun b hb => by
    obtain ⟨p, hp, e⟩ := List.mem_map.mp hb
    rw [← e]
    exact hT p hp
  have aT : a ∉ cs.map (·.2) := fun z => by
    have q := isT a z
    rw [ha] at q
    have z' : Data.seq vs.toArray _ = Data.fields #[] := congrArg Obj.data (Option.some.inj q)
    cases z'
  have memT : ∀ p ∈ cs, p.2 ∈ cs.map (·.2) := fun p hp => List.mem_map.mpr ⟨p, hp, rfl⟩
  obtain ⟨H, hHdef⟩ : ∃ H : Hp, H = fun b => if b = a then some (.frz { cls := .type "list", data := .seq vs.toArray } (.lst (ns.map V.int))) else if b ∈ cs.map (·.2) then some (.tbl #[]) else none := ⟨_, rfl⟩
  have Ha : H a = some (.frz { cls := .type "list", data := .seq vs.toArray } (.lst (ns.map V.int))) := by rw [hHdef]; exact if_pos rfl
  have Ht : ∀ b, b ∈ cs.map (·.2) → H b = some (.tbl #[]) := fun b hb => by
    rw [hHdef]
    exact (if_neg (show ¬ b = a from fun z => aT (by rw [← z]; exact hb))).trans (if_pos hb)
  have Hn : ∀ b, b ≠ a → b ∉ cs.map (·.2) → H b = none := fun b h1 h2 => by rw [hHdef]; exact (if_neg h1).trans (if_neg h2)
  have hok : HOk P w H s₁.heap := fun b u z => by
    by_cases h1 : b = a
    · rw [h1, Ha] at z
      cases z
      rw [h1]
      exact ⟨ha, by rw [List.length_map]; exact hl, vs, _, rv, ha⟩
    · by_cases h2 : b ∈ cs.map (·.2)
      · rw [Ht b h2] at z
        cases z
        exact isT b h2
      · rw [Hn b h1 h2] at z
        cases z
  have base_of : ∀ {b : Addr} {o : Obj}, s₁.heap.get? b = some o → H b = none → (hidT s₁.heap H).get? b = some o := fun e n => hidT_get e n
  have noD : ∀ {b : Addr} {o : Obj}, s₁.heap.get? b = some o → (∀ vs n, o.data ≠ .seq vs n) → o.data ≠ .fields #[] → H b = none := fun {b o} e h1 h2 => by
    refine Hn b (fun z => ?_) fun z => ?_
    · rw [z, ha] at e
      cases e
      exact h1 _ _ rfl
    · rw [isT b z] at e
      cases e
      exact h2 rfl
  have noA : ∀ {b : Addr} {o : Obj} {es : Array DictEntry} {ep : Nat}, s₁.heap.get? b = some o → o.data = .dict es ep → H b = none := fun {b o es ep} e d =>
    noD e (fun vs n z => by rw [d] at z; cases z) fun z => by rw [d] at z; cases z
  have nsK : ∀ {b : Addr} {m : Str → Option Value}, s₁.heap.Ns b m → (hidT s₁.heap H).Ns b m := fun {b m} ⟨o, es, ep, e, d, r⟩ => ⟨o, es, ep, base_of e (noA e d), d, r⟩
  have hKb : K.In (hidT s₁.heap H) := fun b o e => base_of (KX b o e) (Hn b (fun z => by rw [z, nKa] at e; cases e) fun z => by
    obtain ⟨p, hp, ep⟩ := List.mem_map.mp z
    rw [← ep, nT p hp] at e
    cases e)
  have hM : L2.Mod K mg (hidT s₁.heap H) := ⟨hKb, nsK hns, ⟨mb, nsK hb, hbb⟩, let ⟨mc, h1, h2⟩ := hlim; ⟨mc, nsK h1, h2⟩⟩
  have TB : ∀ p ∈ cs, TabB (hidT s₁.heap H) mg p.1 p.2 := fun p hp => by
    have hTp := hT p hp
    refine ⟨?_, ?_, fun z => ?_⟩
    · obtain ⟨o, us, file, tf, flags, tg, inF, text, tt, e1, r1, r2, r3, r4, r5, r6, r7, r8, hne⟩ := C p hp
      refine ⟨o, us, file, tf, flags, tg, inF, text, tt, base_of e1 (noD e1 (fun vs n z => ?_) fun z => ?_), r1, r2, r3, r4, r5, r6, r7, r8, hne⟩
      · rw [r2] at z
        cases z
      · rw [r2] at z
        cases z
        simp at r3
    · obtain ⟨bm, ob, b1, b2, b3, b4, b5, b6⟩ := hbm
      refine ⟨bm, ob, b1, b2, fun q => ?_, fun q => ?_, base_of b3 (noD b3 (fun vs n z => ?_) fun z => ?_), b4, b5, b6⟩
      · obtain ⟨o, es, ep, e, hd, _⟩ := hns
        rw [q, e] at b3
        cases b3
        rw [hd] at b6
        cases b6
      · rw [q, hTp] at b3
        cases b3
        cases b6
      · rw [b6] at z
        cases z
      · rw [b6] at z
        cases z
    · obtain ⟨o, es, ep, e, hd, _⟩ := hns
      rw [z, hTp] at e
      cases e
      cases hd
  have e0 : Env0 P w K mg (hidT s₁.heap H) callerA [] s₁ H := ⟨rfl, hM, fun b o e => of_hidT e, Nat.le_of_eq (hidT_size _ _), trivial, fun b hb => absurd (show b ∈ ([] : List Addr) from hb) (by simp), hok, .of_eq hg⟩
  have S : RelS G [] [] noOwn [] H := ⟨rfl, .nil, fun n c h => by simp at h, fun b hb => by simp at hb, fun q hq => by
    obtain ⟨p, hp, e⟩ := hGT q hq
    rw [e]
    exact TabN.nil (Ht _ (memT p hp))⟩
  have Ri : ∀ l : List Int, RepDs G.K (vis [] [] H) (l.map PyData.int) (l.map V.int) := fun l => by
    induction l with
    | nil => exact .nil
    | cons i l ih => exact .cons (.int i) ih
  have Ru : RepUs G (vis [] [] H) [] noOwn [.d (.list (ns.map PyData.int))] [.ref a] :=
    .cons (.d (.list (.inr ⟨_, vis_of (by simp) (by simp) Ha⟩) (by rw [List.length_map]; exact hl) (Ri ns))) .nil
  obtain ⟨st, hF⟩ := hF
  obtain ⟨fd, FF, hbind⟩ := FF _ hKb (nsK hns) TB
  refine codeAny_mono (FF.run callerA [] s₁ H ⟨[.ref a], []⟩ [.ref a] [.ref a] (fun v _ => v = .bl true) (fun _ _ _ => False) ⟨hr, rfl⟩ e0 (hbind s₁ [.ref a] KX rfl) (.cons rfl .nil) ⟨[], [], [.d (.list (ns.map PyData.int))], [], rfl, S, Ru, by
    rw [hF]
    intro ρ' H' v s S' r
    cases r with
    | d r => cases r; rfl⟩) fun r s' h => ?_
  cases r with
  | error e =>
    obtain ⟨_, _, _, _, _, _, _, _, _, _, _, _, z⟩ := (show L2.CX P w [] H s₁ _ e s' from h)
    exact z.elim
  | ok fl =>
    cases fl with
    | next => exact False.elim h
    | brk => exact False.elim h
    | cont => exact False.elim h
    | ret u =>
      obtain ⟨v, H', os, bare, un, hok', r', q⟩ := h
      have q' : v = .bl true := q
      subst q'
      obtain rfl : u = Value.bool true := r'
      have key : ∀ b o, b ∉ cs.map (·.2) → s₁.heap.get? b = some o → s'.heap.get? b = some o := fun b o nb e => by
        by_cases hb : b = a
        · have z2 := un.frzs b _ _ (by rw [hb]; exact Ha)
          obtain ⟨e2, _⟩ := hok' b _ z2
          rw [hb, ha] at e
          cases e
          exact e2
        · exact un.keep b o e (Hn b hb nb) (fun z => absurd (show b ∈ ([] : List Addr) from z) (by simp)) (by simp)
      have grown : ∀ p ∈ cs, ∃ more : Array Value, s'.heap.get? p.2 = some { cls := .none, data := .fields more } := fun p hp => by
        obtain ⟨more, z⟩ := un.tbls p.2 #[] (Ht _ (memT p hp))
        exact ⟨_, hok' p.2 _ z⟩
      refine ⟨rfl, ⟨fun b o e => ?_, fun b o e => ?_⟩, os, bare⟩
      · by_cases hb : b ∈ cs.map (·.2)
        · obtain ⟨p, hp, ep⟩ := List.mem_map.mp hb
          obtain ⟨more, hm⟩ := grown p hp
          rw [← ep] at e ⊢
          rw [hT p hp] at e
          cases e
          exact .inr (.inl ⟨((C p hp).tab (hT p hp)).isCodeTable, rfl, #[], more, rfl, by rw [Array.empty_append]; exact hm⟩)
        · exact .inl (key b o hb e)
      · by_cases hb : b ∈ cs.map (·.2)
        · obtain ⟨p, hp, ep⟩ := List.mem_map.mp hb
          obtain ⟨more, hm⟩ := grown p hp
          rw [← ep]
          exact ⟨_, hm⟩
        · exact ⟨o, key b o hb e⟩
theorem walk_ofG {l : PySem.W.OpenLaw} {n k : Nat} {q : Program} {loose : List Str} {XP : (Str → Option Value) → Heap → Prop} {YP : World → Heap → Prop} {d : DefRec} {x : Str} {F : SemF}
    (hn : l.most = some n) (hn2 : n ≤ sizeLine) (hdf : d.params.defaults = []) (hr : Room k callerA)
    (FX : ∀ (w : World) (mg : Str → Option Value) (fa : Addr) (h : Heap), YP w h → h.Ns mainGlobals mg → mg d.name = some (.ref fa) → ∃ (K : PySem.W.Frag) (G : Gd) (cs : List (Addr × Addr)), K.In h ∧ noLst K = true ∧
      (∀ p ∈ cs, h.get? p.2 = some { cls := .none, data := .fields #[] }) ∧ (∀ p ∈ cs, K.lookup p.2 = none) ∧ (∀ p ∈ cs, PySem.W.CodeHd h p.1 p.2) ∧ (∀ q ∈ G.T, ∃ p ∈ cs, q.1 = p.2) ∧
      ∀ base : Heap, K.In base → base.Ns mainGlobals mg → (∀ p ∈ cs, TabB base mg p.1 p.2) → ∃ fd, FOk l.prog w K mg base G k fa fd [x] F ∧ Binds K fd [x] [])
    (hF : ∀ ns : List Int, ns.length ≤ n → (∀ z ∈ ns, Builtin.Int.intBits z ≤ 1048576) → ∃ st, F [.d (.list (ns.map PyData.int))] [] = .ok (.d (.bool true)) st) :
    PySem.W.WalkO q loose XP YP l.row.toRowW d [] (fun f vs => PySem.call f vs) := by
  refine Att.attach_callB hn hdf fun w s₀ s₁ mg mb fa o pm cd doc a vs ns G Y ho hd hcd hmg hobj hints hlen hbits hg => ?_
  obtain ⟨K, Gd, cs, KX, hk, hT, nT, C, hGT, hFF⟩ := FX w mg fa _ Y G.T.g hmg
  exact law_callG KX G.T.g G.T.b G.T.builtins G.T.nolimit hg hT nT C hGT G.T.bmain hobj hints (Nat.le_trans hlen hn2) hr hk hFF (hF ns hlen hbits)
end TT
namespace TT
open PySem PySem.Spec PyProof.Rows L2 LamX NdefX
theorem funD_fun {K : PySem.W.Frag} {x qual : Str} {st : Stmt} {kws : List (Str × V)} {f : Addr} {fd : FuncData} (F : FunD K x qual (defArgs st) (defBody st) (defScope st) [] kws f fd) : Fun K x qual st f fd := by
  obtain ⟨oc, od, dV, kV, doc, pm, an, cdv, ct, osl, e, lk, hcd, hD, _⟩ := F.ex
  rcases hD with ⟨_, rfl⟩ | ⟨z, _⟩
  · exact ⟨⟨oc, od, kV, doc, pm, an, cdv, ct, osl, e, lk, hcd⟩, F.kp⟩
  · exact absurd rfl z
theorem fun_code {K : PySem.W.Frag} {x qual : Str} {st : Stmt} {p : Str × Option Str} {fd : FuncData} (F : Fun K x qual st (He.fAd K p) fd) : fd.code = .ref (He.codeOf K p) := by
  obtain ⟨oc, od, kV, doc, pm, an, cdv, ct, osl, e, lk, hcd⟩ := F.ex
  obtain ⟨c, hc⟩ := He.codeIn_ref hcd
  have e2 : fd.code = .ref c := by rw [e]; exact hc
  rw [He.codeOf_eq lk e2, e2]
theorem fun_kwb {K : PySem.W.Frag} {x qual : Str} {st : Stmt} {f : Addr} {fd : FuncData} {ps : List Str} (F : Fun K x qual st f fd)
    (h : ∀ (kV doc pm : Value) (an : Option Addr) (cdv ct : Value) (ws : List Value), ws.length = ps.length → bindArgs (PySem.W.fnOf x qual (defArgs st) (defBody st) (defScope st) .none kV doc pm an cdv ct) ⟨[], ps.zip ws⟩ = pure (ps.zip ws)) : KwB K fd ps ps := by
  obtain ⟨oc, od, kV, doc, pm, an, cdv, ct, osl, rfl, lk, hcd⟩ := F.ex
  refine ⟨fun s us ws _ h1 h2 => ?_⟩
  have e : us = [] := by
    cases us with
    | nil => rfl
    | cons a r => rw [List.length_cons] at h1; omega
  subst e
  exact .of_eq (h kV doc pm an cdv ct ws h2)
/-- a def by its body -/
theorem def_ok {P : Program} {w : World} {K : PySem.W.Frag} {mg : Str → Option Value} {base : Heap} {G : Gd} {x : Str} {st : Stmt} {N ps : List Str} {k : Nat} {fb : SemS} (F : ∃ fd, Fun K x x st (He.ga K x) fd) (hm : mg x = some (.ref (He.ga K x))) (S : FnScope N ps (defScope st)) (hc : cellNamesB (defScope st) = true)
    (h : ∀ (kV doc pm : Value) (an : Option Addr) (cdv ct : Value) (us : List Value), us.length = ps.length → bindArgs (PySem.W.fnOf x x (defArgs st) (defBody st) (defScope st) .none kV doc pm an cdv ct) ⟨us, []⟩ = pure (ps.zip us))
    (h2 : ∀ (kV doc pm : Value) (an : Option Addr) (cdv ct : Value) (ws : List Value), ws.length = ps.length → bindArgs (PySem.W.fnOf x x (defArgs st) (defBody st) (defScope st) .none kV doc pm an cdv ct) ⟨[], ps.zip ws⟩ = pure (ps.zip ws))
    (hbody : ∀ (cdv : Value) (A : Around) (outer : List Env) (s : Shared) (H : Hp) (E : XK), cdv = .ref (He.codeOf K (x, none)) → RoomG k (A.deeper (envOfC x (defScope st) s.heap.objs.size (He.ga K x) cdv)) →
      ∀ X, X = cxOf (L2.CX P w) P w K mg base N x (defScope st) (He.ga K x) cdv A outer s H E → Takes X (fun cls d _ H => E cls d H) → PassesOwn (model X.prog X.w) X.A X.env X.xe → CellsNew X →
      SL X (ownV X) G (fun cls d _ H => E cls d H) (defBody st) fb) : DefOk P w K mg base G (k + 1) x ps (runF N.length fb) := by
  obtain ⟨fd, F⟩ := F
  have hcd := fun_code (p := (x, none)) F
  exact ⟨⟨fd, fok_def F S hc fun cdv A outer s H E e => hbody cdv A outer s H E (by rw [e, hcd]), F.binds h, fun_kwb F h2⟩, F.kp, hm⟩
theorem def_okT {P : Program} {w : World} {K : PySem.W.Frag} {mg : Str → Option Value} {base : Heap} {G : Gd} {x : Str} {st : Stmt} {N ps : List Str} {k : Nat} {fb : SemS} (F : ∃ fd, Fun K x x st (He.ga K x) fd) (hm : mg x = some (.ref (He.ga K x))) (S : FnScope N ps (defScope st)) (hnc : ((defScope st).names.all fun y => !decide (y.2 = .cell)) = true) (hps : 1 ≤ ps.length)
    (h : ∀ (kV doc pm : Value) (an : Option Addr) (cdv ct : Value) (us : List Value), us.length = ps.length → bindArgs (PySem.W.fnOf x x (defArgs st) (defBody st) (defScope st) .none kV doc pm an cdv ct) ⟨us, []⟩ = pure (ps.zip us))
    (h2 : ∀ (kV doc pm : Value) (an : Option Addr) (cdv ct : Value) (ws : List Value), ws.length = ps.length → bindArgs (PySem.W.fnOf x x (defArgs st) (defBody st) (defScope st) .none kV doc pm an cdv ct) ⟨[], ps.zip ws⟩ = pure (ps.zip ws))
    (hbody : ∀ (cdv : Value) (A : Around) (outer : List Env) (s : Shared) (H : Hp) (E : XK), cdv = .ref (He.codeOf K (x, none)) → RoomG k (A.deeper (envOfC x (defScope st) s.heap.objs.size (He.ga K x) cdv)) →
      ∀ X, X = cxOf (L2.CX P w) P w K mg base N x (defScope st) (He.ga K x) cdv A outer s H E → Takes X (fun cls d _ H => E cls d H) → PassesOwn (model X.prog X.w) X.A X.env X.xe →
      SLT X (ownV X) G (fun cls d _ H => E cls d H) (defBody st) fb) : DefOk P w K mg base G (k + 1) x ps (fun us st => finS (fb (us.map some ++ List.replicate (N.length - us.length) none) st)) := by
  obtain ⟨fd, F⟩ := F
  have hcd := fun_code (p := (x, none)) F
  have hnc2 : ∀ y ∈ (defScope st).names, y.2 ≠ .cell := fun y hy => by simpa using List.all_eq_true.mp hnc y hy
  exact ⟨⟨fd, fok_defT F S hnc2 hps fun cdv A outer s H E e => hbody cdv A outer s H E (by rw [e, hcd]), F.binds h, fun_kwb F h2⟩, F.kp, hm⟩
/-- no captured cell at a plain local's slot -/
theorem nc_def {X : Cx} {i : Nat} {x : Str} (CN : CellsNew X) (hi : X.N[i]? = some x) (hx : X.env.scope.names.lookup x = some .local) : NoCell (ownV X) i :=
  noCell_def hi (by
    cases e : X.env.cells.lookup x with
    | none => rfl
    | some c => rcases CN.kin x c e with z | z <;> rw [hx] at z <;> cases z)
end TT
namespace TT
open PySem PySem.Spec PyProof.Rows L2 LamX NdefX
def lamfB (sc nsc : Scope) (fr : List Str) : Bool := (nsc.names.all fun y => !decide (y.2 = .free) || ((decide (sc.names.lookup y.1 = some .cell) || decide (sc.names.lookup y.1 = some .free)) && decide (y.1 ∈ fr))) && fr.all fun y => decide ((y, NameKind.free) ∈ nsc.names)
theorem se_lamB {X : Cx} {G : Gd} {W : WX} {kc : Nat} {js : List Nat} {nm : Nat → Nat → Str} {c P : Addr} {params : Arguments} {body : Expr} {scope : Scope} {pos : Pos} {fr : List Str} (TB : TabB X.base X.mg c P) (hcode : X.env.code = .ref c) (hm : (P, nm) ∈ G.T) (hu : ∀ p ∈ G.T, p.1 = P → p.2 = nm) (hn : nm pos.line pos.col = X.env.qual ++ "<lambda>")
    (hdef : defaultsOf params X.env = ([], [])) (hcod : G.cod kc = some (lamI X params body scope fr)) (hB : lamfB X.env.scope scope fr = true)
    (hjs : js.map (fun j => X.N[j]?) = fr.map some) : SE X (ownV X) G W (.Lambda params body scope pos) (mLam kc js) := by
  unfold lamfB at hB
  simp only [Bool.and_eq_true, Bool.or_eq_true, Bool.not_eq_true', decide_eq_true_eq, decide_eq_false_iff_not, List.all_eq_true] at hB
  exact se_lam TB hcode hm hn hu hdef (fun y hy e => ((hB.1 y hy).resolve_left fun z => z e).1) hcod (fun y hy => hB.2 y hy) (fun y hy e => ((hB.1 y hy).resolve_left fun z => z e).2) hjs
end TT
set_option Elab.async false
set_option linter.all false
set_option maxRecDepth 100000
set_option maxHeartbeats 2000000
/-! tests that compare -/
namespace TT
open PySem PySem.Spec PyProof.Rows L2
section
variable {X : Cx} {oS : OwnS} {G : Gd} {W : WX}
theorem tk0 : L2.Takes X (fun _ _ _ _ => False) := L2.takes0
def mTst (f : SemE) : SemT := fun en st => (f en st).bind fun u st => match u with
  | .d (.bool b) => .ok b st
  | _ => .bad
theorem rd_tst {f : SemE} {σ : L2.St} {H : Hp} {Q : Bool → Hp → Prop} (h : rdT oS G W (mTst f) σ H Q) : rdE oS G W f σ H (fun x H' => ∃ k, x = .bl k ∧ Q k H') := by
  obtain ⟨B, ρ, en, st, R, h⟩ := h
  refine ⟨B, ρ, en, st, R, (PostE.bind h).mono fun u st1 ρ1 H1 _ s1 R1 h1 v rv => ?_⟩
  split at h1
  · cases rv with
    | d rv =>
      cases rv
      exact ⟨_, rfl, h1 ρ1 H1 (Stp.refl _ _) R1⟩
  · exact h1.elim
theorem st_cmp {op : CmpOp} {r : R2} {g : U → U → Sto → Res U} {a b : Expr} {fa fb : SemE} {pos : Pos} (ho : OpR X (compareOp op) r) (hg : OpS oS G W r g) (ha : SE X oS G W a fa) (hb : SE X oS G W b fb) (hm : behindInMarks op b = false) : ST X oS G W (.Compare a [op] [b] pos) (mTst (mOp g fa fb)) :=
  PT.imp (pt_cmpR ho ha hb hm) fun _ _ _ h => rd_op hg (rd_tst h)
variable {a b : Expr} {fa fb : SemE} {pos : Pos} (hK : X.K = G.K)
include hK
theorem st_C2 {op : CmpOp} {g : D → D → Option D} (h : OpR X (compareOp op) (rD2 X.K g)) (ha : SE X oS G W a fa) (hb : SE X oS G W b fb) (hm : behindInMarks op b = false) : ST X oS G W (.Compare a [op] [b] pos) (mTst (mOp (gD2 g) fa fb)) := st_cmp (by rw [hK] at h; exact h) ops_D2 ha hb hm
variable {k : Nat} (hr : Room k X.A)
include hr
theorem st_lt (ha : SE X oS G W a fa) (hb : SE X oS G W b fb) : ST X oS G W (.Compare a [.Lt] [b] pos) (mTst (mOp (gD2 ltD) fa fb)) := st_C2 hK (op_ltD hr.units0) ha hb (nobehind _ (by decide) (by decide))
theorem st_le (ha : SE X oS G W a fa) (hb : SE X oS G W b fb) : ST X oS G W (.Compare a [.LtE] [b] pos) (mTst (mOp (gD2 leD) fa fb)) := st_C2 hK op_leD ha hb (nobehind _ (by decide) (by decide))
theorem st_gt (ha : SE X oS G W a fa) (hb : SE X oS G W b fb) : ST X oS G W (.Compare a [.Gt] [b] pos) (mTst (mOp (gD2 gtD) fa fb)) := st_C2 hK op_gtD ha hb (nobehind _ (by decide) (by decide))
theorem st_ge (ha : SE X oS G W a fa) (hb : SE X oS G W b fb) : ST X oS G W (.Compare a [.GtE] [b] pos) (mTst (mOp (gD2 geD) fa fb)) := st_C2 hK op_geD ha hb (nobehind _ (by decide) (by decide))
theorem st_eq (ha : SE X oS G W a fa) (hb : SE X oS G W b fb) : ST X oS G W (.Compare a [.Eq] [b] pos) (mTst (mOp (gD2 eqD) fa fb)) := st_C2 hK (op_eqDD hr.units) ha hb (nobehind _ (by decide) (by decide))
theorem st_ne (ha : SE X oS G W a fa) (hb : SE X oS G W b fb) : ST X oS G W (.Compare a [.NotEq] [b] pos) (mTst (mOp (gD2 neD) fa fb)) := st_C2 hK (op_neDD hr.units) ha hb (nobehind _ (by decide) (by decide))
theorem st_in (ha : SE X oS G W a fa) (hb : SE X oS G W b fb) (hm : behindInMarks .In b = false := by rfl) : ST X oS G W (.Compare a [.In] [b] pos) (mTst (mOp (gD2 (inD false)) fa fb)) := st_C2 hK (op_inDD (units65 hK hr)) ha hb hm
theorem st_notIn (ha : SE X oS G W a fa) (hb : SE X oS G W b fb) (hm : behindInMarks .NotIn b = false := by rfl) : ST X oS G W (.Compare a [.NotIn] [b] pos) (mTst (mOp (gD2 (inD true)) fa fb)) := st_C2 hK (op_notInDD (units65 hK hr)) ha hb hm
end
section
variable {X : Cx} {oS : OwnS} {G : Gd} {W : WX} {a b : Expr} {fa fb : SemE} {pos : Pos}
theorem st_isN (ha : SE X oS G W a fa) (hb : SE X oS G W b fb) : ST X oS G W (.Compare a [.Is] [b] pos) (mTst (mOp (gIsN false) fa fb)) := st_cmp op_isN ops_isN ha hb (nobehind _ (by decide) (by decide))
theorem st_notN (ha : SE X oS G W a fa) (hb : SE X oS G W b fb) : ST X oS G W (.Compare a [.IsNot] [b] pos) (mTst (mOp (gIsN true) fa fb)) := st_cmp op_notN ops_notN ha hb (nobehind _ (by decide) (by decide))
end
end TT
set_option Elab.async false
set_option linter.all false
set_option maxRecDepth 100000
set_option maxHeartbeats 2000000
/-! what a def gives back stands still: its own cells are dropped -/
namespace TT
open PySem PySem.Spec PyProof.Rows L2 LamX NdefX
mutual
def refLt (n : Nat) : U → Bool
  | .ref k => decide (k < n)
  | .tup l => refLtL n l
  | .clo _ _ caps => refLtL n caps
  | _ => true
def refLtL (n : Nat) : List U → Bool
  | [] => true
  | u :: r => refLt n u && refLtL n r
end
def cellLt (n : Nat) : Cell → Bool
  | .lst l => refLtL n l
  | .dct l => l.all fun p => refLt n p.2
section
variable {G : Gd} {H H' : Hp} {ρ ρ' : List Addr} {own : OwnV} {n : Nat}
mutual
theorem RepU.cut (hp : ∀ (k : Nat) (a : Addr), k < n → ρ'[k]? = some a → ρ[k]? = some a) (e : Le H H') : ∀ {u : U} {v : V}, RepU G H ρ' own u v → refLt n u = true → RepU G H' ρ own u v
  | _, _, .d r, _ => .d (r.le e)
  | _, _, .ref h, z => .ref (hp _ _ (of_decide_eq_true z) h)
  | _, _, .fn h, _ => .fn h
  | _, _, .tup s l r, z => .tup (SqT.le e s) l (RepUs.cut hp e r z)
  | _, _, .cloO k h h' co q r, z => .cloO k (e _ _ h cloO_nt) (e _ _ h' codeO_nt) co q (RepUs.cut hp e r z)
  | _, _, .cloH k h h' co q r, z => .cloH k (e _ _ h cloO_nt) (e _ _ h' codeO_nt) co (Paired.mapP q fun _ _ ⟨c, o, u, z1, z2, z3⟩ => ⟨c, o, u, z1, e _ _ z2 cellO_nt, z3⟩) (RepUs.cut hp e r z)
theorem RepUs.cut (hp : ∀ (k : Nat) (a : Addr), k < n → ρ'[k]? = some a → ρ[k]? = some a) (e : Le H H') : ∀ {u : List U} {v : List V}, RepUs G H ρ' own u v → refLtL n u = true → RepUs G H' ρ own u v
  | _, _, .nil, _ => .nil
  | _, _, .cons a b, z => by
    have z2 := Bool.and_eq_true_iff.mp z
    exact .cons (RepU.cut hp e a z2.1) (RepUs.cut hp e b z2.2)
end
theorem Paired.mapMem {α β : Type} {F F' : α → β → Prop} : ∀ {l : List α} {m : List β}, Paired F l m → (∀ a b, a ∈ l → F a b → F' a b) → Paired F' l m
  | _, _, .nil, _ => .nil
  | _, _, .cons h t, i => .cons (i _ _ (List.mem_cons_self ..) h) (Paired.mapMem t fun a b ha => i a b (List.mem_cons_of_mem _ ha))
theorem RepC.cut (hp : ∀ (k : Nat) (a : Addr), k < n → ρ'[k]? = some a → ρ[k]? = some a) (e : Le H H') {c : Cell} {o : HO} (r : RepC G H ρ' own c o) (h : cellLt n c = true) : RepC G H' ρ own c o := by
  cases r with
  | lst z r => exact .lst z (r.cut hp e h)
  | dK r => exact .dK (Paired.mapMem r fun p q hm z => ⟨z.1, z.2.cut hp e (List.all_eq_true.mp h p hm)⟩)
  | dT r => exact .dT (Paired.mapMem r fun p q hm z => ⟨z.1, z.2.cut hp e (List.all_eq_true.mp h p hm)⟩)
end
theorem vis_cut {B ρ ρ' : List Addr} {H : Hp} (h : ∀ a, a ∈ ρ → a ∈ ρ') : Le (vis B ρ' H) (vis B ρ H) := fun b o e _ => by
  obtain ⟨h1, h2, h3⟩ := vis_some e
  exact vis_of h1 (fun z => h2 (h b z)) h3
theorem pre_take {α : Type} {l m : List α} (h : ∀ (n : Nat) (a : α), l[n]? = some a → m[n]? = some a) : l = m.take l.length ∧ l.length ≤ m.length := by
  have hl : l.length ≤ m.length := by
    rcases Nat.eq_zero_or_pos l.length with z | z
    · omega
    · have e := h (l.length - 1) l[l.length - 1] (List.getElem?_eq_getElem (by omega))
      have := (List.getElem?_eq_some_iff.mp e).1
      omega
  refine ⟨List.ext_getElem? fun i => ?_, hl⟩
  by_cases hi : i < l.length
  · rw [List.getElem?_take, if_pos hi, List.getElem?_eq_getElem hi]
    exact (h i _ (List.getElem?_eq_getElem hi)).symm
  · rw [List.getElem?_eq_none (by omega), List.getElem?_take, if_neg hi]
theorem Stp.cut {ρ ρ' : List Addr} {H H' : Hp} (s : Stp ρ H ρ' H') : Stp ρ H ρ H' := ⟨s.keep, s.dom, fun _ _ h => h, fun _ h => .inl h⟩
theorem RelS.cut {G : Gd} {B ρ ρ' : List Addr} {own : OwnV} {st' : Sto} {H : Hp} {n : Nat} (r : RelS G B ρ' own st' H) (pre : ∀ (n : Nat) (a : Addr), ρ[n]? = some a → ρ'[n]? = some a) (hn : ρ.length = n) (h : (st'.take n).all (cellLt n) = true) : RelS G B ρ own (st'.take n) H := by
  obtain ⟨e, hl⟩ := pre_take pre
  have hs := r.len
  have mem : ∀ a, a ∈ ρ → a ∈ ρ' := fun a ha => by
    rw [e] at ha
    exact List.mem_of_mem_take ha
  refine ⟨by rw [List.length_take]; omega, by rw [e]; exact r.nd.sublist (List.take_sublist _ _), fun k c hc => ?_, fun b hb => ?_, r.tabs⟩
  · rw [List.getElem?_take] at hc
    split at hc
    · rename_i hk
      obtain ⟨a, o, h1, h2, h3⟩ := r.cell k c hc
      have hk2 : k < ρ.length := by omega
      have q := pre k ρ[k] (List.getElem?_eq_getElem hk2)
      rw [h1] at q
      refine ⟨a, o, by rw [List.getElem?_eq_getElem hk2, ← Option.some.inj q], h2, h3.cut (n := n) (fun j b hj hb => ?_) (vis_cut mem) ?_⟩
      · have hj2 : j < ρ.length := by omega
        have q := pre j ρ[j] (List.getElem?_eq_getElem hj2)
        rw [hb] at q
        rw [List.getElem?_eq_getElem hj2, ← Option.some.inj q]
      · refine List.all_eq_true.mp h c ?_
        exact List.mem_of_getElem? (i := k) (by rw [List.getElem?_take, if_pos hk]; exact hc)
    · cases hc
  · obtain ⟨h1, h2⟩ := r.hid b hb
    exact ⟨fun z => h1 (mem b z), h2⟩
/-! ## freezing -/
def allO (f : U → Option D) : List U → Option (List D)
  | [] => some []
  | u :: r => match f u, allO f r with
    | some d, some ds => some (d :: ds)
    | _, _ => none
def allP (f : U → Option D) : List (D × U) → Option (List (D × D))
  | [] => some []
  | p :: r => match f p.2, allP f r with
    | some d, some ds => some ((p.1, d) :: ds)
    | _, _ => none
def frz (st : Sto) (n0 : Nat) : Nat → U → Option D
  | 0, u => (match u with
    | .d x => some x
    | _ => none)
  | k + 1, u => match u with
    | .d x => some x
    | .ref m => if n0 ≤ m then (match st[m]? with
      | some (.lst l) => (match allO (frz st n0 k) l with
        | some ds => some (.list ds)
        | none => none)
      | some (.dct l) => (match allP (frz st n0 k) l with
        | some ds => some (.dict ds)
        | none => none)
      | none => none) else none
    | .tup l => (match allO (frz st n0 k) l with
      | some ds => some (.tuple ds)
      | none => none)
    | _ => none
section
variable {G : Gd} {H : Hp} {B ρ : List Addr} {own : OwnV} {n : Nat} {st : Sto}
theorem allO_rep {f : U → Option D} {Hv : Hp} : ∀ {l : List U} {vs : List V} {ds : List D}, RepUs G (vis B ρ H) ρ own l vs → (∀ u v d, RepU G (vis B ρ H) ρ own u v → f u = some d → RepD G.K Hv d v) → allO f l = some ds → RepDs G.K Hv ds vs
  | [], _, ds, .nil, hf, h => by cases h; exact .nil
  | u :: l, _, ds, .cons a b, hf, h => by
    unfold allO at h
    split at h
    · rename_i d ds2 e1 e2
      cases h
      exact .cons (hf _ _ _ a e1) (allO_rep b hf e2)
    · cases h
theorem allP_repK {f : U → Option D} {Hv : Hp} : ∀ {l : List (D × U)} {vs : List (Key × V)} {ds : List (D × D)}, Paired (fun (p : D × U) (q : Key × V) => keyOf p.1 = some q.1 ∧ RepU G (vis B ρ H) ρ own p.2 q.2) l vs → (∀ u v d, RepU G (vis B ρ H) ρ own u v → f u = some d → RepD G.K Hv d v) → allP f l = some ds → RepK G.K Hv ds vs
  | [], _, ds, .nil, hf, h => by cases h; exact .nil
  | u :: l, _, ds, .cons (b := ⟨q1, q2⟩) a b, hf, h => by
    unfold allP at h
    split at h
    · rename_i d ds2 e1 e2
      cases h
      exact .cons a.1 (hf _ _ _ a.2 e1) (allP_repK b hf e2)
    · cases h
theorem allP_repT {f : U → Option D} {Hv : Hp} : ∀ {l : List (D × U)} {vs : List (List Key × V)} {ds : List (D × D)}, Paired (fun (p : D × U) (q : List Key × V) => (∃ ks, p.1 = .tuple ks ∧ keysOf ks = some q.1) ∧ RepU G (vis B ρ H) ρ own p.2 q.2) l vs → (∀ u v d, RepU G (vis B ρ H) ρ own u v → f u = some d → RepD G.K Hv d v) → allP f l = some ds → RepT G.K Hv ds vs
  | [], _, ds, .nil, hf, h => by cases h; exact .nil
  | (u1, u2) :: l, _, ds, .cons (b := ⟨q1, q2⟩) a b, hf, h => by
    unfold allP at h
    split at h
    · rename_i d ds2 e1 e2
      cases h
      obtain ⟨⟨ks, hk, hk2⟩, a2⟩ := a
      dsimp only at hk
      subst hk
      exact .cons hk2 (hf _ _ _ a2 e1) (allP_repT b hf e2)
    · cases h
/-- what is frozen is data in a heap that hides the first cells alone -/
theorem frz_rep (S : RelS G B ρ own st H) {ρ0 : List Addr} (hm : ∀ a, a ∈ ρ0 → a ∈ ρ) (ho : ∀ (m : Nat) (a : Addr), n ≤ m → ρ[m]? = some a → a ∉ ρ0) : ∀ (k : Nat) {u : U} {v : V} {d : D}, RepU G (vis B ρ H) ρ own u v → frz st n k u = some d → RepD G.K (vis B ρ0 H) d v
  | 0, u, v, d, r, h => by
    unfold frz at h
    split at h
    · cases h
      cases r with
      | d r => exact r.le (vis_cut hm)
    · cases h
  | k + 1, u, v, d, r, h => by
    unfold frz at h
    split at h
    · cases h
      cases r with
      | d r => exact r.le (vis_cut hm)
    · rename_i m
      split at h
      · rename_i hnm
        cases r with
        | ref hr =>
          rename_i a
          obtain ⟨c, o, h1, h2, h3⟩ := S.at hr
          have va : ∀ o, H a = some o → vis B ρ0 H a = some o := fun o e => vis_of (fun z => (S.hid a z).1 (List.mem_of_getElem? hr)) (ho m a hnm hr) e
          rw [h1] at h
          cases h3 with
          | lst z rr =>
            dsimp only at h
            split at h
            · rename_i ds e
              cases h
              exact .list (.inl (va _ h2)) z (allO_rep rr (fun u v d r e => frz_rep S hm ho k r e) e)
            · cases h
          | dK rr =>
            dsimp only at h
            split at h
            · rename_i ds e
              cases h
              exact .dK (.inl (va _ h2)) (allP_repK rr (fun u v d r e => frz_rep S hm ho k r e) e)
            · cases h
          | dT rr =>
            dsimp only at h
            split at h
            · rename_i ds e
              cases h
              exact .dT (.inl (va _ h2)) (allP_repT rr (fun u v d r e => frz_rep S hm ho k r e) e)
            · cases h
      · cases h
    · cases r with
      | tup s z rr =>
        split at h
        · rename_i ds e
          cases h
          exact .tuple (SqT.le (vis_cut hm) s) z (allO_rep rr (fun u v d r e => frz_rep S hm ho k r e) e)
        · cases h
    · cases h
end
/-- a def whose own cells are dropped behind it -/
def frzF (F : SemF) : SemF := fun us st => match F us st with
  | .ok u st' => (match frz st' st.length 9 u with
    | some d => if (st'.take st.length).all (cellLt st.length) = true then .ok (.d d) (st'.take st.length) else .bad
    | none => .bad)
  | .exn c (some (.d x)) st' => if (st'.take st.length).all (cellLt st.length) = true then .exn c (some (.d x)) (st'.take st.length) else .bad
  | .exn c none st' => if (st'.take st.length).all (cellLt st.length) = true then .exn c none (st'.take st.length) else .bad
  | _ => .bad
theorem frz_post {G : Gd} {B ρ : List Addr} {H : Hp} {Q : VK} {E : XK} {F : SemF} {us : List U} {st : Sto} (S : RelS G B ρ noOwn st H) (q : PostF G B ρ H Q E (frzF F us st)) : PostF G B ρ H Q E (F us st) := by
  have hn : ρ.length = st.length := S.len.symm
  unfold frzF at q
  cases e : F us st with
  | ok u st' =>
    rw [e] at q
    dsimp only at q
    split at q
    · rename_i d hd
      split at q
      · rename_i hc
        intro ρ' H' v s S' r
        refine q ρ H' v s.cut (S'.cut s.pre hn hc) (.d ?_)
        obtain ⟨e2, hl⟩ := pre_take s.pre
        refine frz_rep S' (n := st.length) (ρ0 := ρ) (fun a ha => ?_) (fun m a hm ha z => ?_) 9 r hd
        · rw [e2] at ha
          exact List.mem_of_mem_take ha
        · obtain ⟨j, hj⟩ := List.getElem?_of_mem z
          have hj2 := (List.getElem?_eq_some_iff.mp hj).1
          have h3 := s.pre j a hj
          have := (List.getElem?_inj (i := j) (j := m) (by omega) S'.nd).mp (h3.trans ha.symm)
          omega
      · exact q.elim
    · exact q.elim
  | exn c u st' =>
    rw [e] at q
    cases u with
    | none =>
      dsimp only at q
      split at q
      · rename_i hc
        intro ρ' H' C d s S' hx
        exact q ρ H' C d s.cut (S'.cut s.pre hn hc) hx
      · exact q.elim
    | some u =>
      cases u with
      | d x =>
        dsimp only at q
        split at q
        · rename_i hc
          intro ρ' H' C d s S' ⟨x1, dd, v, x2, x3, x4⟩
          refine q ρ H' C d s.cut (S'.cut s.pre hn hc) ⟨x1, dd, v, x2, x3, ?_⟩
          obtain ⟨e2, hl⟩ := pre_take s.pre
          cases x4 with
          | d r => exact .d (r.le (vis_cut fun a ha => by rw [e2] at ha; exact List.mem_of_mem_take ha))
        · exact q.elim
      | _ => exact q.elim
  | bad => rw [e] at q; exact q
theorem FOk.frz {P : Program} {w : World} {K : PySem.W.Frag} {mg : Str → Option Value} {base : Heap} {G : Gd} {k : Nat} {f : Addr} {fd : FuncData} {ps : List Str} {F : SemF} (h : FOk P w K mg base G k f fd ps F) : FOk P w K mg base G k f fd ps (frzF F) :=
  ⟨fun A outer s H args us vs Q E hr h0 hb hv ⟨B, ρ, us', st, el, S, r, q⟩ => h.run A outer s H args us vs Q E hr h0 hb hv ⟨B, ρ, us', st, el, S, r, frz_post S q⟩⟩
theorem DefOk.frz {P : Program} {w : World} {K : PySem.W.Frag} {mg : Str → Option Value} {base : Heap} {G : Gd} {k : Nat} {x : Str} {ps : List Str} {F : SemF} (h : DefOk P w K mg base G k x ps F) : DefOk P w K mg base G k x ps (frzF F) := by
  obtain ⟨⟨fd, a, b⟩, c, d⟩ := h
  exact ⟨⟨fd, a.frz, b⟩, c, d⟩
/-! ## slots that are forgotten -/
def wipeR (ws : List Nat) : RS → RS
  | .nx e s => .nx (wipeN e ws) s
  | .ct e s => .ct (wipeN e ws) s
  | .bk e s => .bk (wipeN e ws) s
  | .exn c u e s => .exn c u (wipeN e ws) s
  | r => r
def mWipe (ws : List Nat) (f : SemS) : SemS := fun en st => wipeR ws (f en st)
theorem Rel.wipe {oS : OwnS} {G : Gd} {B ρ : List Addr} {en : Nv} {st : Sto} {σ : L2.St} {H : Hp} (R : Rel oS G B ρ en st σ H) (ws : List Nat) : Rel oS G B ρ (wipeN en ws) st σ H :=
  ⟨R.sto, by rw [wipeN_length]; exact R.len, fun i u hu => R.env i u (wipeN_some hu).1⟩
section
variable {X : Cx} {oS : OwnS} {G : Gd} {W : WX}
theorem PostS.wipe {B ρ : List Addr} {H : Hp} {Dn : Ends} {ws : List Nat} {r : RS} (h : PostS oS G W B ρ H Dn (wipeR ws r)) : PostS oS G W B ρ H Dn r := by
  cases r with
  | nx e s => exact fun ρ' H' σ' s' R => h ρ' H' σ' s' (R.wipe ws)
  | ct e s => exact fun ρ' H' σ' s' R => h ρ' H' σ' s' (R.wipe ws)
  | bk e s => exact fun ρ' H' σ' s' R => h ρ' H' σ' s' (R.wipe ws)
  | rt u s => exact h
  | exn c u e s => exact fun ρ' H' σ' C d s' R hx => h ρ' H' σ' C d s' (R.wipe ws) hx
  | bad => exact h
theorem sl_wipe {s : List Stmt} {f : SemS} (ws : List Nat) (h : SL X oS G W s f) : SL X oS G W s (mWipe ws f) :=
  PSs.imp h fun Dn σ H ⟨B, ρ, en, st, R, q⟩ => ⟨B, ρ, en, st, R, PostS.wipe q⟩
theorem ss_wipe {s : Stmt} {f : SemS} (ws : List Nat) (h : SS X oS G W s f) : SS X oS G W s (mWipe ws f) :=
  PS.imp h fun Dn σ H ⟨B, ρ, en, st, R, q⟩ => ⟨B, ρ, en, st, R, PostS.wipe q⟩
end
end TT
set_option Elab.async false
set_option linter.all false
set_option maxRecDepth 100000
set_option maxHeartbeats 2000000
namespace TT
open PySem PySem.Spec PyProof.Rows L2 LamX NdefX
/-! ## operators over lists that change -/
def scal : D → Bool
  | .none => true
  | .bool _ => true
  | .int _ => true
  | .str _ => true
  | _ => false
theorem scal_rep {K : PySem.W.Frag} {H H' : Hp} {d : D} {v : V} (h : scal d = true) (r : RepD K H d v) : RepD K H' d v := by
  cases r with
  | none => exact .none
  | bool b => exact .bool b
  | int i => exact .int i
  | str x => exact .str x
  | _ => cases h
def gV (g : D → D → Option D) : U → U → Sto → Res U := fun u w st => match u, w with
  | .d a, .d b => (match g a b with
    | some r => .ok (.d r) st
    | none => .bad)
  | u, w => match frz st 0 9 u, frz st 0 9 w with
    | some a, some b => (match g a b with
      | some r => if scal r = true then .ok (.d r) st else .bad
      | none => .bad)
    | _, _ => .bad
section
variable {X : Cx} {oS : OwnS} {G : Gd} {W : WX}
theorem ops_V {g : D → D → Option D} : OpS oS G W (rD2 G.K g) (gV g) := by
  intro B ρ en st σ H u w x y Q R ru rw' h
  unfold gV at h
  split at h
  · rename_i a b
    split at h
    · rename_i r hr
      cases ru with
      | d ru => cases rw' with
        | d rw' => exact ⟨vis B ρ H, a, b, r, vis_le, ru, rw', hr, out_of R h⟩
    · exact h.elim
  · split at h
    · rename_i a b ea eb
      split at h
      · rename_i r hr
        split at h
        · rename_i hs
          refine ⟨vis B [] H, a, b, r, vis_le, frz_rep R.sto (ρ0 := []) (fun _ z => nomatch z) (fun _ _ _ _ z => nomatch z) 9 ru ea, frz_rep R.sto (ρ0 := []) (fun _ z => nomatch z) (fun _ _ _ _ z => nomatch z) 9 rw' eb, hr, ?_, ?_⟩
          · exact fun v rv => h ρ H (Stp.refl _ _) R v (.d (scal_rep hs rv))
          · exact fun p o v hp rv => h ρ (upd H p o) (Stp.laid hp) (R.laid hp) v (.d (scal_rep hs rv))
        · exact h.elim
      · exact h.elim
    · exact h.elim
end
section
variable {X : Cx} {oS : OwnS} {G : Gd} {W : WX} {a b : Expr} {fa fb : SemE} {pos : Pos} (hK : X.K = G.K)
include hK
theorem se_CV {op : CmpOp} {g : D → D → Option D} (h : OpR X (compareOp op) (rD2 X.K g)) (ha : SE X oS G W a fa) (hb : SE X oS G W b fb) (hm : behindInMarks op b = false) : SE X oS G W (.Compare a [op] [b] pos) (mOp (gV g) fa fb) := se_cmp (by rw [hK] at h; exact h) ops_V ha hb hm
theorem st_CV {op : CmpOp} {g : D → D → Option D} (h : OpR X (compareOp op) (rD2 X.K g)) (ha : SE X oS G W a fa) (hb : SE X oS G W b fb) (hm : behindInMarks op b = false) : ST X oS G W (.Compare a [op] [b] pos) (mTst (mOp (gV g) fa fb)) := st_cmp (by rw [hK] at h; exact h) ops_V ha hb hm
variable {k : Nat} (hr : Room k X.A)
include hr
theorem se_eqV (ha : SE X oS G W a fa) (hb : SE X oS G W b fb) : SE X oS G W (.Compare a [.Eq] [b] pos) (mOp (gV eqD) fa fb) := se_CV hK (op_eqDD hr.units) ha hb (nobehind _ (by decide) (by decide))
theorem se_neV (ha : SE X oS G W a fa) (hb : SE X oS G W b fb) : SE X oS G W (.Compare a [.NotEq] [b] pos) (mOp (gV neD) fa fb) := se_CV hK (op_neDD hr.units) ha hb (nobehind _ (by decide) (by decide))
theorem se_inV (ha : SE X oS G W a fa) (hb : SE X oS G W b fb) (hm : behindInMarks .In b = false := by rfl) : SE X oS G W (.Compare a [.In] [b] pos) (mOp (gV (inD false)) fa fb) := se_CV hK (op_inDD (units65 hK hr)) ha hb hm
theorem se_notInV (ha : SE X oS G W a fa) (hb : SE X oS G W b fb) (hm : behindInMarks .NotIn b = false := by rfl) : SE X oS G W (.Compare a [.NotIn] [b] pos) (mOp (gV (inD true)) fa fb) := se_CV hK (op_notInDD (units65 hK hr)) ha hb hm
theorem st_eqV (ha : SE X oS G W a fa) (hb : SE X oS G W b fb) : ST X oS G W (.Compare a [.Eq] [b] pos) (mTst (mOp (gV eqD) fa fb)) := st_CV hK (op_eqDD hr.units) ha hb (nobehind _ (by decide) (by decide))
theorem st_neV (ha : SE X oS G W a fa) (hb : SE X oS G W b fb) : ST X oS G W (.Compare a [.NotEq] [b] pos) (mTst (mOp (gV neD) fa fb)) := st_CV hK (op_neDD hr.units) ha hb (nobehind _ (by decide) (by decide))
theorem st_inV (ha : SE X oS G W a fa) (hb : SE X oS G W b fb) (hm : behindInMarks .In b = false := by rfl) : ST X oS G W (.Compare a [.In] [b] pos) (mTst (mOp (gV (inD false)) fa fb)) := st_CV hK (op_inDD (units65 hK hr)) ha hb hm
theorem st_notInV (ha : SE X oS G W a fa) (hb : SE X oS G W b fb) (hm : behindInMarks .NotIn b = false := by rfl) : ST X oS G W (.Compare a [.NotIn] [b] pos) (mTst (mOp (gV (inD true)) fa fb)) := st_CV hK (op_notInDD (units65 hK hr)) ha hb hm
end
/-! ## lists that change: their methods -/
def isLst (st : Sto) (u : U) : Bool := match u with
  | .ref n => (match st[n]? with
    | some (.lst _) => true
    | _ => false)
  | _ => false
def mML (g : U → U → Sto → Res U) (fo fe : SemE) : SemE := fun en st => (fo en st).bind fun u st => if isLst st u = true then (fe en st).bind fun w st => g u w st else .bad
def mML0 (g : U → Sto → Res U) (fo : SemE) : SemE := fun en st => (fo en st).bind fun u st => if isLst st u = true then g u st else .bad
def gAppend (u w : U) (st : Sto) : Res U := match u with
  | .ref n => (match st[n]? with
    | some (.lst l) => if l.length < sizeLine then .ok (.d .none) (st.set n (.lst (l ++ [w]))) else .bad
    | _ => .bad)
  | _ => .bad
def gExtend (u w : U) (st : Sto) : Res U := match u, w with
  | .ref n, .d (.list ds) => (match st[n]? with
    | some (.lst l) => if l.length + ds.length ≤ sizeLine then .ok (.d .none) (st.set n (.lst (l ++ ds.map U.d))) else .bad
    | _ => .bad)
  | .ref n, .ref m => (match st[n]?, st[m]? with
    | some (.lst l), some (.lst l2) => if l.length + l2.length ≤ sizeLine then .ok (.d .none) (st.set n (.lst (l ++ l2))) else .bad
    | _, _ => .bad)
  | _, _ => .bad
def gPopAt (u w : U) (st : Sto) : Res U := match u, w with
  | .ref n, .d (.int i) => (match st[n]? with
    | some (.lst l) => if -(2 ^ 63) ≤ i ∧ i < 2 ^ 63 then (match seqIndex? i l.length with
      | some k => (match l[k]? with
        | some y => .ok y (st.set n (.lst (l.eraseIdx k)))
        | none => .bad)
      | none => .bad) else .bad
    | _ => .bad)
  | _, _ => .bad
def gPop (u : U) (st : Sto) : Res U := match u with
  | .ref n => (match st[n]? with
    | some (.lst l) => (match l[l.length - 1]? with
      | some y => .ok y (st.set n (.lst l.dropLast))
      | none => .bad)
    | _ => .bad)
  | _ => .bad
def rExtendR : V → List V → Hp → VK → Prop := fun x vs H Q => ∃ l b xs zs, x = .ref l ∧ vs = [.ref b] ∧ H l = some (.lst xs) ∧ Rd H b (.lst zs) ∧ xs.length + zs.length ≤ sizeLine ∧ Q .non (upd H l (.lst (xs ++ zs)))
theorem mt_extendR {X : Cx} : MtM X "list.extend" rExtendR := by
  intro pins s σ H x vs v us Q I rx rv h
  obtain ⟨l, b, xs, zs, rfl, rfl, hH, hB, hz, q⟩ := h
  cases rx
  obtain ⟨u, hu, ru⟩ := rv.one
  subst hu
  cases ru
  obtain ⟨z, its, n, r, hl, e⟩ := I.lstM hH
  obtain ⟨z2, its2, n2, r2, e2⟩ := hB.ok I.hok
  have hl2 := r2.length
  have hsz : its.toArray.size + its2.toArray.size ≤ sizeLine := by
    simp only [List.size_toArray]
    omega
  have hlong : ¬ (!its.toArray.isEmpty && Builtin.List.listTooLong (its.toArray.size + its2.toArray.size)) = true := by
    rw [notLongL hsz, Bool.and_false]
    exact Bool.false_ne_true
  refine call_meets F.slot_list_extend ⟨_, e, rfl⟩ F.entry_list_extend (F.args_list_extend_2 _ _)
    (AutoSeq1.list_extend_list_list_0 l its.toArray n b its2.toArray n2 hlong (by simp only [List.size_toArray]; omega) (by omega)) ⟨e, e2, ?_⟩
  exact ⟨.non, _, I.lset (its' := its ++ its2) hH e (by simp) (r.append r2) (by simp only [List.length_append]; omega), rfl, q⟩
section
variable {X : Cx} {oS : OwnS} {G : Gd} {W : WX} {o e : Expr} {fo fe : SemE} {apos pos : Pos} {T id : String} {name : Str}
theorem RepUs.snoc {H : Hp} {ρ : List Addr} {own : OwnV} {l : List U} {vs : List V} {u : U} {v : V} (r : RepUs G H ρ own l vs) (q : RepU G H ρ own u v) : RepUs G H ρ own (l ++ [u]) (vs ++ [v]) := r.append (.cons q .nil)
theorem RepUs.erase {H : Hp} {ρ : List Addr} {own : OwnV} : ∀ {l : List U} {vs : List V} (k : Nat), RepUs G H ρ own l vs → RepUs G H ρ own (l.eraseIdx k) (vs.eraseIdx k)
  | _, _, _, .nil => .nil
  | _, _, 0, .cons a b => b
  | _, _, k + 1, .cons a b => .cons a (RepUs.erase k b)
theorem RepUs.dropLast {H : Hp} {ρ : List Addr} {own : OwnV} : ∀ {l : List U} {vs : List V}, RepUs G H ρ own l vs → RepUs G H ρ own l.dropLast vs.dropLast
  | _, _, .nil => .nil
  | _, _, .cons a .nil => .nil
  | _, _, .cons a (.cons b c) => .cons a (RepUs.dropLast (.cons b c))
theorem ref_lst {B ρ : List Addr} {en : Nv} {st : Sto} {σ : L2.St} {H : Hp} {n : Nat} {x : V} {l : List U} (R : Rel oS G B ρ en st σ H) (r : RepU G (vis B ρ H) ρ (oS σ) (.ref n) x) (e : st[n]? = some (.lst l)) :
    ∃ a vs, x = .ref a ∧ ρ[n]? = some a ∧ H a = some (.lst vs) ∧ vs.length ≤ sizeLine ∧ RepUs G (vis B ρ H) ρ (oS σ) l vs := by
  cases r with
  | ref h =>
    obtain ⟨c, o, q1, q2, q3⟩ := R.sto.at h
    rw [e] at q1
    cases q1
    cases q3 with
    | lst z r => exact ⟨_, _, rfl, h, q2, z, r⟩
theorem isLst_ty {K : PySem.W.Frag} {B ρ : List Addr} {en : Nv} {st : Sto} {σ : L2.St} {H : Hp} {u : U} {x : V} (R : Rel oS G B ρ en st σ H) (r : RepU G (vis B ρ H) ρ (oS σ) u x) (h : isLst st u = true) : tyV K "list" x H := by
  unfold isLst at h
  split at h
  · rename_i n
    split at h
    · rename_i l hl
      obtain ⟨a, vs, rfl, _, ha, _⟩ := ref_lst R r hl
      exact .inl ⟨rfl, _, .inl (.inl ha)⟩
    · cases h
  · cases h
/-- what a list's method with one argument asks is what g says -/
def ML (oS : OwnS) (G : Gd) (W : WX) (r : V → List V → Hp → VK → Prop) (g : U → U → Sto → Res U) : Prop :=
  ∀ (B ρ : List Addr) (en : Nv) (st : Sto) (σ : L2.St) (H : Hp) (u w : U) (x y : V) (Q : VK), Rel oS G B ρ en st σ H → RepU G (vis B ρ H) ρ (oS σ) u x → RepU G (vis B ρ H) ρ (oS σ) w y →
    PostE oS G W B ρ en σ H (fun u ρ' H' _ => ∀ v, RepU G (vis B ρ' H') ρ' (oS σ) u v → Q v H') (g u w st) → r x [y] H Q
def ML0 (oS : OwnS) (G : Gd) (W : WX) (r : V → List V → Hp → VK → Prop) (g : U → Sto → Res U) : Prop :=
  ∀ (B ρ : List Addr) (en : Nv) (st : Sto) (σ : L2.St) (H : Hp) (u : U) (x : V) (Q : VK), Rel oS G B ρ en st σ H → RepU G (vis B ρ H) ρ (oS σ) u x →
    PostE oS G W B ρ en σ H (fun u ρ' H' _ => ∀ v, RepU G (vis B ρ' H') ρ' (oS σ) u v → Q v H') (g u st) → r x [] H Q
theorem se_ml {r : V → List V → Hp → VK → Prop} {g : U → U → Sto → Res U} (slot : PySem.Slot "list" name id) (hty : typeOf (.builtin id) = pure (.type "method_descriptor")) (hm : MtR X id r) (hg : ML oS G W r g)
    (ho : SE X oS G W o fo) (he : SE X oS G W e fe) (hbase : attributeBase o name X.env (eval o X.env) = eval o X.env := by rfl)
    (hfew : ((backTo pos (starEach [e] X.env)).all (fun x => !x.1) && (backToKw pos (keywordEach [] X.env)).all (fun x => x.1.isSome) && decide ([e].length + ([] : List Keyword).length + (if ([] : List Keyword).isEmpty then 0 else 1) < 30)) = true := by rfl)
    (hline : (apos.endLine == pos.line) = true := by rfl) (hs : starEach [e] X.env = (false, eval e X.env) :: starEach [] X.env := by rfl) (hplain : (backTo pos (starEach [] X.env)).any (·.1) = false := by rfl) :
    SE X oS G W (.Call (.Attribute o name apos) [e] [] pos) (mML g fo fe) := by
  refine PE.imp (pe_bm PySem.F.plainAttrs_list slot hty hm ho (pa_cons he pa_nil hs) hbase hfew hline hs hplain) fun σ H Q ⟨B, ρ, en, st, R, h⟩ => ?_
  refine ⟨B, ρ, en, st, R, (PostE.bind h).mono fun u st1 ρ1 H1 _ s1 R1 h1 x rx => ?_⟩
  split at h1
  case isFalse => exact h1.elim
  rename_i hl
  exact ⟨isLst_ty R1 rx hl, B, ρ1, en, st1, R1, (PostE.bind h1).mono fun w st2 ρ2 H2 _ s2 R2 h2 y ry => hg B ρ2 en st2 σ H2 u w x y Q R2 (rx.stp s2) ry h2⟩
theorem se_ml0 {r : V → List V → Hp → VK → Prop} {g : U → Sto → Res U} (slot : PySem.Slot "list" name id) (hty : typeOf (.builtin id) = pure (.type "method_descriptor")) (hm : MtR X id r) (hg : ML0 oS G W r g)
    (ho : SE X oS G W o fo) (hbase : attributeBase o name X.env (eval o X.env) = eval o X.env := by rfl) (hline : (apos.endLine == pos.line) = true := by rfl) :
    SE X oS G W (.Call (.Attribute o name apos) [] [] pos) (mML0 g fo) := by
  refine PE.imp (pe_bm0 PySem.F.plainAttrs_list slot hty hm ho hbase hline) fun σ H Q ⟨B, ρ, en, st, R, h⟩ => ?_
  refine ⟨B, ρ, en, st, R, (PostE.bind h).mono fun u st1 ρ1 H1 _ s1 R1 h1 x rx => ?_⟩
  split at h1
  case isFalse => exact h1.elim
  rename_i hl
  exact ⟨isLst_ty R1 rx hl, hg B ρ1 en st1 σ H1 u x Q R1 rx h1⟩
theorem ml_append : ML oS G W rAppend gAppend := by
  intro B ρ en st σ H u w x y Q R rx ry h2
  unfold gAppend at h2
  split at h2
  · rename_i n
    split at h2
    · rename_i l hl
      split at h2
      · rename_i hz
        obtain ⟨a, vs, rfl, hn, ha, _, r⟩ := ref_lst R rx hl
        obtain ⟨s3, R3⟩ := R.write hn (c := .lst (l ++ [w])) (.lst (by rw [List.length_append, ← r.length]; simp; omega) (r.snoc ry))
        exact ⟨a, vs, y, rfl, rfl, ha, by rw [← r.length]; exact hz, h2 _ _ s3 R3 _ (.d .none)⟩
      · exact h2.elim
    · exact h2.elim
  · exact h2.elim
theorem ml_extend : ML oS G W rExtendR gExtend := by
  intro B ρ en st σ H u w x y Q R rx ry h2
  unfold gExtend at h2
  split at h2
  · rename_i n ds
    split at h2
    · rename_i l hl
      split at h2
      · rename_i hz
        obtain ⟨a, vs, rfl, hn, ha, _, r⟩ := ref_lst R rx hl
        cases ry with
        | d ry =>
          cases ry with
          | list sq z2 rs =>
            have e := rs.length
            obtain ⟨s3, R3⟩ := R.write hn (c := .lst (l ++ ds.map U.d)) (.lst (by rw [List.length_append, ← r.length]; omega) (r.append (RepUs.ofD rs)))
            exact ⟨a, _, vs, _, rfl, rfl, ha, Rd.le vis_le nt_lst sq, by rw [← r.length]; omega, h2 _ _ s3 R3 _ (.d .none)⟩
      · exact h2.elim
    · exact h2.elim
  · rename_i n m
    split at h2
    · rename_i l l2 hl hl2
      split at h2
      · rename_i hz
        obtain ⟨a, vs, rfl, hn, ha, _, r⟩ := ref_lst R rx hl
        obtain ⟨b, ws, rfl, hm, hb, _, r2⟩ := ref_lst R ry hl2
        obtain ⟨s3, R3⟩ := R.write hn (c := .lst (l ++ l2)) (.lst (by rw [List.length_append, ← r.length, ← r2.length]; omega) (r.append r2))
        exact ⟨a, b, vs, ws, rfl, rfl, ha, .inl hb, by rw [← r.length, ← r2.length]; omega, h2 _ _ s3 R3 _ (.d .none)⟩
      · exact h2.elim
    · exact h2.elim
  · exact h2.elim
theorem ml_popAt : ML oS G W rPopAt gPopAt := by
  intro B ρ en st σ H u w x y Q R rx ry h2
  unfold gPopAt at h2
  split at h2
  · rename_i n i
    split at h2
    · rename_i l hl
      split at h2
      · rename_i hz
        split at h2
        · rename_i k hk
          split at h2
          · rename_i z hy
            obtain ⟨a, vs, rfl, hn, ha, hlen, r⟩ := ref_lst R rx hl
            cases ry with
            | d ry =>
              cases ry
              obtain ⟨v, hv, rv⟩ := r.get hy
              obtain ⟨s3, R3⟩ := R.write hn (c := .lst (l.eraseIdx k)) (.lst (by have := List.length_eraseIdx_le vs k; omega) (r.erase k))
              exact ⟨a, vs, i, k, v, rfl, rfl, ha, hz.1, hz.2, by rw [← r.length]; exact hk, hv, h2 _ _ s3 R3 _ (rv.stp s3)⟩
          · exact h2.elim
        · exact h2.elim
      · exact h2.elim
    · exact h2.elim
  · exact h2.elim
theorem ml_pop : ML0 oS G W rPop gPop := by
  intro B ρ en st σ H u x Q R rx h2
  unfold gPop at h2
  split at h2
  · rename_i n
    split at h2
    · rename_i l hl
      split at h2
      · rename_i z hy
        obtain ⟨a, vs, rfl, hn, ha, hlen, r⟩ := ref_lst R rx hl
        obtain ⟨v, hv, rv⟩ := r.get hy
        obtain ⟨s3, R3⟩ := R.write hn (c := .lst l.dropLast) (.lst (by rw [List.length_dropLast]; omega) r.dropLast)
        exact ⟨a, vs, v, rfl, rfl, ha, by rw [← r.length]; exact hv, h2 _ _ s3 R3 _ (rv.stp s3)⟩
      · exact h2.elim
    · exact h2.elim
  · exact h2.elim
end
end TT
set_option Elab.async false
set_option linter.all false
set_option maxRecDepth 100000
set_option maxHeartbeats 2000000
namespace TT
open PySem PySem.Spec PyProof.Rows L2 LamX NdefX
/-! ## the same value -/
mutual
def sameD : D → D → Bool
  | .none, .none => true
  | .bool a, .bool b => a == b
  | .int i, .int j => decide (i = j)
  | .str x, .str y => decide (x = y)
  | .list a, .list b => sameDs a b
  | .tuple a, .tuple b => sameDs a b
  | _, _ => false
def sameDs : List D → List D → Bool
  | [], [] => true
  | x :: a, y :: b => sameD x y && sameDs a b
  | _, _ => false
end
mutual
theorem sameD_eq : ∀ {a b : D}, sameD a b = true → a = b
  | .none, b, h => by cases b <;> first | rfl | cases h
  | .bool _, b, h => by
    cases b <;> first | cases h; done | skip
    rw [eq_of_beq (show (_ == _) = true from h)]
  | .int _, b, h => by
    cases b <;> first | cases h; done | skip
    rw [of_decide_eq_true (show decide (_ = _) = true from h)]
  | .str _, b, h => by
    cases b <;> first | cases h; done | skip
    rw [of_decide_eq_true (show decide (_ = _) = true from h)]
  | .list _, b, h => by
    cases b <;> first | cases h; done | skip
    rw [sameDs_eq (show sameDs _ _ = true from h)]
  | .tuple _, b, h => by
    cases b <;> first | cases h; done | skip
    rw [sameDs_eq (show sameDs _ _ = true from h)]
  | .dict _, b, h => by cases b <;> cases h
theorem sameDs_eq : ∀ {a b : List D}, sameDs a b = true → a = b
  | [], [], _ => rfl
  | [], _ :: _, h => by cases h
  | _ :: _, [], h => by cases h
  | x :: a, y :: b, h => by
    have q := Bool.and_eq_true_iff.mp (show (sameD x y && sameDs a b) = true from h)
    rw [sameD_eq q.1, sameDs_eq q.2]
end
mutual
def sameU : U → U → Bool
  | .d a, .d b => sameD a b
  | .ref n, .ref m => decide (n = m)
  | .tup a, .tup b => sameUs a b
  | _, _ => false
def sameUs : List U → List U → Bool
  | [], [] => true
  | x :: a, y :: b => sameU x y && sameUs a b
  | _, _ => false
end
mutual
theorem sameU_eq : ∀ {a b : U}, sameU a b = true → a = b
  | .d _, b, h => by
    cases b <;> first | cases h; done | skip
    rw [sameD_eq (show sameD _ _ = true from h)]
  | .ref _, b, h => by
    cases b <;> first | cases h; done | skip
    rw [of_decide_eq_true (show decide (_ = _) = true from h)]
  | .tup _, b, h => by
    cases b <;> first | cases h; done | skip
    rw [sameUs_eq (show sameUs _ _ = true from h)]
  | .fn _, b, h => by cases b <;> cases h
  | .clo _ _ _, b, h => by cases b <;> cases h
theorem sameUs_eq : ∀ {a b : List U}, sameUs a b = true → a = b
  | [], [], _ => rfl
  | [], _ :: _, h => by cases h
  | _ :: _, [], h => by cases h
  | x :: a, y :: b, h => by
    have q := Bool.and_eq_true_iff.mp (show (sameU x y && sameUs a b) = true from h)
    rw [sameU_eq q.1, sameUs_eq q.2]
end
/-! ## a list that may change, gone along -/
def sameAt (n : Nat) (l : List U) (st : Sto) : Bool := match st[n]? with
  | some (.lst l') => sameUs l' l
  | _ => false
theorem sameAt_eq {n : Nat} {l : List U} {st : Sto} (h : sameAt n l st = true) : st[n]? = some (.lst l) := by
  unfold sameAt at h
  split at h
  · rename_i l' e
    rw [e, sameUs_eq h]
  · cases h
def iterR (st : Sto) (u : U) : Option (List U × (Sto → Bool)) := match u with
  | .ref n => (match st[n]? with
    | some (.lst l) => if hasOwnL l = false then some (l, sameAt n l) else none
    | _ => none)
  | u => (match iterOf u with
    | some l => some (l, yes)
    | none => none)
def mSeqR (f : SemE) : SemI := fun en st => (f en st).bind fun u st => match iterR st u with
  | some p => .ok p st
  | none => .bad
section
variable {X : Cx} {oS : OwnS} {G : Gd} {W : WX} {tg : Expr}
theorem itok_ref {B ρ0 : List Addr} {H0 : Hp} {n : Nat} {a : Addr} {l : List U} (hn : ρ0[n]? = some a) (ho : hasOwnL l = false) : ItOk G B ρ0 H0 (Itl G.K a) l (sameAt n l) := by
  intro oS Bx hbx ρ H en st σ s R hk i
  have e := sameAt_eq hk
  obtain ⟨c, o, q1, q2, q3⟩ := R.sto.at (s.pre n a hn)
  rw [e] at q1
  cases q1
  cases q3 with
  | lst z r =>
    rename_i vs
    have q : SqL G.K H a vs := .inl (.inl q2)
    refine ⟨fun hi => ?_, fun hi => ⟨vs, q, by rw [← r.length]; exact hi⟩⟩
    obtain ⟨v, hv, _⟩ := r.get (List.getElem?_eq_getElem hi)
    refine ⟨⟨vs, v, q, hv⟩, fun x H' y => ?_⟩
    obtain ⟨rfl, y⟩ := y
    obtain ⟨u, hu, ru⟩ := r.getV (y vs q)
    exact ⟨u, hu, Stp.refl _ _, R, ru⟩
theorem si_seqR {e : Expr} {f : SemE} (hK : X.K = G.K) (he : SE X oS G W e f) : SI X oS G W tg e (mSeqR f) := by
  refine PI.imp (pi_seq he) fun σ H R ⟨B, ρ, en, st, RR, h⟩ => ?_
  refine ⟨B, ρ, en, st, RR, (PostE.bind h).mono fun u st1 ρ1 H1 _ s1 R1 h1 v rv => ?_⟩
  split at h1
  · rename_i p hp
    unfold iterR at hp
    split at hp
    · rename_i n
      split at hp
      · rename_i l hl
        split at hp
        · rename_i ho
          cases hp
          obtain ⟨a, vs, rfl, hn, ha, hz, r⟩ := ref_lst R1 rv hl
          rw [hK]
          exact .inr ⟨a, rfl, .inl ⟨⟨vs, .inl (.inl ha)⟩, h1 ρ1 H1 (Stp.refl _ _) R1 _ (itok_ref hn ho) (by rw [r.length]; exact hz)⟩⟩
        · cases hp
      · cases hp
    · split at hp
      · rename_i l hl
        cases hp
        unfold iterOf at hl
        split at hl
        · split at hl
          · rename_i hz
            cases hl
            cases rv with
            | d rv =>
              cases rv
              exact .inl ⟨_, rfl, h1 ρ1 H1 (Stp.refl _ _) R1 _ itok_str (by unfold signsU; rw [List.length_map]; exact hz)⟩
          · cases hl
        · obtain ⟨ho, a, vs, rfl, sq, rs, hz⟩ := stay_rep rv hl
          rw [hK]
          refine .inr ⟨a, rfl, ?_⟩
          rcases sq with sq | sq
          · exact .inl ⟨⟨vs, .inl (Rd.le vis_le nt_lst sq)⟩, h1 ρ1 H1 (Stp.refl _ _) R1 _ (itok_list sq rs ho) (by rw [rs.length]; exact hz)⟩
          · exact .inr ⟨⟨vs, SqT.le vis_le sq⟩, h1 ρ1 H1 (Stp.refl _ _) R1 _ (itok_tup sq rs ho) (by rw [rs.length]; exact hz)⟩
      · cases hp
  · exact h1.elim
end
/-! ## def name(..): .. within a def -/
def mNdef (kc : Nat) (js : List Nat) (i : Nat) : SemS := fun en st => match capOf en js with
  | some us => if hasCloL us = false then .nx (en.set i (some (.clo (!js.isEmpty) kc us))) st else .bad
  | none => .bad
section
variable {X : Cx} {G : Gd} {W : WX}
theorem ss_ndef {kc : Nat} {js : List Nat} {nm : Nat → Nat → Str} {c P : Addr} {name : Str} {params : Arguments} {body : List Stmt} {scope : Scope} {pos : Pos} {fr : List Str} {i : Nat} (TB : TabB X.base X.mg c P) (hcode : X.env.code = .ref c) (hm : (P, nm) ∈ G.T) (hu : ∀ p ∈ G.T, p.1 = P → p.2 = nm) (hn : nm pos.line pos.col = X.env.qual ++ name)
    (hd0 : params.defaults = []) (hk0 : params.kw_defaults = []) (ha : annTrees params none X.env = []) (hcod : G.cod kc = some ⟨name, X.env.qual ++ name, params, .stmts body, scope, fr⟩) (hB : lamfB X.env.scope scope fr = true)
    (hjs : js.map (fun j => X.N[j]?) = fr.map some) (hN : X.N.Nodup) (hi : X.N[i]? = some name) (hx : Loc X.env.scope name) (hc : NoCell (ownV X) i) (hf : X.fn name = true ∨ X.env.scope.names.lookup name = some .local := by first | exact .inl rfl | exact .inr rfl | assumption) :
    SS X (ownV X) G W (.FunctionDef name params body [] none [] scope none name pos) (mNdef kc js i) := by
  unfold lamfB at hB
  simp only [Bool.and_eq_true, Bool.or_eq_true, Bool.not_eq_true', decide_eq_true_eq, decide_eq_false_iff_not, List.all_eq_true] at hB
  have hfree : ∀ y ∈ scope.names, y.2 = .free → X.env.scope.names.lookup y.1 = some .cell ∨ X.env.scope.names.lookup y.1 = some .free := fun y hy e => ((hB.1 y hy).resolve_left fun z => z e).1
  have hfr2 : ∀ y ∈ scope.names, y.2 = .free → y.1 ∈ fr := fun y hy e => ((hB.1 y hy).resolve_left fun z => z e).2
  have hfr : ∀ y ∈ fr, (y, NameKind.free) ∈ scope.names := fun y hy => hB.2 y hy
  refine ⟨fun pins s σ H D I h => ?_⟩
  obtain ⟨B, ρ, en, st, R, h⟩ := h
  refine (ps_ndefM (T := G.T) TB hcode hm hn hu hfree hd0 hk0 ha hN hi hx hf).run pins s σ H D I ⟨R.sto.tabs, fun f c' H1 eN nn T1 f0 f1 c1 => ?_⟩
  have hfr' : ∀ y ∈ scope.names, y.2 = .free → ∃ c, X.env.cells.lookup y.1 = some c := fun y hy e => (hfree y hy e).elim (fun z => I.ok.has _ (.inl z)) fun z => I.ok.has _ (.inr z)
  have stp : Stp ρ H ρ H1 := ⟨fun b o e _ n => eN b o e n, nn, fun _ _ z => z, fun _ z => .inl z⟩
  have R1 : Rel (ownV X) G B ρ en st σ H1 := by
    refine R.ofS stp ⟨R.sto.len, R.sto.nd, fun n cc hn => ?_, fun b hb => ?_, T1⟩
    · obtain ⟨a, o, h1, h2, h3⟩ := R.sto.cell n cc hn
      exact ⟨a, o, h1, eN _ _ h2 h3.nt, h3.le stp.le stp.pre fun _ _ z => z⟩
    · obtain ⟨h1, o, h2, h3⟩ := R.sto.hid b hb
      exact ⟨h1, o, eN _ _ h2 h3.1, h3⟩
  have f1 : H1 f = some (CloO f ⟨name, X.env.qual ++ name, params, .stmts body, scope, fr⟩ (cloFrom X.env.cells scope.names []) c') := f1
  unfold mNdef at h
  split at h
  · rename_i us e1
    split at h
    · have ncap : ∀ y ∈ fr, ∃ c, (cloFrom X.env.cells scope.names []).lookup y = some c ∧ X.env.cells.lookup y = some c := fun y hy => by
        obtain ⟨c0, hc0⟩ := hfr' _ (hfr y hy) rfl
        exact ⟨c0, clo_has hfr' (hfr y hy) hc0, hc0⟩
      obtain ⟨vs, p1, p2⟩ := capOf_rel R1 e1 hjs ncap
      have co : CapsOk fr (cloFrom X.env.cells scope.names []) := ⟨fun y a e => by
        rcases cloFrom_mem (PySem.mem_of_lookup e) with hm | ⟨h1, h2⟩
        · cases hm
        · exact hfr2 _ h1 rfl, fun x y a e1 e2 => I.ok.inj x y a (clo_cm hfr' e1) (clo_cm hfr' e2)⟩
      have fB : f ∉ B ∧ f ∉ ρ := R.sto.fresh f0
      have cB : vis B ρ H1 c' = some (CodeO c' (X.env.qual ++ name)) := by
        refine vis_of (fun z => ?_) (fun z => ?_) c1
        · obtain ⟨_, o, e, n⟩ := R1.sto.hid c' z
          rw [c1] at e
          cases e
          exact n.2 _ rfl
        · obtain ⟨i, hi⟩ := List.getElem?_of_mem z
          obtain ⟨_, o, _, e, n⟩ := R1.sto.at hi
          rw [c1] at e
          cases e
          exact n.datO.2 _ rfl
      have ru : RepU G (vis B ρ H1) ρ (ownV X σ) (.clo (!js.isEmpty) kc us) (.ref f) := by
        cases js with
        | nil =>
          have e : fr = [] := by
            cases fr with
            | nil => rfl
            | cons y r => cases hjs
          subst e
          cases p1
          cases p2
          exact .cloH hcod (vis_of fB.1 fB.2 f1) cB co .nil .nil
        | cons j js => exact .cloO hcod (vis_of fB.1 fB.2 f1) cB co p1 p2
      exact h ρ H1 _ stp (R1.setL ru hc)
    · exact h.elim
  · exact h.elim
end
end TT
set_option Elab.async false
set_option linter.all false
set_option maxRecDepth 100000
set_option maxHeartbeats 2000000
namespace TT
open PySem PySem.Spec PyProof.Rows L2 LamX NdefX
/-! ## sorted -/
open PySem.W (alike alikeAll dataLt)
def sortOk (ds : List D) : Bool := PyData.canLayAll0 ds && (ds.all fun d => decide (d.depth ≤ 60)) && (ds.all fun d => ds.all fun e => alike d e) &&
  ((ds.all fun d => match d with
    | .tuple (_ :: _) => true
    | _ => false) || ds.all fun d => match d with
    | .none => false
    | .tuple _ => false
    | _ => true)
abbrev leD0 : D → D → Bool := PySem.W.dataLe false fun d => d
def sortD (ds : List D) : List D := ds.mergeSort leD0
def rSortD (K : PySem.W.Frag) : List V → Hp → VK → Prop := fun xs H Q => ∃ (Hv : Hp) (a : Addr) (ds : List D) (vs : List V), xs = [.ref a] ∧ Le Hv H ∧ SqL K H a vs ∧ RepDs K Hv ds vs ∧ sortOk ds = true ∧
  ∀ ys p, RepDs K Hv (sortD ds) ys → H p = none → Q (.ref p) (upd H p (.lst ys))
theorem vals_each {K : PySem.W.Frag} {H : Hp} : ∀ {out : List Value} {ds : List D}, PySem.W.EachIs (fun u d => ∃ v, RelV v u ∧ RepD K H d v) out ds → ∃ ys, Vals ys out ∧ RepDs K H ds ys
  | _, _, .nil => ⟨[], .nil, .nil⟩
  | _, _, .cons ⟨v, h1, h2⟩ r => by
    obtain ⟨ys, h3, h4⟩ := vals_each r
    exact ⟨v :: ys, .cons h1 h3, .cons h2 h4⟩
theorem each_vals {K : PySem.W.Frag} {H : Hp} : ∀ {out : List Value} {ds : List D} {ys : List V}, Vals ys out → RepDs K H ds ys → PySem.W.EachIs (fun u d => ∃ v, RelV v u ∧ RepD K H d v) out ds
  | _, _, _, .nil, .nil => .nil
  | _, _, _, .cons h1 h3, .cons h2 h4 => .cons ⟨_, h1, h2⟩ (each_vals h3 h4)
theorem layAll_mem : ∀ {ds : List D} {d : D}, PyData.canLayAll0 ds = true → d ∈ ds → d.canLay0 = true
  | x :: r, d, h, hm => by
    have h' : x.canLay0 = true ∧ PyData.canLayAll0 r = true := by simpa [PyData.canLayAll0] using h
    rcases List.mem_cons.mp hm with rfl | hm
    · exact h'.1
    · exact layAll_mem h'.2 hm
section
variable {X : Cx} {oS : OwnS} {G : Gd} {W : WX}
theorem reads_each {pins : List (Addr × Obj)} {σ : L2.St} {H Hv : Hp} {s : Shared} (I : L2.Inv X pins σ H s) (le : Le Hv H) : ∀ {ds : List D} {vs : List V} {us : List Value}, (∀ d ∈ ds, d.canLay0 = true) → RepDs X.K Hv ds vs → Vals vs us → PySem.W.EachIs (fun v d => ∃ as, Reads s.heap v d as) us ds
  | [], _, _, hc, .nil, .nil => .nil
  | d :: ds, v :: vs, u :: us, hc, .cons a b, .cons r rs => by
    obtain ⟨as, q⟩ := Dp.reads I d _ _ ((a.le le).dp (hc d (List.mem_cons_self ..))) r
    exact .cons ⟨as, q⟩ (reads_each I le (fun z hz => hc z (List.mem_cons_of_mem _ hz)) b rs)
theorem cr_sortD (hu : X.A.units + 65 < cLine) : CallR X (.builtin "sorted") (rSortD X.K) := by
  intro pins s σ H xs us Q I r h
  obtain ⟨Hv, a, ds, vs, rfl, le, sq, rs, ok, q⟩ := h
  obtain ⟨u, rfl, ru⟩ := vals1 r
  obtain rfl : u = Value.ref a := ru
  obtain ⟨its, rv, pl, hz⟩ := I.list sq
  unfold sortOk at ok
  simp only [Bool.and_eq_true, Bool.or_eq_true, List.all_eq_true, decide_eq_true_eq] at ok
  obtain ⟨⟨⟨c1, c2⟩, c3⟩, c4⟩ := ok
  have er := reads_each I le (fun d hd => layAll_mem c1 hd) rs rv
  have len : ds.length = vs.length := rs.length
  refine PySem.W.sorted_data (bs := ds) (enc := fun d => d) (R := fun u d => ∃ v, RelV v u ∧ RepD X.K Hv d v) pl.isList (each_vals rv rs) er (by rw [List.map_id']; exact fun d hd e he => c3 d hd e he) ?_ (by omega) (fun d hd => by have := c2 d hd; omega) fun out hl ho => ?_
  · rw [List.map_id']
    rcases c4 with c4 | c4
    · refine .inl fun d hd => ?_
      have := c4 d hd
      split at this
      · exact ⟨_, _, rfl⟩
      · cases this
    · refine .inr fun d hd => ?_
      have := c4 d hd
      split at this
      · cases this
      · cases this
      · rename_i h1 h2
        exact ⟨h1, h2⟩
  · obtain ⟨ys, h1, h2⟩ := vals_each ho
    obtain ⟨ep, he'⟩ := PyProof.Rows.sortedAll_at s.heap its out.toArray
    refine ⟨.ref _, upd H (s.heap.objs.size + 1) (.lst ys), I.laid (t' := s.toks) (fun _ _ => PyProof.Rows.sortedAll_old) (Nat.le_succ _) ⟨?_, out, ep, h1, he'⟩, rfl, q ys _ h2 (I.hok.fresh (Nat.le_succ _))⟩
    rw [h1.length, hl]
    omega
def gSorted : List U → Sto → Res U
  | [u], st => (match (lstOf st u).bind allD with
    | some ds => if sortOk ds = true then .ok (.d (.list (sortD ds))) st else .bad
    | none => .bad)
  | _, _ => .bad
theorem cs_sorted : CallS oS G W (rSortD G.K) gSorted := by
  intro B ρ en st σ H us vs Q R r h
  unfold gSorted at h
  split at h
  · rename_i u
    split at h
    · rename_i ds hd
      split at h
      · rename_i ok
        cases r with
        | cons a b =>
          cases b
          obtain ⟨l0, h0, h1⟩ := Option.bind_eq_some_iff.mp hd
          obtain ⟨p, ws, rfl, sq, rs, hz⟩ := lst_rep R a h0
          have rd := rs.allD h1
          refine ⟨vis B ρ H, p, ds, ws, rfl, vis_le, .inl sq, rd, ok, fun ys q hy hq => ?_⟩
          have f := R.sto.fresh hq
          refine h ρ _ (Stp.laid hq) (R.laid hq) _ (.d (.list (.inl (vis_of f.1 f.2 upd_same)) ?_ (hy.le (Stp.laid hq).le)))
          have e1 := hy.length
          have e2 : (sortD ds).length = ds.length := List.length_mergeSort _
          have e3 := rd.length
          omega
      · exact h.elim
    · exact h.elim
  · exact h.elim
end
/-! ## chains -/
def mChainU (g g' : U → U → Sto → Res U) (fa fb fc : SemE) : SemE := fun en st => (fa en st).bind fun u st => (fb en st).bind fun w st => (g u w st).bind fun c st => match c with
  | .d (.bool true) => (fc en st).bind fun z st => g' w z st
  | .d (.bool false) => .ok (.d (.bool false)) st
  | _ => .bad
section
variable {X : Cx} {oS : OwnS} {G : Gd} {W : WX} {a b c : Expr} {fa fb fc : SemE} {pos : Pos}
theorem rd_chain {r r' : R2} {g g' : U → U → Sto → Res U} (hg : OpS oS G W r g) (hg' : OpS oS G W r' g') {σ : L2.St} {H : Hp} {Q : VK} (h : rdE oS G W (mChainU g g' fa fb fc) σ H Q) : tChain r r' (rdE oS G W fa) (rdE oS G W fb) (rdE oS G W fc) σ H Q := by
  obtain ⟨B, ρ, en, st, R, h⟩ := h
  refine ⟨B, ρ, en, st, R, (PostE.bind h).mono fun u st1 ρ1 H1 _ s1 R1 h1 x rx => ?_⟩
  refine ⟨B, ρ1, en, st1, R1, (PostE.bind h1).mono fun w st2 ρ2 H2 _ s2 R2 h2 y ry => ?_⟩
  refine hg B ρ2 en st2 σ H2 u w x y _ R2 (rx.stp s2) ry ((PostE.bind h2).mono fun c st3 ρ3 H3 _ s3 R3 h3 z rz => ?_)
  split at h3
  · cases rz with
    | d rz =>
      cases rz
      refine ⟨true, rfl, ?_⟩
      rw [if_pos rfl]
      exact ⟨B, ρ3, en, st3, R3, (PostE.bind h3).mono fun z' st4 ρ4 H4 _ s4 R4 h4 w' rw' => hg' B ρ4 en st4 σ H4 w z' y w' Q R4 ((ry.stp s3).stp s4) rw' h4⟩
  · cases rz with
    | d rz =>
      cases rz
      refine ⟨false, rfl, ?_⟩
      rw [if_neg (by decide)]
      exact h3 ρ3 H3 (Stp.refl _ _) R3 _ (.d (.bool _))
  · exact h3.elim
theorem se_chain {op op' : CmpOp} {r r' : R2} {g g' : U → U → Sto → Res U} (ho : OpR X (compareOp op) r ∧ OpS oS G W r g) (ho' : OpR X (compareOp op') r' ∧ OpS oS G W r' g') (ha : SE X oS G W a fa) (hb : SE X oS G W b fb) (hc : SE X oS G W c fc)
    (hm : lastMarks [op, op'] [b, c] = false := by with_unfolding_all rfl) : SE X oS G W (.Compare a [op, op'] [b, c] pos) (mChainU g g' fa fb fc) :=
  PE.imp (pe_chain ho.1 ho'.1 ha hb hc hm) fun _ _ _ h => rd_chain ho.2 ho'.2 h
theorem st_chain {op op' : CmpOp} {r r' : R2} {g g' : U → U → Sto → Res U} (ho : OpR X (compareOp op) r ∧ OpS oS G W r g) (ho' : OpR X (compareOp op') r' ∧ OpS oS G W r' g') (ha : SE X oS G W a fa) (hb : SE X oS G W b fb) (hc : SE X oS G W c fc)
    (hm : lastMarks [op, op'] [b, c] = false := by with_unfolding_all rfl) : ST X oS G W (.Compare a [op, op'] [b, c] pos) (mTst (mChainU g g' fa fb fc)) :=
  PT.imp (pt_chain ho.1 ho'.1 ha hb hc hm) fun _ _ _ h => rd_chain ho.2 ho'.2 (rd_tst h)
end
section
variable {X : Cx} {oS : OwnS} {G : Gd} {W : WX} {k : Nat} (hK : X.K = G.K) (hr : Room k X.A)
include hK hr
theorem o2 {op : CmpOp} {g : D → D → Option D} (h : OpR X (compareOp op) (rD2 X.K g)) : OpR X (compareOp op) (rD2 G.K g) ∧ OpS oS G W (rD2 G.K g) (gV g) := ⟨by rw [← hK]; exact h, ops_V⟩
theorem o_lt : OpR X (compareOp .Lt) (rD2 G.K ltD) ∧ OpS oS G W (rD2 G.K ltD) (gV ltD) := o2 hK hr (op_ltD hr.units0)
theorem o_le : OpR X (compareOp .LtE) (rD2 G.K leD) ∧ OpS oS G W (rD2 G.K leD) (gV leD) := o2 hK hr op_leD
theorem o_gt : OpR X (compareOp .Gt) (rD2 G.K gtD) ∧ OpS oS G W (rD2 G.K gtD) (gV gtD) := o2 hK hr op_gtD
theorem o_ge : OpR X (compareOp .GtE) (rD2 G.K geD) ∧ OpS oS G W (rD2 G.K geD) (gV geD) := o2 hK hr op_geD
theorem o_eq : OpR X (compareOp .Eq) (rD2 G.K eqD) ∧ OpS oS G W (rD2 G.K eqD) (gV eqD) := o2 hK hr (op_eqDD hr.units)
theorem o_ne : OpR X (compareOp .NotEq) (rD2 G.K neD) ∧ OpS oS G W (rD2 G.K neD) (gV neD) := o2 hK hr (op_neDD hr.units)
end
/-! ## defs by name, with any keywords -/
structure DefS (P : Program) (w : World) (K : PySem.W.Frag) (mg : Str → Option Value) (base : Heap) (G : Gd) (k : Nat) (x : Str) (st : Stmt) (ps : List Str) (F : SemF) : Prop where
  ex : ∃ fd, FOk P w K mg base G k (He.ga K x) fd ps F ∧ Binds K fd ps [] ∧ Fun K x x st (He.ga K x) fd
  kp : PySem.W.keepIn K (.ref (He.ga K x)) = true
  g : mg x = some (.ref (He.ga K x))
theorem def_okS {P : Program} {w : World} {K : PySem.W.Frag} {mg : Str → Option Value} {base : Heap} {G : Gd} {x : Str} {st : Stmt} {N ps : List Str} {k : Nat} {fb : SemS} (F : ∃ fd, Fun K x x st (He.ga K x) fd) (hm : mg x = some (.ref (He.ga K x))) (S : FnScope N ps (defScope st)) (hc : cellNamesB (defScope st) = true)
    (h : ∀ (kV doc pm : Value) (an : Option Addr) (cdv ct : Value) (us : List Value), us.length = ps.length → bindArgs (PySem.W.fnOf x x (defArgs st) (defBody st) (defScope st) .none kV doc pm an cdv ct) ⟨us, []⟩ = pure (ps.zip us))
    (hbody : ∀ (cdv : Value) (A : Around) (outer : List Env) (s : Shared) (H : Hp) (E : XK), cdv = .ref (He.codeOf K (x, none)) → RoomG k (A.deeper (envOfC x (defScope st) s.heap.objs.size (He.ga K x) cdv)) →
      ∀ X, X = cxOf (L2.CX P w) P w K mg base N x (defScope st) (He.ga K x) cdv A outer s H E → Takes X (fun cls d _ H => E cls d H) → PassesOwn (model X.prog X.w) X.A X.env X.xe → CellsNew X →
      SL X (ownV X) G (fun cls d _ H => E cls d H) (defBody st) fb) : DefS P w K mg base G (k + 1) x st ps (runF N.length fb) := by
  obtain ⟨fd, F⟩ := F
  have hcd := fun_code (p := (x, none)) F
  exact ⟨⟨fd, fok_def F S hc fun cdv A outer s H E e => hbody cdv A outer s H E (by rw [e, hcd]), F.binds h, F⟩, F.kp, hm⟩
theorem DefS.frz {P : Program} {w : World} {K : PySem.W.Frag} {mg : Str → Option Value} {base : Heap} {G : Gd} {k : Nat} {x : Str} {st : Stmt} {ps : List Str} {F : SemF} (h : DefS P w K mg base G k x st ps F) : DefS P w K mg base G k x st ps (frzF F) := by
  obtain ⟨⟨fd, a, b⟩, c, d⟩ := h
  exact ⟨⟨fd, a.frz, b⟩, c, d⟩
def permL {α : Type} (p : List Nat) (l : List α) : List α := p.filterMap fun i => l[i]?
theorem RepUs.perm {G : Gd} {H : Hp} {ρ : List Addr} {own : OwnV} {l : List U} {vs : List V} (r : RepUs G H ρ own l vs) : ∀ p : List Nat, RepUs G H ρ own (permL p l) (permL p vs)
  | [] => .nil
  | i :: p => by
    unfold permL
    cases e : l[i]? with
    | none =>
      have e2 : vs[i]? = none := by
        rw [List.getElem?_eq_none_iff, ← r.length]
        exact List.getElem?_eq_none_iff.mp e
      rw [List.filterMap_cons, e, List.filterMap_cons, e2]
      exact RepUs.perm r p
    | some u =>
      obtain ⟨v, hv, rv⟩ := r.get e
      rw [List.filterMap_cons, e, List.filterMap_cons, hv]
      exact .cons rv (RepUs.perm r p)
theorem vals_perm {l : List V} {us : List Value} (r : Vals l us) : ∀ p : List Nat, Vals (permL p l) (permL p us)
  | [] => .nil
  | i :: p => by
    unfold permL
    cases e : l[i]? with
    | none =>
      have e2 : us[i]? = none := by
        rw [List.getElem?_eq_none_iff, ← r.length]
        exact List.getElem?_eq_none_iff.mp e
      rw [List.filterMap_cons, e, List.filterMap_cons, e2]
      exact vals_perm r p
    | some u =>
      obtain ⟨v, hv, rv⟩ := r.get e
      rw [List.filterMap_cons, e, List.filterMap_cons, hv]
      exact .cons rv (vals_perm r p)
def mPerm (p : List Nat) (f g : SemA) : SemA := fun en st => (f en st).bind fun us st => (g en st).bind fun ws st => .ok (permL p (us ++ ws)) st
section
variable {X : Cx} {oS : OwnS} {G : Gd} {W : WX} {k j : Nat} {ps ks : List Str} {F : SemF} {x : Str} {dst : Stmt} {p pos : Pos} {e : Expr} {es : List Expr}
theorem se_callS {fs : SemA} (D : DefS X.prog X.w X.K X.mg X.base G j x dst ps F) (hr : RoomG k X.A) (hj : j ≤ k) (hg : Gl X x) (tk : Takes X W) (hl : (e :: es).length = ps.length)
    (ha : SA X oS G W (e :: es) fs) (hal : ∀ en st us st', fs en st = .ok us st' → us.length = (e :: es).length) (hdb : (x == ("__debug__" : Str)) = false := by decide) (he : starEach (e :: es) X.env = (false, eval e X.env) :: starEach es X.env := by rfl) (hpl : (backTo pos (starEach es X.env)).any (·.1) = false := by rfl) :
    SE X oS G W (.Call (.Name x p) (e :: es) [] pos) (mCall F fs) := by
  obtain ⟨fd, FF, hb, _⟩ := D.ex
  exact se_call FF (hr.mono hj) hg D.g D.kp hb tk hl ha hal hdb he hpl
theorem se_callXS {fs : SemA} (D : DefS X.prog X.w X.K X.mg X.base G j x dst ps F) (hr : RoomG k X.A) (hj : j ≤ k) (CN : CellsNew X) (hg : Gl X x) (hl : (e :: es).length = ps.length)
    (ha : SA X (ownV X) G W (e :: es) fs) (hal : ∀ en st us st', fs en st = .ok us st' → us.length = (e :: es).length) (hdb : (x == ("__debug__" : Str)) = false := by decide) (he : starEach (e :: es) X.env = (false, eval e X.env) :: starEach es X.env := by rfl) (hpl : (backTo pos (starEach es X.env)).any (·.1) = false := by rfl) :
    SE X (ownV X) G W (.Call (.Name x p) (e :: es) [] pos) (mCallX F fs) := by
  obtain ⟨fd, FF, hb, _⟩ := D.ex
  exact se_callX FF (hr.mono hj) CN hg D.g D.kp hb hl ha hal hdb he hpl
theorem run_fp {f : Addr} {fd : FuncData} {pm : List Nat} {pins : List (Addr × Obj)} {σ : L2.St} {H : Hp} {s : Shared} {Q : VK} {us ws : List Value} {vs : List V} {B ρ : List Addr} {en : Nv} {st : Sto} {uu : List U} (FF : FOk X.prog X.w X.K X.mg X.base G k f fd ps F) (hr : RoomG k X.A)
    (bb : BindsTo s fd ⟨us, ks.zip ws⟩ (ps.zip (permL pm (us ++ ws)))) (tk : Takes X W)
    (I : L2.Inv X pins σ H s) (r : Vals vs (us ++ ws)) (R : Rel oS G B ρ en st σ H) (ru : RepUs G (vis B ρ H) ρ (oS σ) uu vs) (hl : (permL pm uu).length = ps.length)
    (h : PostE oS G W B ρ en σ H (fun u ρ' H' _ => ∀ v, RepU G (vis B ρ' H') ρ' (oS σ) u v → Q v H') (if hasOwnL (permL pm uu) = false ∧ stOwn st = false then F (permL pm uu) st else .bad)) : wpAny (model X.prog X.w) X.A (call (.ref f) us (ks.zip ws)) (EP X pins σ Q) X.xe s := by
  split at h
  case isFalse => exact h.elim
  rename_i hno
  have hsp : spF G ps.length F (permL pm vs) H Q (fun cls d H' => W cls d σ H') := by
    refine ⟨B, ρ, permL pm uu, st, hl, R.sto.noOwn hno.2, (ru.perm pm).noOwn hno.1, ?_⟩
    cases q : F (permL pm uu) st with
    | ok u st' =>
      rw [q] at h
      exact fun ρ' H' v s' S' rv => h ρ' H' s' (R.ofS s' (S'.own fun _ _ z => z.elim)) v (rv.le (Le.refl _) (fun _ _ z => z) fun _ _ z => z.elim)
    | exn c u st' =>
      rw [q] at h
      refine fun ρ' H' C d s' S' hx => h ρ' H' C d s' (S'.own fun _ _ z => z.elim) ⟨hx.1, ?_⟩
      cases u with
      | some u =>
        obtain ⟨_, dd, v, x2, x3, x4⟩ := hx
        exact ⟨dd, v, x2, x3, x4.le (Le.refl _) (fun _ _ z => z) fun _ _ z => z.elim⟩
      | none => exact hx.2
    | bad => rw [q] at h; exact h
  have run := FF.run X.A X.stack s H ⟨us, ks.zip ws⟩ (permL pm (us ++ ws)) (permL pm vs) Q (fun cls d H' => W cls d σ H') hr I.env0 bb (vals_perm r pm) hsp
  refine wpAny_call (codeAny_mono run fun r s' hq => ?_)
  cases r with
  | error e => exact tk e s' (XE.of_call I (fun cls d H' h => h) hq)
  | ok fl =>
    cases fl with
    | ret u => exact I.after hq
    | next => exact False.elim hq
    | brk => exact False.elim hq
    | cont => exact False.elim hq
theorem binds_fun {K : PySem.W.Frag} {f : Addr} {fd : FuncData} {s : Shared} {us ws : List Value} {pm : List Nat} (F : Fun K x x dst f fd)
    (h : ∀ (kV doc pm' : Value) (an : Option Addr) (cdv ct : Value), bindArgs (PySem.W.fnOf x x (defArgs dst) (defBody dst) (defScope dst) .none kV doc pm' an cdv ct) ⟨us, ks.zip ws⟩ = pure (ps.zip (permL pm (us ++ ws)))) : BindsTo s fd ⟨us, ks.zip ws⟩ (ps.zip (permL pm (us ++ ws))) := by
  obtain ⟨oc, od, kV, doc, pm', an, cdv, ct, osl, rfl, lk, hcd⟩ := F.ex
  exact .of_eq (h kV doc pm' an cdv ct)
/-- f(k = v, ..) -/
theorem se_callKS {kws : List Keyword} {fk : SemA} {pm : List Nat} (D : DefS X.prog X.w X.K X.mg X.base G j x dst ps F) (hr : RoomG k X.A) (hj : j ≤ k) (hg : Gl X x) (tk : Takes X W)
    (hbi : ∀ (ws : List Value), ws.length = ks.length → ∀ (kV doc pm' : Value) (an : Option Addr) (cdv ct : Value), bindArgs (PySem.W.fnOf x x (defArgs dst) (defBody dst) (defScope dst) .none kV doc pm' an cdv ct) ⟨[], ks.zip ws⟩ = pure (ps.zip (permL pm ([] ++ ws))))
    (hpm : ∀ l : List U, l.length = ks.length → (permL pm l).length = ps.length)
    (hk : SK X oS G W kws fk) (hal : ∀ en st us st', fk en st = .ok us st' → us.length = ks.length)
    (hall : (backToKw pos (keywordEach kws X.env)).all (·.1.isSome) = true := by rfl) (hks : (backToKw pos (keywordEach kws X.env)).filterMap (·.1) = ks := by rfl) (hdb : (x == ("__debug__" : Str)) = false := by decide)
    (hpl : ((backTo pos (starEach [] X.env)).any (·.1) || (backToKw pos (keywordEach kws X.env)).any (·.1.isNone)) = false := by rfl) :
    SE X oS G W (.Call (.Name x p) [] kws pos) (mCall F (mPerm pm mNil fk)) := by
  obtain ⟨fd, FF, _, FU⟩ := D.ex
  refine ⟨fun pins s σ H Q I h => ?_⟩
  refine wpAny_Call_Name_kw (ld_glob I hg D.g ?_ hdb)
  obtain ⟨B, ρ, en, st, R, h⟩ := h
  have h : PostE oS G W B ρ en σ H (fun u ρ' H' _ => ∀ v, RepU G (vis B ρ' H') ρ' (oS σ) u v → Q v H') ((fk en st).bind fun ws st1 => if hasOwnL (permL pm ws) = false ∧ stOwn st1 = false then F (permL pm ws) st1 else .bad) := by
    have e : mCall F (mPerm pm mNil fk) en st = (fk en st).bind fun ws st1 => if hasOwnL (permL pm ws) = false ∧ stOwn st1 = false then F (permL pm ws) st1 else .bad := by
      unfold mCall mPerm mNil
      show (((fk en st).bind fun ws st => Res.ok (permL pm ([] ++ ws)) st).bind _) = _
      cases fk en st <;> rfl
    rw [← e]; exact h
  have args := (hk : PK X _ _).run pos pins s σ H (fun vs H1 => ∃ ρ1 st1 us, Stp ρ H ρ1 H1 ∧ Rel oS G B ρ1 en st1 σ H1 ∧ RepUs G (vis B ρ1 H1) ρ1 (oS σ) us vs ∧ us.length = ks.length ∧
    PostE oS G W B ρ1 en σ H1 (fun u ρ' H' _ => ∀ v, RepU G (vis B ρ' H') ρ' (oS σ) u v → Q v H') (if hasOwnL (permL pm us) = false ∧ stOwn st1 = false then F (permL pm us) st1 else .bad)) I
    ⟨B, ρ, en, st, R, (PostE.bind h).mono fun us st1 ρ1 H1 eq s1 R1 h1 vs rvs => ⟨ρ1, st1, us, s1, R1, rvs, hal _ _ _ _ eq, h1⟩⟩
  refine PySem.W.callWith_KW0 (h₀ := X.base) I.ok.mod.kin D.kp hall (thn args fun ws s2 ⟨zs, H2, I2, rz, ρ1, st1, uu, _, R1, ru, hlu, h1⟩ => ⟨I2.kIn, ?_⟩) hpl
  rw [hks]
  have hwl : ws.length = ks.length := by rw [← rz.length, ← ru.length, hlu]
  exact run_fp (us := []) (pm := pm) FF (hr.mono hj) (binds_fun FU (hbi ws hwl)) tk I2 rz R1 ru (hpm uu hlu) h1
/-- f(a, .., k = v, ..) -/
theorem se_callMS {kws : List Keyword} {fs fk : SemA} {pm : List Nat} (D : DefS X.prog X.w X.K X.mg X.base G j x dst ps F) (hr : RoomG k X.A) (hj : j ≤ k) (hg : Gl X x) (tk : Takes X W)
    (hbi : ∀ (us ws : List Value), us.length = (e :: es).length → ws.length = ks.length → ∀ (kV doc pm' : Value) (an : Option Addr) (cdv ct : Value), bindArgs (PySem.W.fnOf x x (defArgs dst) (defBody dst) (defScope dst) .none kV doc pm' an cdv ct) ⟨us, ks.zip ws⟩ = pure (ps.zip (permL pm (us ++ ws))))
    (hpm : ∀ l : List U, l.length = (e :: es).length + ks.length → (permL pm l).length = ps.length)
    (ha : SA X oS G W (e :: es) fs) (hal1 : ∀ en st us st', fs en st = .ok us st' → us.length = (e :: es).length) (hk : SK X oS G W kws fk) (hal : ∀ en st us st', fk en st = .ok us st' → us.length = ks.length)
    (hall : (backToKw pos (keywordEach kws X.env)).all (·.1.isSome) = true := by rfl) (hks : (backToKw pos (keywordEach kws X.env)).filterMap (·.1) = ks := by rfl) (hdb : (x == ("__debug__" : Str)) = false := by decide)
    (he : starEach (e :: es) X.env = (false, eval e X.env) :: starEach es X.env := by rfl)
    (hpl : ((backTo pos (starEach (e :: es) X.env)).any (·.1) || (backToKw pos (keywordEach kws X.env)).any (·.1.isNone)) = false := by rfl) :
    SE X oS G W (.Call (.Name x p) (e :: es) kws pos) (mCall F (mPerm pm fs fk)) := by
  obtain ⟨fd, FF, _, FU⟩ := D.ex
  refine ⟨fun pins s σ H Q I h => ?_⟩
  refine wpAny_Call_Name_kw (ld_glob I hg D.g ?_ hdb)
  obtain ⟨B, ρ, en, st, R, h⟩ := h
  have h : PostE oS G W B ρ en σ H (fun u ρ' H' _ => ∀ v, RepU G (vis B ρ' H') ρ' (oS σ) u v → Q v H') ((fs en st).bind fun us st1 => (fk en st1).bind fun ws st2 => if hasOwnL (permL pm (us ++ ws)) = false ∧ stOwn st2 = false then F (permL pm (us ++ ws)) st2 else .bad) := by
    have e : mCall F (mPerm pm fs fk) en st = (fs en st).bind fun us st1 => (fk en st1).bind fun ws st2 => if hasOwnL (permL pm (us ++ ws)) = false ∧ stOwn st2 = false then F (permL pm (us ++ ws)) st2 else .bad := by
      unfold mCall mPerm
      cases fs en st with
      | ok us st1 =>
        show ((fk en st1).bind fun ws st => Res.ok (permL pm (us ++ ws)) st).bind _ = (fk en st1).bind _
        cases fk en st1 <;> rfl
      | _ => rfl
    rw [← e]; exact h
  have args := (ha : PA X _ _).run pos pins s σ H (fun vs H1 => ∃ ρ1 st1 us, Rel oS G B ρ1 en st1 σ H1 ∧ RepUs G (vis B ρ1 H1) ρ1 (oS σ) us vs ∧ us.length = (e :: es).length ∧
    PostE oS G W B ρ1 en σ H1 (fun u ρ' H' _ => ∀ v, RepU G (vis B ρ' H') ρ' (oS σ) u v → Q v H') ((fk en st1).bind fun ws st2 => if hasOwnL (permL pm (us ++ ws)) = false ∧ stOwn st2 = false then F (permL pm (us ++ ws)) st2 else .bad)) I
    ⟨B, ρ, en, st, R, (PostE.bind h).mono fun us st1 ρ1 H1 eq s1 R1 h1 vs rvs => ⟨ρ1, st1, us, R1, rvs, hal1 _ _ _ _ eq, h1⟩⟩
  refine PySem.W.callWith_KW (h₀ := X.base) I.ok.mod.kin D.kp hall (thn args fun us s1 ⟨vs, H1, I1, r, ρ1, st1, uu, R1, ru, hlu, h1⟩ => ?_) hpl he
  have args2 := (hk : PK X _ _).run pos pins s1 σ H1 (fun zs H2 => ∃ ρ2 st2 ww, Rel oS G B ρ2 en st2 σ H2 ∧ RepUs G (vis B ρ2 H2) ρ2 (oS σ) (uu ++ ww) (vs ++ zs) ∧ ww.length = ks.length ∧
    PostE oS G W B ρ2 en σ H2 (fun u ρ' H' _ => ∀ v, RepU G (vis B ρ' H') ρ' (oS σ) u v → Q v H') (if hasOwnL (permL pm (uu ++ ww)) = false ∧ stOwn st2 = false then F (permL pm (uu ++ ww)) st2 else .bad)) I1
    ⟨B, ρ1, en, st1, R1, (PostE.bind h1).mono fun ww st2 ρ2 H2 eq s2 R2 h2 zs rzs => ⟨ρ2, st2, ww, R2, (ru.stp s2).append rzs, hal _ _ _ _ eq, h2⟩⟩
  refine thn args2 fun ws s2 ⟨zs, H2, I2, rz, ρ2, st2, ww, R2, ru2, hlw, h2⟩ => ⟨I2.kIn, ?_⟩
  rw [hks]
  have hul : us.length = (e :: es).length := by rw [← r.length, ← ru.length, hlu]
  have hzl : zs.length = ks.length := by
    have := ru2.length
    simp only [List.length_append] at this
    have := ru.length
    omega
  have hwl : ws.length = ks.length := by rw [← rz.length, hzl]
  exact run_fp (us := us) (pm := pm) FF (hr.mono hj) (binds_fun FU (hbi us ws hul hwl)) tk I2 (r.append rz) R2 ru2 (hpm _ (by rw [List.length_append, hlu, hlw])) h2
end
end TT
set_option Elab.async false
set_option linter.all false
set_option maxRecDepth 100000
set_option maxHeartbeats 2000000
namespace TT
open PySem PySem.Spec PyProof.Rows L2 LamX NdefX
/-! ## comprehensions of two clauses -/
def lcLz (g : SemG) (t : SemT) (fe : SemE) (chk : Sto → Bool) (en : Nv) : List U → List U → Sto → Res (List U)
  | [], acc, st => if chk st = true then .ok acc st else .bad
  | u :: r, acc, st => if chk st = true then (match g u en st with
    | .nx en1 st1 => (match t en1 st1 with
      | .ok b st2 => if b = true then (match fe en1 st2 with
          | .ok y st3 => if acc.length < sizeLine then lcLz g t fe chk en r (acc ++ [y]) st3 else .bad
          | _ => .bad)
        else lcLz g t fe chk en r acc st2
      | _ => .bad)
    | _ => .bad) else .bad
def lcL2 (g : SemG) (t : SemT) (fi1 : SemI) (vs1 : List Nat) (g1 : SemG) (t1 : SemT) (fe : SemE) (chk : Sto → Bool) (en : Nv) : List U → List U → Sto → Res (List U)
  | [], acc, st => if chk st = true then .ok acc st else .bad
  | u :: r, acc, st => if chk st = true then (match g u en st with
    | .nx en1 st1 => (match t en1 st1 with
      | .ok b st2 => if b = true then (match fi1 en1 st2 with
          | .ok it st3 => (match lcLz g1 t1 fe it.2 (wipeN en1 vs1) it.1 acc st3 with
            | .ok acc' st4 => lcL2 g t fi1 vs1 g1 t1 fe chk en r acc' st4
            | _ => .bad)
          | _ => .bad)
        else lcL2 g t fi1 vs1 g1 t1 fe chk en r acc st2
      | _ => .bad)
    | _ => .bad) else .bad
def mLc2 (fi : SemI) (vs : List Nat) (g : SemG) (t : SemT) (fi1 : SemI) (vs1 : List Nat) (g1 : SemG) (t1 : SemT) (fe : SemE) : SemE := fun en st => (fi en st).bind fun it st =>
  if enOwn en = false ∧ stOwn st = false then (lcL2 g t fi1 vs1 g1 t1 fe it.2 (wipeN en vs) it.1 [] st).bind fun l st => (match allD l with
    | some l => .ok (.d (.list l)) st
    | none => .bad) else .bad
section
variable {X : Cx} {oS : OwnS} {G : Gd} {W : WX} {tg : Expr}
theorem Rel.wipeB {B ρ : List Addr} {en : Nv} {st : Sto} {σ : L2.St} {H : Hp} (R : Rel noOwnS G B ρ en st σ H) (vs : List Nat) : Rel noOwnS G B ρ (wipeN en vs) st (L2.wipe σ vs) H :=
  ⟨R.sto.own fun _ _ z => z, by rw [wipeN_length, wipe_length, R.len], fun i u hu => by
    obtain ⟨hu, hv⟩ := wipeN_some hu
    obtain ⟨v, q1, q2⟩ := R.env i u hu
    exact ⟨v, by rw [wipe_out hv]; exact q1, q2.le (Le.refl _) (fun _ _ z => z) fun _ _ z => z⟩⟩
theorem Rel.ofSB {B ρ ρ' : List Addr} {en : Nv} {st st' : Sto} {σ : L2.St} {H H' : Hp} (R : Rel oS G B ρ en st σ H) (s : StpB B ρ H ρ' H') (r : RelS G B ρ' (oS σ) st' H') : Rel oS G B ρ' en st' σ H' :=
  ⟨r, R.len, fun i u hu => by
    obtain ⟨v, h1, h2⟩ := R.env i u hu
    exact ⟨v, h1, h2.le s.le s.pre fun _ _ z => z⟩⟩
theorem rd_lc2 {fi fi1 : SemI} {vs vs1 : List Nat} {g g1 : SemG} {t t1 : SemT} {fe : SemE} {σ : L2.St} {H : Hp} {Q : VK} (h : rdE oS G W (mLc2 fi vs g t fi1 vs1 g1 t1 fe) σ H Q) :
    tLc2 (rdI oS G W fi) (rdW vs G g) (rdT noOwnS G W0 t) (rdI noOwnS G W0 fi1) (rdW vs1 G g1) (rdT noOwnS G W0 t1) (rdE noOwnS G W0 fe) vs vs1 σ H Q := by
  obtain ⟨B, ρ, en, st, R, h⟩ := h
  refine ⟨B, ρ, en, st, R, (PostE.bind h).mono fun it st1 ρ1 H1 _ s1 R1 h1 J ok hlen D hD => ?_⟩
  split at h1
  case isFalse => exact h1.elim
  rename_i hno
  have RB := R1.block hno.1 hno.2 hD (dat_lst (xs := [])) vs
  have sD : Stp ρ1 H1 ρ1 (upd H1 D (.lst [])) := Stp.laid hD
  have hDx : ∀ b ∈ [D], H1 b = none := fun b hb => by
    have e : b = D := by simpa using hb
    rw [e]; exact hD
  obtain ⟨Fin, hFin⟩ : ∃ Fin : Res (List U) → Prop, Fin = fun r => PostE oS G W B ρ1 en σ H1 (fun u ρ' H' _ => ∀ v, RepU G (vis B ρ' H') ρ' (oS σ) u v → Q v H') (r.bind fun l st => (match allD l with
    | some l => .ok (.d (.list l)) st
    | none => .bad)) := ⟨_, rfl⟩
  have finBad : Fin .bad → False := fun z => by rw [hFin] at z; exact z
  -- what stands between the turns
  obtain ⟨At, hAt⟩ : ∃ At : Hp → List Addr → Sto → List U → List V → Prop, At = fun H ρ st acc ws => Stp ρ1 H1 ρ H ∧ Rel noOwnS G (D :: B) ρ (wipeN en vs) st (L2.wipe σ vs) H ∧ H D = some (.lst ws) ∧ RepUs G (vis (D :: B) ρ H) ρ (noOwnS σ) acc ws ∧ ws.length ≤ sizeLine := ⟨_, rfl⟩
  refine ⟨fun i m H => m = it.1.length - i ∧ i ≤ it.1.length ∧ ∃ ρ st acc ws, At H ρ st acc ws ∧ Fin (lcL2 g t fi1 vs1 g1 t1 fe it.2 (wipeN en vs) (it.1.drop i) acc st), ⟨_, rfl, Nat.zero_le _, ρ1, st1, [], [], by rw [hAt]; exact ⟨sD, RB, upd_same, .nil, Nat.zero_le _⟩, by rw [hFin]; exact h1⟩, ?_⟩
  rintro i m H ⟨rfl, hi, ρ, st, acc, ws, hat, h⟩
  rw [hAt] at hat
  obtain ⟨s, RR, hDH, racc, hzz⟩ := hat
  by_cases hl : i < it.1.length
  · rw [List.drop_eq_getElem_cons hl, lcL2] at h
    split at h
    case isFalse => exact (finBad h).elim
    rename_i hk
    obtain ⟨go, yl⟩ := (ok noOwnS [D] hDx ρ H _ st _ s.toB RR hk i).1 hl
    refine .inr ⟨go, fun H' => ∃ ρ st acc ws, At H' ρ st acc ws ∧ Fin (lcL2 g t fi1 vs1 g1 t1 fe it.2 (wipeN en vs) (it.1.drop (i + 1)) acc st), fun H' ⟨ρ', st', acc', ws', q⟩ => ⟨_, by omega, rfl, hl, ρ', st', acc', ws', q⟩, fun x H' y => ?_⟩
    obtain ⟨u, hu, sy, Ry, ru⟩ := yl x H' y
    rw [List.getElem?_eq_getElem hl] at hu
    cases hu
    refine ⟨D :: B, ρ, wipeN en vs, st, it.1[i], Ry, ru, ?_⟩
    cases q : g it.1[i] (wipeN en vs) st with
    | nx en1 st1' =>
      rw [q] at h
      intro ρ2 H2 σ2 s2 R2 hw
      refine ⟨by rw [hw]; clear hw; exact wipe_wipe _ _, D :: B, ρ2, en1, st1', R2, ?_⟩
      dsimp only at h
      cases q2 : t en1 st1' with
      | ok b st2 =>
        rw [q2] at h
        intro ρ3 H3 s3 R3
        have s13 : Stp ρ H ρ3 H3 := (sy.trans s2).trans s3
        have hD3 : H3 D = some (.lst ws) := s13.keep D _ hDH (RR.sto.hid D List.mem_cons_self).1 nt_lst
        have racc3 := racc.le s13.le s13.pre fun _ _ z => z
        dsimp only at h ⊢
        by_cases hb : b = true
        · rw [if_pos hb] at h ⊢
          refine ⟨D :: B, ρ3, en1, st2, R3, ?_⟩
          cases q3 : fi1 en1 st2 with
          | ok it1 st3 =>
            rw [q3] at h
            intro ρ4 H4 s4 R4 J1 ok1 hlen1
            have s14 := s13.trans s4
            have hD4 : H4 D = some (.lst ws) := s4.keep D _ hD3 (R3.sto.hid D List.mem_cons_self).1 nt_lst
            have racc4 := racc3.le s4.le s4.pre fun _ _ z => z
            have RW := R4.wipeB vs1
            refine ⟨fun j k H => k = it1.1.length - j ∧ j ≤ it1.1.length ∧ ∃ ρ st acc ws, StpB (D :: B) ρ4 H4 ρ H ∧ Rel noOwnS G (D :: B) ρ (wipeN en1 vs1) st (L2.wipe σ2 vs1) H ∧ Stp ρ1 H1 ρ H ∧ H D = some (.lst ws) ∧ RepUs G (vis (D :: B) ρ H) ρ (noOwnS σ) acc ws ∧ ws.length ≤ sizeLine ∧
              Fin (match lcLz g1 t1 fe it1.2 (wipeN en1 vs1) (it1.1.drop j) acc st with
                | .ok acc' st4 => lcL2 g t fi1 vs1 g1 t1 fe it.2 (wipeN en vs) (it.1.drop (i + 1)) acc' st4
                | _ => .bad), ⟨_, rfl, Nat.zero_le _, ρ4, st3, acc, ws, (Stp.refl _ _).toB, RW, s.trans s14, hD4, racc4, hzz, h⟩, ?_⟩
            rintro j k H5 ⟨rfl, hj, ρ5, st5, acc5, ws5, s5, R5, s15, hD5, racc5, hz5, h5⟩
            by_cases hl5 : j < it1.1.length
            · rw [List.drop_eq_getElem_cons hl5, lcLz] at h5
              by_cases hk5 : it1.2 st5 = true
              case neg => rw [if_neg hk5] at h5; exact (finBad h5).elim
              rw [if_pos hk5] at h5
              obtain ⟨go5, yl5⟩ := (ok1 noOwnS [] (fun _ z => nomatch z) ρ5 H5 _ st5 _ s5 R5 hk5 j).1 hl5
              refine .inr ⟨go5, fun H' => ∃ ρ st acc ws, StpB (D :: B) ρ4 H4 ρ H' ∧ Rel noOwnS G (D :: B) ρ (wipeN en1 vs1) st (L2.wipe σ2 vs1) H' ∧ Stp ρ1 H1 ρ H' ∧ H' D = some (.lst ws) ∧ RepUs G (vis (D :: B) ρ H') ρ (noOwnS σ) acc ws ∧ ws.length ≤ sizeLine ∧
                Fin (match lcLz g1 t1 fe it1.2 (wipeN en1 vs1) (it1.1.drop (j + 1)) acc st with
                  | .ok acc' st4 => lcL2 g t fi1 vs1 g1 t1 fe it.2 (wipeN en vs) (it.1.drop (i + 1)) acc' st4
                  | _ => .bad), fun H' ⟨ρ', st', acc', ws', q⟩ => ⟨_, by omega, rfl, hl5, ρ', st', acc', ws', q⟩, fun x5 H5' y5 => ?_⟩
              obtain ⟨u5, hu5, sy5, Ry5, ru5⟩ := yl5 x5 H5' y5
              rw [List.getElem?_eq_getElem hl5] at hu5
              cases hu5
              refine ⟨D :: B, ρ5, wipeN en1 vs1, st5, it1.1[j], Ry5, ru5, ?_⟩
              cases p : g1 it1.1[j] (wipeN en1 vs1) st5 with
              | nx en6 st6 =>
                rw [p] at h5
                intro ρ6 H6 σ6 s6 R6 hw6
                refine ⟨by rw [hw6]; clear hw6; exact wipe_wipe _ _, D :: B, ρ6, en6, st6, R6, ?_⟩
                dsimp only at h5
                cases p2 : t1 en6 st6 with
                | ok b6 st7 =>
                  rw [p2] at h5
                  intro ρ7 H7 s7 R7
                  have s57 : Stp ρ5 H5 ρ7 H7 := (sy5.trans s6).trans s7
                  have hD7 : H7 D = some (.lst ws5) := s57.keep D _ hD5 (R5.sto.hid D List.mem_cons_self).1 nt_lst
                  have racc7 := racc5.le s57.le s57.pre fun _ _ z => z
                  dsimp only at h5 ⊢
                  by_cases hb6 : b6 = true
                  · rw [if_pos hb6] at h5 ⊢
                    refine ⟨D :: B, ρ7, en6, st7, R7, ?_⟩
                    cases p3 : fe en6 st7 with
                    | ok y0 st8 =>
                      rw [p3] at h5
                      intro ρ8 H8 s8 R8 v rv
                      have s58 := s57.trans s8
                      have hD8 : H8 D = some (.lst ws5) := s8.keep D _ hD7 (R7.sto.hid D List.mem_cons_self).1 nt_lst
                      dsimp only at h5
                      by_cases hz : acc5.length < sizeLine
                      case neg => rw [if_neg hz] at h5; exact (finBad h5).elim
                      rw [if_pos hz] at h5
                      have hz : ws5.length < sizeLine := by rw [← racc5.length]; exact hz
                      refine ⟨ws5, hD8, hz, ρ8, st8, acc5 ++ [y0], ws5 ++ [v], ?_, ?_, ?_, upd_same, ?_, by rw [List.length_append]; simp; omega, h5⟩
                      · have s1' := s5.trans s58.toB
                        exact ⟨fun b o e hb' hbB ht => by
                          rw [upd_ne (fun z => hbB (by rw [z]; exact List.mem_cons_self))]
                          exact s1'.keep b o e hb' hbB ht, fun b e => s1'.dom b (upd_dom e), s1'.pre, s1'.new⟩
                      · exact (R5.again s58 R8).grow dat_lst hD8
                      · have s1' := s15.trans s58
                        exact ⟨fun b o e hb' ht => by
                          rw [upd_ne (ne_of_none e hD)]
                          exact s1'.keep b o e hb' ht, fun b e => s1'.dom b (upd_dom e), s1'.pre, s1'.new⟩
                      · have l : Le (vis (D :: B) ρ8 H8) (vis (D :: B) ρ8 (upd H8 D (.lst (ws5 ++ [v])))) := fun b o' e _ => by
                          obtain ⟨z1, z2, z3⟩ := vis_some e
                          refine vis_of z1 z2 ?_
                          rw [upd_ne (fun z => z1 (by rw [z]; exact List.mem_cons_self))]
                          exact z3
                        exact ((racc7.le s8.le s8.pre fun _ _ z => z).append (.cons (rv.le (Le.refl _) (fun _ _ z => z) fun _ _ z => z.elim) .nil)).le l (fun _ _ z => z) fun _ _ z => z
                    | exn c u0 st8 => rw [p3] at h5; exact (finBad h5).elim
                    | bad => rw [p3] at h5; exact (finBad h5).elim
                  · rw [if_neg hb6] at h5 ⊢
                    exact ⟨ρ7, st7, acc5, ws5, s5.trans s57.toB, R5.again s57 R7, s15.trans s57, hD7, racc7, hz5, h5⟩
                | exn c u0 st7 => rw [p2] at h5; exact (finBad h5).elim
                | bad => rw [p2] at h5; exact (finBad h5).elim
              | rt u0 s0 => rw [p] at h5; exact (finBad h5).elim
              | bk e0 s0 => rw [p] at h5; exact (finBad h5).elim
              | ct e0 s0 => rw [p] at h5; exact (finBad h5).elim
              | exn c u0 e0 s0 => rw [p] at h5; exact (finBad h5).elim
              | bad => rw [p] at h5; exact (finBad h5).elim
            · have e : j = it1.1.length := by omega
              subst e
              rw [List.drop_length, lcLz] at h5
              by_cases hk5 : it1.2 st5 = true
              case neg => rw [if_neg hk5] at h5; exact (finBad h5).elim
              rw [if_pos hk5] at h5
              refine .inl ⟨(ok1 noOwnS [] (fun _ z => nomatch z) ρ5 H5 _ st5 _ s5 R5 hk5 _).2 (Nat.le_refl _), ρ5, st5, acc5, ws5, ?_, h5⟩
              rw [hAt]
              refine ⟨s15, ?_, hD5, racc5, hz5⟩
              exact RR.ofSB (s14.toB.trans s5) (R5.sto.own fun _ _ z => z)
          | exn c u0 st3 => rw [q3] at h; exact (finBad h).elim
          | bad => rw [q3] at h; exact (finBad h).elim
        · rw [if_neg hb] at h ⊢
          exact ⟨ρ3, st2, acc, ws, by rw [hAt]; exact ⟨s.trans s13, RR.again s13 R3, hD3, racc3, hzz⟩, h⟩
      | exn c u0 st2 => rw [q2] at h; exact (finBad h).elim
      | bad => rw [q2] at h; exact (finBad h).elim
    | rt u0 s0 => rw [q] at h; exact (finBad h).elim
    | bk e0 s0 => rw [q] at h; exact (finBad h).elim
    | ct e0 s0 => rw [q] at h; exact (finBad h).elim
    | exn c u0 e0 s0 => rw [q] at h; exact (finBad h).elim
    | bad => rw [q] at h; exact (finBad h).elim
  · have e : i = it.1.length := by omega
    subst e
    rw [List.drop_length, lcL2] at h
    split at h
    case isFalse => exact (finBad h).elim
    rename_i hk
    refine .inl ⟨(ok noOwnS [D] hDx ρ H _ st _ s.toB RR hk _).2 (Nat.le_refl _), ?_⟩
    rw [hFin] at h
    dsimp only [Res.bind] at h
    split at h
    · rename_i l hl
      refine h ρ H s (Rel.leave R1 s RR) _ (.d (.list (.inl (vis_of ?_ (RR.sto.hid D List.mem_cons_self).1 hDH)) ?_ ?_))
      · intro hb
        obtain ⟨_, o', q2, _⟩ := R1.sto.hid D hb
        rw [hD] at q2
        cases q2
      · exact hzz
      · have r := (racc.allD hl)
        exact r.le fun b o e t => by
          obtain ⟨z1, z2, z3⟩ := vis_some e
          exact vis_of (fun z => z1 (List.mem_cons_of_mem _ z)) z2 z3
    · exact h.elim
theorem se_lc2 {elt tg iter tg1 iter1 : Expr} {ifs ifs1 : List Expr} {scope : Scope} {own : List (Str × Nat)} {vs1 : List Nat} {pos : Pos} {fi fi1 : SemI} {g g1 : SemG} {t t1 : SemT} {fe : SemE} (hc : X.calm = true) (hN : X.N.Nodup) (hi : SI X oS G W tg iter fi) (ok : BlkOk X.N X.env.scope scope own) (hv : ∀ i ∈ vs1, i ∈ own.map (·.2))
    (hg : ∀ (s : Shared) (H : Hp) (C : Addr) (cl : List (Str × Addr)) (fp : List Addr), WG (X.blk s H scope (compEnvC scope cl C X.env) fp) (own.map (·.2)) G tg g) (ht : ∀ (s : Shared) (H : Hp) (C : Addr) (cl : List (Str × Addr)) (fp : List Addr), ST1 (X.blk s H scope (compEnvC scope cl C X.env) fp) G ifs t)
    (hi1 : ∀ (s : Shared) (H : Hp) (C : Addr) (cl : List (Str × Addr)) (fp : List Addr), SI (X.blk s H scope (compEnvC scope cl C X.env) fp) noOwnS G W0 tg1 iter1 fi1)
    (hg1 : ∀ (s : Shared) (H : Hp) (C : Addr) (cl : List (Str × Addr)) (fp : List Addr), WG (X.blk s H scope (compEnvC scope cl C X.env) fp) vs1 G tg1 g1) (ht1 : ∀ (s : Shared) (H : Hp) (C : Addr) (cl : List (Str × Addr)) (fp : List Addr), ST1 (X.blk s H scope (compEnvC scope cl C X.env) fp) G ifs1 t1)
    (he : ∀ (s : Shared) (H : Hp) (C : Addr) (cl : List (Str × Addr)) (fp : List Addr), SE (X.blk s H scope (compEnvC scope cl C X.env) fp) noOwnS G W0 elt fe) (hs : ∀ x, foldedSetIterable iter X.env x = pure x := by intro _; rfl) (hs1 : ∀ env x, foldedSetIterable iter1 env x = pure x := by intro _ _; rfl) :
    SE X oS G W (.ListComp elt [⟨tg, iter, ifs, 0⟩, ⟨tg1, iter1, ifs1, 0⟩] scope pos) (mLc2 fi (own.map (·.2)) g t fi1 vs1 g1 t1 fe) :=
  PE.imp (pe_lc2 hc hN hi ok hv hg ht hi1 hg1 ht1 he hs hs1) fun _ _ _ h => rd_lc2 h
theorem ss_setLc2 {i : Nat} {y : Str} {py : Pos} {elt tg iter tg1 iter1 : Expr} {ifs ifs1 : List Expr} {scope : Scope} {own : List (Str × Nat)} {vs1 : List Nat} {pos spos : Pos} {fi fi1 : SemI} {g g1 : SemG} {t t1 : SemT} {fe : SemE} (hc : X.calm = true) (hN : X.N.Nodup) (hy : X.N[i]? = some y) (hyl : X.env.scope.names.lookup y = some .local) (hnc : NoCell oS i)
    (hsw : swapsWith (.ListComp elt [⟨tg, iter, ifs, 0⟩, ⟨tg1, iter1, ifs1, 0⟩] scope pos) (some (.Name y py)) spos.line X.env = pure true) (hi : SI X oS G W tg iter fi) (ok : BlkOk X.N X.env.scope scope own) (hv : ∀ i ∈ vs1, i ∈ own.map (·.2))
    (hg : ∀ (s : Shared) (H : Hp) (C : Addr) (cl : List (Str × Addr)) (fp : List Addr), WG (X.blk s H scope (compEnvC scope cl C X.env) fp) (own.map (·.2)) G tg g) (ht : ∀ (s : Shared) (H : Hp) (C : Addr) (cl : List (Str × Addr)) (fp : List Addr), ST1 (X.blk s H scope (compEnvC scope cl C X.env) fp) G ifs t)
    (hi1 : ∀ (s : Shared) (H : Hp) (C : Addr) (cl : List (Str × Addr)) (fp : List Addr), SI (X.blk s H scope (compEnvC scope cl C X.env) fp) noOwnS G W0 tg1 iter1 fi1)
    (hg1 : ∀ (s : Shared) (H : Hp) (C : Addr) (cl : List (Str × Addr)) (fp : List Addr), WG (X.blk s H scope (compEnvC scope cl C X.env) fp) vs1 G tg1 g1) (ht1 : ∀ (s : Shared) (H : Hp) (C : Addr) (cl : List (Str × Addr)) (fp : List Addr), ST1 (X.blk s H scope (compEnvC scope cl C X.env) fp) G ifs1 t1)
    (he : ∀ (s : Shared) (H : Hp) (C : Addr) (cl : List (Str × Addr)) (fp : List Addr), SE (X.blk s H scope (compEnvC scope cl C X.env) fp) noOwnS G W0 elt fe) (hs : ∀ x, foldedSetIterable iter X.env x = pure x := by intro _; rfl) (hs1 : ∀ env x, foldedSetIterable iter1 env x = pure x := by intro _ _; rfl) :
    SS X oS G W (.Assign [.Name y py] (.ListComp elt [⟨tg, iter, ifs, 0⟩, ⟨tg1, iter1, ifs1, 0⟩] scope pos) spos) (mAsgT (mLc2 fi (own.map (·.2)) g t fi1 vs1 g1 t1 fe) (mG i)) := by
  refine PS.imp (ps_setLc2 hc hN hy hyl hsw hi ok hv hg ht hi1 hg1 ht1 he hs hs1) fun Dn σ H ⟨B, ρ, en, st, R, h⟩ => ?_
  refine rd_lc2 (oS := oS) (W := W) ⟨B, ρ, en, st, R, postE_of R h fun u st1 ρ1 H1 s1 R1 h1 v rv => ?_⟩
  exact h1 ρ1 H1 _ (Stp.refl _ _) (R1.setL rv hnc)
end
end TT
namespace TT
open PySem PySem.Spec PyProof.Rows L2 LamX NdefX
/-! ## a, b = x, y -/
def mPar2 (i j : Nat) (f : SemA) : SemS := fun en st => (f en st).toS en fun us st => match us with
  | [u, w] => .nx ((en.set i (some u)).set j (some w)) st
  | _ => .bad
def mPar3 (i j l : Nat) (f : SemA) : SemS := fun en st => (f en st).toS en fun us st => match us with
  | [u, w, z] => .nx (((en.set i (some u)).set j (some w)).set l (some z)) st
  | _ => .bad
section
variable {X : Cx} {oS : OwnS} {G : Gd} {W : WX}
theorem ss_par2 {i j : Nat} {x y : Str} {a b : Expr} {f : SemA} {px py pt pos : Pos} {kt k2 pt2} (hc : X.calm = true) (hN : X.N.Nodup) (hi : X.N[i]? = some x) (hj : X.N[j]? = some y) (hij : i ≠ j)
    (hx : X.env.scope.names.lookup x = some .local) (hy : X.env.scope.names.lookup y = some .local) (ci : NoCell oS i) (cj : NoCell oS j) (ha : SA X oS G W [a, b] f)
    (hw : swappedStores [.Tuple [.Name x px, .Name y py] kt pt] (.Tuple [a, b] k2 pt2) X.env = pure (some [x, y]) := by rfl)
    (hs : swapsWithSole [.Tuple [.Name x px, .Name y py] kt pt] (.Tuple [a, b] k2 pt2) pos.line X.env = pure false := by rfl) :
    SS X oS G W (.Assign [.Tuple [.Name x px, .Name y py] kt pt] (.Tuple [a, b] k2 pt2) pos) (mPar2 i j f) := by
  refine PS.imp (ps_par hc hN hi hj hij hx hy ha hw hs) fun Dn σ H ⟨B, ρ, en, st, R, h⟩ => ?_
  refine ⟨B, ρ, en, st, R, postE_of R h fun us st1 ρ1 H1 s1 R1 h1 vs rvs => ?_⟩
  split at h1
  · cases rvs with
    | cons r1 rvs => cases rvs with
      | cons r2 rvs =>
        cases rvs
        exact ⟨_, _, rfl, h1 ρ1 H1 _ (Stp.refl _ _) ((R1.setL r1 ci).setL (r2.le (Le.refl _) (fun _ _ z => z) fun c v z => ci σ _ c v z) cj)⟩
  · exact h1.elim
theorem ss_par3 {i j l : Nat} {x y z : Str} {a b c : Expr} {f : SemA} {px py pz pt pos : Pos} {kt k2 pt2} (hc : X.calm = true) (hN : X.N.Nodup) (hi : X.N[i]? = some x) (hj : X.N[j]? = some y) (hl : X.N[l]? = some z) (hij : i ≠ j) (hil : i ≠ l) (hjl : j ≠ l)
    (hx : X.env.scope.names.lookup x = some .local) (hy : X.env.scope.names.lookup y = some .local) (hz : X.env.scope.names.lookup z = some .local) (ci : NoCell oS i) (cj : NoCell oS j) (cl : NoCell oS l) (ha : SA X oS G W [a, b, c] f)
    (hw : swappedStores [.Tuple [.Name x px, .Name y py, .Name z pz] kt pt] (.Tuple [a, b, c] k2 pt2) X.env = pure (some [x, y, z]) := by rfl)
    (hs : swapsWithSole [.Tuple [.Name x px, .Name y py, .Name z pz] kt pt] (.Tuple [a, b, c] k2 pt2) pos.line X.env = pure false := by rfl) :
    SS X oS G W (.Assign [.Tuple [.Name x px, .Name y py, .Name z pz] kt pt] (.Tuple [a, b, c] k2 pt2) pos) (mPar3 i j l f) := by
  refine PS.imp (ps_par3 hc hN hi hj hl hij hil hjl hx hy hz ha hw hs) fun Dn σ H ⟨B, ρ, en, st, R, h⟩ => ?_
  refine ⟨B, ρ, en, st, R, postE_of R h fun us st1 ρ1 H1 s1 R1 h1 vs rvs => ?_⟩
  split at h1
  · cases rvs with
    | cons r1 rvs => cases rvs with
      | cons r2 rvs => cases rvs with
        | cons r3 rvs =>
          cases rvs
          exact ⟨_, _, _, rfl, h1 ρ1 H1 _ (Stp.refl _ _) (((R1.setL r1 ci).setL (r2.le (Le.refl _) (fun _ _ z => z) fun c v z => ci σ _ c v z) cj).setL (r3.le (Le.refl _) (fun _ _ z => z) fun c v z => cj _ _ c v (ci σ _ c v z)) cl)⟩
  · exact h1.elim
theorem u65 {k : Nat} (hr : Room k X.A) : X.A.units + 65 < cLine := by have := hr.un; omega
end
end TT
set_option Elab.async false
set_option linter.all false
set_option maxRecDepth 100000
set_option maxHeartbeats 2000000
namespace TT
open PySem PySem.Spec PyProof.Rows L2 LamX NdefX
/-! ## repr of lists that change -/
def gReprV : List U → Sto → Res U
  | [u], st => (match frz st 0 9 u with
    | some x => gRepr [.d x] st
    | none => .bad)
  | _, _ => .bad
section
variable {X : Cx} {oS : OwnS} {G : Gd} {W : WX}
theorem cs_reprV : CallS oS G W (rRepr G.K) gReprV := by
  intro B ρ en st σ H us vs Q R r h
  unfold gReprV at h
  split at h
  · rename_i u st'
    split at h
    · rename_i x hx
      unfold gRepr at h
      dsimp only at h
      split at h
      · rename_i hy
        obtain ⟨h0, h1, h2, h3, h4, h5⟩ := hy
        cases r with
        | cons a b =>
          cases b
          have rd := frz_rep R.sto (ρ0 := []) (fun _ z => nomatch z) (fun _ _ _ _ z => nomatch z) 9 a hx
          have hp := RepD.dp (rd.le vis_le) h0
          have q := h ρ H (Stp.refl _ _) R (.str x.shown) (.d (.str _))
          cases x with
          | list l => cases rd with
            | list s z r => exact ⟨_, _, rfl, hp, h1, h2, h3, h4, q⟩
          | tuple l => cases rd with
            | tuple s z r => exact ⟨_, _, rfl, hp, h1, h2, h3, h4, q⟩
          | none => cases h5
          | bool b => cases h5
          | int b => cases h5
          | str b => cases h5
          | dict b => cases h5
      · exact h.elim
    · exact h.elim
  · exact h.elim
end
/-! ## lists, repeated -/
def mulD : D → D → Option D
  | .list a, .int j => if 0 ≤ j ∧ j ≤ 1000 ∧ a.length * j.toNat ≤ sizeLine then some (.list (List.replicate j.toNat a).flatten) else none
  | .int i, .int j => mulI (.int i) (.int j)
  | _, _ => none
theorem vals_rep {xs : List V} {its : List Value} (h : Vals xs its) : ∀ k : Nat, Vals (List.replicate k xs).flatten (List.replicate k its).flatten
  | 0 => .nil
  | k + 1 => by
    rw [List.replicate_succ, List.replicate_succ, List.flatten_cons, List.flatten_cons]
    exact h.append (vals_rep h k)
theorem repDs_rep {K : PySem.W.Frag} {H : Hp} {ds : List D} {vs : List V} (h : RepDs K H ds vs) : ∀ k : Nat, RepDs K H (List.replicate k ds).flatten (List.replicate k vs).flatten
  | 0 => .nil
  | k + 1 => by
    rw [List.replicate_succ, List.replicate_succ, List.flatten_cons, List.flatten_cons]
    exact RepDs.append h (repDs_rep h k)
section
variable {X : Cx}
theorem op_mulL : OpR X (binaryOp .Mult) (fun x y H Q => ∃ l xs j, x = .ref l ∧ y = .int j ∧ Rd H l (.lst xs) ∧ 0 ≤ j ∧ j ≤ 1000 ∧ xs.length * j.toNat ≤ sizeLine ∧ ∀ p, H p = none → Q (.ref p) (upd H p (.lst (List.replicate j.toNat xs).flatten))) := by
  intro pins s σ H x y v u Q I rx ry h
  obtain ⟨l, xs, j, rfl, rfl, hH, h0, h1, hz, q⟩ := h
  cases rx
  obtain ⟨tk, rfl⟩ : ∃ tk, u = .int j tk := ry
  obtain ⟨z, its, n, r, hl, e⟩ := TT.Inv.rdL I hH
  have hz2 : its.toArray.size * j.toNat ≤ sizeLine := by rw [List.size_toArray, ← hl]; exact hz
  have hz3 := hz2
  rw [sizeLine_eq] at hz3
  refine wpAny_binaryOp_repeat_ref (T := "list") (U := "int") (by decide) ⟨_, e, rfl⟩ (fun s' => typeIs_int s' j tk) noFill_list_mul F.fills_int_mul F.slot_int_rmul repeat_list F.slot_int_index.lookup
    (call_meets F.slot_int_rmul (typeIs_int s j tk) F.entry_int_rmul (F.args_int_rmul_2 _ _) (lm_int_rmul_list_any j tk l its.toArray n none #[])
      ⟨e, rfl, ⟨_, e, rfl⟩, call_meets F.slot_list_mul ⟨_, e, rfl⟩ F.entry_list_mul (F.args_list_mul_2 _ _)
        (lm_list_mul_any l its.toArray n none #[] j tk (by simp [Builtin.List.listFitsIndex]; omega) (by omega) (by simp [Builtin.List.listTooLong, sizeLine]; omega))
        ⟨e, ?_⟩⟩)
  rw [listMul_foldl_if]
  refine ⟨.ref _, _, I.lnew (t' := s.toks) (vals_rep r j.toNat) (by rw [lm_len_rep_flat, Nat.mul_comm]; exact hz), rfl, q _ I.fresh⟩
theorem op_mulD : OpR X (binaryOp .Mult) (rD2 X.K mulD) := by
  intro pins s σ H x y v u Q I rx ry h
  obtain ⟨Hv, d, e, r, le, rd, re, hg, out⟩ := h
  cases rd with
  | int i =>
    cases re with
    | int j => exact op_mulI pins s σ H _ _ v u Q I rx ry ⟨Hv, .int i, .int j, r, le, .int i, .int j, hg, out⟩
    | _ => cases hg
  | list sq z rs =>
    cases re with
    | int j =>
      simp only [mulD] at hg
      split at hg
      · rename_i hz
        cases hg
        rw [rs.length] at hz
        refine op_mulL pins s σ H _ _ v u Q I rx ry ⟨_, _, j, rfl, rfl, Rd.le le nt_lst sq, hz.1, hz.2.1, hz.2.2, fun p hp => ?_⟩
        exact out.new hp (.list (.inl upd_same) (by rw [lm_len_rep_flat, Nat.mul_comm]; exact hz.2.2) (repDs_rep (rs.le (le_new le hp)) _))
      · cases hg
    | _ => cases hg
  | _ => cases hg
end
section
variable {X : Cx} {oS : OwnS} {G : Gd} {W : WX} {a b : Expr} {fa fb : SemE} {pos : Pos} (hK : X.K = G.K)
include hK
theorem se_mulL (ha : SE X oS G W a fa) (hb : SE X oS G W b fb) : SE X oS G W (.BinOp a .Mult b pos) (mOp (gD2 mulD) fa fb) := se_D2 hK op_mulD ha hb
end
end TT
set_option Elab.async false
set_option linter.all false
set_option maxRecDepth 100000
set_option maxHeartbeats 3200000
namespace TT
open PySem PySem.Spec PyProof.Rows L2 LamX NdefX
/-! ## sets: of int tuples, out of a tuple -/
abbrev newSet (w : World) : Obj := { cls := .type "set", dict := none, data := .set #[] 0 (.fresh 0 0 (!w.params.followText "set-order")) }
section
variable {P : Program} {w : World} {A : Around} {E : Value → Shared → Prop} {s : Shared}
theorem call_set_tt {l : Addr} {its : Array Value} (ks : List (Addr × List Int)) {Q : Value → Shared → Prop} (noexc : A.handled = none) (tup : s.heap.IsTuple l its) (eits : its.toList = ks.map fun p => Value.ref p.1)
    (ek : ∀ p ∈ ks, IsT P w s.heap p.2 p.1) (k64 : ks.length < 64) (un : A.units + 3 < cLine)
    (fin : ∀ (h' : Heap) (tk : Nat) L es ep t, SetTR P w h' s.heap.objs.size L es ep t → Got ks ks.length L → (∀ b o, s.heap.get? b = some o → h'.get? b = some o) → Q (.ref s.heap.objs.size) { s with heap := h', toks := tk }) :
    wpAny (model P w) A (call (.type "set") [.ref l]) Q E s := by
  have eqn : its.size = ks.length := by
    rw [← Array.length_toList, eits, List.length_map]
  have ⟨c, tl, mro1⟩ := F.called_set.mro
  have made1 := F.called_set.made
  have sub1 := F.called_set.sub
  refine wpAny_call (codeAny_of_tree ?_)
  change wpAny _ _ (callAny (.type "set") _) _ _ _
  refine wpAny_pure ⟨Code.quiet_builtin _ (by decide +kernel), codeAny_builtin F.entry_type_call ?_⟩
  rw [Around.under_plain (weight_type_call_type "set" [.ref l] []) rfl]
  have no_type := F.called_set.notType
  have can_new := F.called_set.canCreate
  have checked := F.typeCall_set_1 (.ref l)
  repeat (any_goals (first | assumption | wp_step))
  refine codeAny_mono (code_set_led1 (.ref l) (E := E) (Q₁ := fun v s1 => v = .ref s.heap.objs.size ∧ s1 = { s with heap := s.heap.push (newSet w) }) ⟨rfl, rfl⟩) fun r s1 hr => ?_
  cases r with
  | error e => exact hr
  | ok fl =>
    cases fl with
    | ret v =>
      obtain ⟨rfl, rfl⟩ := hr
      have atS : (s.heap.push (newSet w)).get? s.heap.objs.size = some (newSet w) := Heap.get?_push_size _ rfl
      have tyS : Shared.TypeIs { s with heap := s.heap.push (newSet w) } (.ref s.heap.objs.size) "set" := ⟨_, atS, rfl⟩
      have look1 := F.called_set.init.lookup
      have bind1 := F.called_set.init.bind (.ref s.heap.objs.size)
      repeat (any_goals (first | assumption | wp_step))
      refine codeAny_mono (codeAny_call_builtin (R := wants (fun r s2 => r = .none ∧ ∃ h' tk L es ep t, s2 = { s with heap := h', toks := tk } ∧ SetTR P w h' s.heap.objs.size L es ep t ∧ Got ks ks.length L ∧
        (∀ b o, s.heap.get? b = some o → h'.get? b = some o)) E) F.called_set.init.plain F.entry_set_init (check_set_init_1 tyS ?_)) fun r2 s2 hr2 => ?_
      · obtain ⟨⟨oc, od, oda, osl⟩, ho, hcl, nl, hdl⟩ := tup
        dsimp only at hcl hdl
        subst hcl hdl
        have ho2 : (s.heap.push (newSet w)).get? l = some { cls := .type "tuple", dict := od, data := .seq its nl, slots := osl } := Heap.get?_push_of_some _ ho
        have no_set := F.sub_tuple_set
        have no_fset := F.sub_tuple_frozenset
        have no_dict : (Value.type "tuple" == Value.type "dict") = false := by decide
        have tup2 : (s.heap.push (newSet w)).IsTuple l its := ⟨_, ho2, rfl, nl, rfl⟩
        unfold Builtin.«set.__init__» noKeywords Builtin.Frozenset.updateFrom
        generalize hIT : pyIter = IT
        wp_walk
        subst hIT
        refine wpAny_pyIter_tuple tup2 ?_
        refine wpAny_bind (wpAny_runValue ?_)
        have ltl : l < s.heap.objs.size := Heap.lt_size ho
        have noexc3 : A.in1.in1.in1.handled = none := by simp [noexc]
        have szp : (s.heap.push (newSet w)).objs.size = s.heap.objs.size + 1 := Heap.size_push ..
        have neIt : l ≠ (s.heap.push (newSet w)).objs.size := by rw [szp]; exact Nat.ne_of_lt (Nat.lt_succ_of_lt ltl)
        have notIn : s.heap.objs.size ∉ [(s.heap.push (newSet w)).objs.size, l] := by
          intro z
          rcases List.mem_cons.mp z with z | z
          · rw [szp] at z; exact Nat.ne_of_lt (Nat.lt_succ_self _) z
          · exact Nat.ne_of_gt ltl (List.mem_singleton.mp z)
        have each : ∀ (i : Nat) (v : Value), its[i]? = some v → ∃ p, ks[i]? = some p ∧ v = .ref p.1 := fun i v hv => by
          have q : (ks.map fun p => Value.ref p.1)[i]? = some v := by rw [← eits, Array.getElem?_toList]; exact hv
          rw [List.getElem?_map, Option.map_eq_some_iff] at q
          obtain ⟨p, h1, h2⟩ := q
          exact ⟨p, h1, h2.symm⟩
        have beyond : ∀ b, s.heap.objs.size ≤ b → s.heap.get? b = none := fun b hb => by
          cases q : s.heap.get? b with
          | none => rfl
          | some o => exact (Nat.not_lt.mpr hb (Heap.lt_size q)).elim
        refine set_update_tups ((Walks.tuple noexc3 _ l neIt its).toS) s.heap.objs.size notIn ks eqn k64 each s.heap ek (beyond _ (Nat.le_refl _)) (fun b hb => beyond b (by rw [List.mem_singleton.mp hb, szp]; exact Nat.le_succ _)) un (its.size - 0) 0 _ (by omega) (Nat.zero_le _)
          ⟨⟨_, Heap.get?_push_size _ rfl, rfl, rfl⟩, (tup2.push _)⟩ (fun b o e => Heap.get?_push_of_some _ (Heap.get?_push_of_some _ e)) ?_ ?_
        · have g := Heap.get?_push_of_some { cls := .type "tuple_iterator", data := .fields #[.ref l, .int 0 0] } atS
          exact ⟨[], #[], 0, _, setTR_fresh g, Got.zero ks⟩
        · intro s3 L es ep t mv sR got kp
          obtain ⟨h3, g3, d3, tk3, os3⟩ := s3
          have e1 : g3 = s.gens := mv.gens
          have e2 : d3 = s.drawn := mv.drawn
          have e3 : os3 = s.os := mv.os
          subst e1 e2 e3
          refine wpAny_pure ?_
          change wpAny _ _ (ret Value.none) _ _ _
          rw [eqn] at got
          exact wpAny_pure ⟨rfl, h3, tk3, L, es, ep, t, rfl, sR, got, kp⟩
      · cases r2 with
        | error e => exact hr2
        | ok fl2 =>
          cases fl2 with
          | ret r =>
            obtain ⟨rfl, h', tk, L, es, ep, t, rfl, sR, got, kp⟩ := hr2
            repeat (any_goals (first | assumption | wp_step))
            exact fin _ _ _ _ _ _ sR got kp
          | _ => exact hr2.elim
    | _ => exact hr.elim
end
/-! ## sets: sorted -/
abbrev tI (k : List Int) : D := .tuple (k.map .int)
theorem reads_ints {h : Heap} : ∀ {vs : List Value} {k : List Int}, IntsAre vs k → ReadsAll h vs (k.map .int) []
  | _, _, .nil => .nil
  | _, _, .cons n t r => .cons (.int n t) (reads_ints r)
theorem reads_tI {P : Program} {w : World} {h : Heap} {k : List Int} {b : Addr} (x : IsT P w h k b) : Reads h (.ref b) (tI k) [] := by
  obtain ⟨o, items, n, ho, hc, hd, hi⟩ := x
  exact .tuple (n := n) ho hc (by rw [hd]) (reads_ints (ints_of_items hi))
theorem each_refs : ∀ L : List (Addr × List Int), PySem.W.EachIs (fun v q => v = Value.ref q.1) (L.map fun q => Value.ref q.1) L
  | [] => .nil
  | q :: L => .cons rfl (each_refs L)
theorem refs_each : ∀ {vs : List Value} {L : List (Addr × List Int)}, PySem.W.EachIs (fun v q => v = Value.ref q.1) vs L → vs = L.map fun q => Value.ref q.1
  | _, _, .nil => rfl
  | _, _, .cons rfl r => by rw [List.map_cons, ← refs_each r]
section
variable {P : Program} {w : World} {A : Around} {E : Value → Shared → Prop} {s : Shared}
theorem sorted_setD {a : Addr} {L : List (Addr × List Int)} {es : Array (Int × Value)} {ep : Nat} {t : SetTable} {Q : Value → Shared → Prop} (R : SetTR P w s.heap a L es ep t) (noexc : A.handled = none) (ne : ∀ p ∈ L, p.2 ≠ []) (un : A.units + 65 < cLine)
    (fin : ∀ s' p (out : Array Value) (c : Nat) (M : List (Addr × List Int)), (∀ b o, s.heap.get? b = some o → s'.heap.get? b = some o) → s'.gens = s.gens → s'.os = s.os → s.heap.objs.size ≤ p →
      s'.heap.get? p = some (seqObj "list" out c) → out.toList = M.map (fun q => Value.ref q.1) → M.Perm L → M.Pairwise (fun q r => leD0 (tI q.2) (tI r.2) = true) → Q (.ref p) s') :
    wpAny (model P w) A (call (.builtin "sorted") [.ref a]) Q E s := by
  obtain ⟨o, ho, oex, od⟩ := R.ob
  have few := R.few
  have sz := R.size
  refine Calls.call_function_entry kind_sorted plain_sorted entry_sorted (args_sorted1 _) ?_
  unfold Builtin.«sorted»
  refine wpAny_bind (m := checkCount "sorted" 1 1 _) (wpAny_pure ?_)
  refine wpAny_bind (collect_set (A := A.in1) noexc ⟨o, ho, oex.1, od⟩ R.fits (by unfold scanBound; omega) R.tab.ris R.led fun s1 vs k1 szs g1 o1 pm => ?_)
  have rows : es.toList.map (·.2) = L.map fun q => Value.ref q.1 := by
    rw [R.rows, rowsOf, List.map_map]
    rfl
  rw [rows] at pm
  -- the values in the set's own order
  obtain ⟨L1, e1, p1⟩ : ∃ L1 : List (Addr × List Int), vs = L1.map (fun q => Value.ref q.1) ∧ L1.Perm L := by
    have gen : ∀ (vs : List Value) (L : List (Addr × List Int)), vs.Perm (L.map fun q => Value.ref q.1) → ∃ L1 : List (Addr × List Int), vs = L1.map (fun q => Value.ref q.1) ∧ L1.Perm L := by
      intro vs
      induction vs with
      | nil => intro L h; exact ⟨[], rfl, by rw [List.map_eq_nil_iff.mp h.symm.eq_nil]⟩
      | cons v vs ih =>
        intro L h
        obtain ⟨q, hq, rfl⟩ := List.mem_map.mp (h.mem_iff.mp (List.mem_cons_self ..))
        obtain ⟨x, y, rfl⟩ := List.append_of_mem hq
        rw [List.map_append, List.map_cons] at h
        obtain ⟨L1, h1, h2⟩ := ih (x ++ y) (by rw [List.map_append]; exact (h.trans List.perm_middle).cons_inv)
        exact ⟨q :: L1, by rw [h1]; rfl, (h2.cons q).trans List.perm_middle.symm⟩
    exact gen vs L pm
  have vlen : vs.length = L1.length := by rw [e1, List.length_map]
  have llen : L1.length < 64 := by rw [p1.length_eq]; exact few
  have vsz : vs.length ≤ sizeLine := by rw [sizeLine_eq]; omega
  refine wpAny_bind (wpAny_newList ?_ vsz)
  have atL : (s1.heap.push (seqObj "list" vs.toArray 0)).get? s1.heap.objs.size = some (seqObj "list" vs.toArray 0) := Heap.get?_push_size _ rfl
  have tq : ∀ q ∈ L1, IsT P w (s1.heap.push (seqObj "list" vs.toArray 0)) q.2 q.1 := fun q hq => isT_keep (R.tup q (p1.mem_iff.mp hq)) fun b u e => Heap.get?_push_of_some _ (k1 b u e)
  have er : PySem.W.EachIs (fun v q => ∃ as, Reads (s1.heap.push (seqObj "list" vs.toArray 0)) v (tI q.2) as ∧ s1.heap.objs.size ∉ as) vs L1 := by
    rw [e1] at tq ⊢
    have gen : ∀ M : List (Addr × List Int), (∀ q ∈ M, IsT P w (s1.heap.push (seqObj "list" (L1.map fun q => Value.ref q.1).toArray 0)) q.2 q.1) → PySem.W.EachIs (fun v q => ∃ as, Reads (s1.heap.push (seqObj "list" (L1.map fun q => Value.ref q.1).toArray 0)) v (tI q.2) as ∧ s1.heap.objs.size ∉ as) (M.map fun q => Value.ref q.1) M := by
      intro M
      induction M with
      | nil => intro _; exact .nil
      | cons q M ih => intro h; exact .cons ⟨[], reads_tI (h q (List.mem_cons_self ..)), by simp⟩ (ih fun z hz => h z (List.mem_cons_of_mem _ hz))
    exact gen L1 tq
  have eL : PySem.W.EachIs (fun v q => v = Value.ref q.1) vs L1 := by rw [e1]; exact each_refs L1
  have al : PySem.W.AllAlike (L1.map fun q => tI q.2) := fun d hd e he => by
    obtain ⟨q, _, rfl⟩ := List.mem_map.mp hd
    obtain ⟨r, _, rfl⟩ := List.mem_map.mp he
    exact PySem.W.alike_ints q.2 r.2
  have so : PySem.W.Sortable (L1.map fun q => tI q.2) := .inl fun d hd => by
    obtain ⟨q, hq, rfl⟩ := List.mem_map.mp hd
    cases e : q.2 with
    | nil => exact absurd e (ne q (p1.mem_iff.mp hq))
    | cons x r => exact ⟨.int x, r.map .int, rfl⟩
  have dp : ∀ k : List Int, PyData.depth (tI k) ≤ 1 := fun k => by
    show PyData.depthAll (k.map .int) + 1 ≤ 1
    have : PyData.depthAll (k.map PyData.int) = 0 := by
      induction k with
      | nil => rfl
      | cons x k ih => show max 0 (PyData.depthAll (k.map PyData.int)) = 0; rw [ih]; rfl
    omega
  have uin : A.in1.units = A.units + 1 := rfl
  refine wpAny_bind (wpAny_holding (PySem.W.list_sort_data (s := { s1 with heap := s1.heap.push (seqObj "list" vs.toArray 0) }) (enc := fun q : Addr × List Int => tI q.2) atL eL er al so (by rw [sizeLine_eq]; omega) (fun q hq => by have := dp q.2; omega) fun out ol oe => ?_))
  have eo := refs_each oe
  obtain ⟨c, hc⟩ := sortedHeap_at (vs := vs) (out := out.toArray) atL
  refine wpAny_pure ⟨_, rfl, fin _ s1.heap.objs.size out.toArray c (L1.mergeSort (PySem.W.dataLe false fun q => tI q.2)) (fun b u e => ?_) g1 o1 szs hc eo ((List.mergeSort_perm _ _).trans p1) ?_⟩
  · have q := k1 b u e
    have lt := Heap.lt_size q
    exact (sortedHeap_old (Nat.ne_of_lt lt) (by rw [size_push']; exact Nat.lt_succ_of_lt lt)).trans (Heap.get?_push_of_some _ q)
  · exact PySem.W.sort_pairwise (PySem.W.sortLe_total _ _ _) _
end
end TT
set_option Elab.async false
set_option linter.all false
set_option maxRecDepth 100000
set_option maxHeartbeats 3200000
namespace TT
open PySem PySem.Spec PyProof.Rows L2 LamX NdefX
/-! each once -/
def dd {α : Type} [DecidableEq α] : List α → List α
  | [] => []
  | a :: l => if a ∈ dd l then dd l else a :: dd l
theorem mem_dd {α : Type} [DecidableEq α] {a : α} : ∀ {l : List α}, a ∈ dd l ↔ a ∈ l
  | [] => Iff.rfl
  | b :: l => by
    have ih := mem_dd (a := a) (l := l)
    unfold dd
    split
    · rename_i h
      rw [ih, List.mem_cons]
      constructor
      · exact .inr
      · rintro (rfl | h2)
        · exact mem_dd.mp h
        · exact h2
    · rw [List.mem_cons, List.mem_cons, ih]
theorem nodup_dd {α : Type} [DecidableEq α] : ∀ l : List α, (dd l).Nodup
  | [] => .nil
  | b :: l => by
    unfold dd
    split
    · exact nodup_dd l
    · rename_i h
      exact List.nodup_cons.mpr ⟨h, nodup_dd l⟩
theorem dd_len {α : Type} [DecidableEq α] : ∀ l : List α, (dd l).length ≤ l.length
  | [] => Nat.le_refl _
  | b :: l => by
    have := dd_len l
    unfold dd
    split
    · rw [List.length_cons]; omega
    · rw [List.length_cons, List.length_cons]; omega
def setI (ns : List Int) : List Int := (dd ns).mergeSort fun a b => decide (a ≤ b)
def setR (ks : List (List Int)) : List D := sortD ((dd ks).map tI)
theorem setI_eq {ns ms : List Int} (h : ms.Pairwise (· < ·)) (hm : ∀ k, k ∈ ms ↔ k ∈ ns) : ms = setI ns := by
  have nd : ms.Nodup := h.imp fun h => by omega
  have pm : ms.Perm (dd ns) := (List.perm_ext_iff_of_nodup nd (nodup_dd ns)).mpr fun k => by rw [hm, mem_dd]
  refine List.Perm.eq_of_pairwise (le := fun a b : Int => a ≤ b) (fun a b _ _ h1 h2 => by omega) (h.imp fun h => by omega) ?_ (pm.trans (List.mergeSort_perm _ _).symm)
  have := List.pairwise_mergeSort (le := fun a b : Int => decide (a ≤ b)) (fun a b c h1 h2 => by simp at *; omega) (fun a b => by simp; omega) (dd ns)
  exact this.imp fun h => by simpa using h
theorem lexLt_dec : ∀ a b : List Int, HT.lexLt a b = decide (a < b)
  | [], [] => by simp [HT.lexLt]
  | [], _ :: _ => by simp [HT.lexLt]
  | _ :: _, [] => by simp [HT.lexLt]
  | x :: a, y :: b => by
    rw [HT.lexLt_cons, lexLt_dec a b]
    by_cases h : x = y
    · rw [if_pos h]; simp [h, List.cons_lt_cons_iff]
    · rw [if_neg h]; simp [h, List.cons_lt_cons_iff]
theorem le_tI (a b : List Int) : leD0 (tI a) (tI b) = !HT.lexLt b a := by
  show (!PySem.W.dataLt (tI b) (tI a)) = _
  rw [PySem.W.dataLt_tuple, lexLt_dec]
  exact congrArg (!·) (PySem.W.dataLt_ints b a)
theorem lex_anti : ∀ a b : List Int, HT.lexLt a b = false → HT.lexLt b a = false → a = b
  | [], [], _, _ => rfl
  | [], _ :: _, h, _ => by cases h
  | _ :: _, [], _, h => by cases h
  | x :: a, y :: b, h1, h2 => by
    rw [HT.lexLt_cons] at h1 h2
    by_cases e : x = y
    · rw [if_pos e] at h1
      rw [if_pos e.symm] at h2
      rw [e, lex_anti a b h1 h2]
    · rw [if_neg e, decide_eq_false_iff_not] at h1
      rw [if_neg (fun z => e z.symm), decide_eq_false_iff_not] at h2
      omega
theorem setR_eq {ks ms : List (List Int)} (h : ms.Pairwise (fun a b => leD0 (tI a) (tI b) = true)) (nd : ms.Nodup) (hm : ∀ k, k ∈ ms ↔ k ∈ ks) : ms.map tI = setR ks := by
  have pm : ms.Perm (dd ks) := (List.perm_ext_iff_of_nodup nd (nodup_dd ks)).mpr fun k => by rw [hm, mem_dd]
  refine List.Perm.eq_of_pairwise (le := fun a b : D => leD0 a b = true) (fun a b ha hb h1 h2 => ?_) (List.pairwise_map.mpr h) (PySem.W.sort_pairwise (PySem.W.sortLe_total _ _ _) _) ((pm.map tI).trans (List.mergeSort_perm _ _).symm)
  obtain ⟨x, _, rfl⟩ := List.mem_map.mp ha
  obtain ⟨y, _, rfl⟩ := List.mem_map.mp ((List.mergeSort_perm _ _).mem_iff.mp hb)
  rw [le_tI] at h1 h2
  rw [lex_anti x y (by simpa using h2) (by simpa using h1)]
/-! ## sorted(set(..)) -/
def rowsD : List D → Option (List (List Int))
  | [] => some []
  | .tuple l :: r => (match intsOf l, rowsD r with
    | some k, some ks => some (k :: ks)
    | _, _ => none)
  | _ :: _ => none
def gSetT (l : List D) (st : Sto) : Res U := match rowsD l with
  | some ks => if ks.length < 64 ∧ (ks.all fun k => !k.isEmpty) = true then .ok (.d (.list (setR ks))) st else .bad
  | none => .bad
def gSortedSet : List U → Sto → Res U
  | [.d (.tuple l)], st => (match intsOf l with
    | some ns => if ns.length < 64 then .ok (.d (.list ((setI ns).map .int))) st else .bad
    | none => gSetT l st)
  | [u], st => (match (lstOf st u).bind allD with
    | some l => gSetT l st
    | none => .bad)
  | _, _ => .bad
theorem ints_back : ∀ {l : List D} {ns : List Int}, intsOf l = some ns → l = ns.map .int
  | [], ns, h => by cases h; rfl
  | d :: l, ns, h => by
    cases d with
    | int i =>
      have h : (match intsOf l with
        | some l => some (i :: l)
        | none => none) = some ns := h
      cases e : intsOf l with
      | none => rw [e] at h; cases h
      | some ms =>
        rw [e] at h
        cases h
        rw [List.map_cons, ← ints_back e]
    | _ => cases h
theorem ints_V {K : PySem.W.Frag} {H : Hp} : ∀ {k : List Int} {vs : List V}, RepDs K H (k.map .int) vs → vs = k.map V.int
  | [], _, .nil => rfl
  | x :: k, _, .cons (.int _) r => by rw [ints_V r]; rfl
theorem V_ints {K : PySem.W.Frag} {H : Hp} : ∀ k : List Int, RepDs K H (k.map .int) (k.map V.int)
  | [] => .nil
  | x :: k => .cons (.int x) (V_ints k)
theorem rows_rep {K : PySem.W.Frag} {H : Hp} : ∀ {l : List D} {ks : List (List Int)} {vs : List V}, rowsD l = some ks → RepDs K H l vs → ∃ L : List (Addr × List Int), vs = L.map (fun p => V.ref p.1) ∧ L.map (·.2) = ks ∧ ∀ p ∈ L, SqT K H p.1 (p.2.map V.int) ∧ p.2.length ≤ sizeLine
  | [], ks, _, h, .nil => by cases h; exact ⟨[], rfl, rfl, fun _ z => nomatch z⟩
  | d :: l, ks, _, h, .cons a r => by
    cases d with
    | tuple z =>
      have h : (match intsOf z, rowsD l with
        | some k, some ks => some (k :: ks)
        | _, _ => none) = some ks := h
      cases e1 : intsOf z with
      | none => rw [e1] at h; cases h
      | some k =>
        cases e2 : rowsD l with
        | none => rw [e1, e2] at h; cases h
        | some ks2 =>
          rw [e1, e2] at h
          cases h
          cases a with
          | @tuple ad vs _ sq sz rs =>
            obtain ⟨L, h1, h2, h3⟩ := rows_rep e2 r
            have e3 := ints_back e1
            subst e3
            have e4 := ints_V rs
            subst e4
            refine ⟨(ad, k) :: L, by rw [h1]; rfl, by rw [List.map_cons, h2], fun p hp => ?_⟩
            rcases List.mem_cons.mp hp with rfl | hp
            · exact ⟨sq, by simpa using sz⟩
            · exact h3 p hp
    | _ => cases h
theorem rep_rows {K : PySem.W.Frag} {H : Hp} : ∀ L : List (Addr × List Int), (∀ p ∈ L, SqT K H p.1 (p.2.map V.int) ∧ p.2.length ≤ sizeLine) → RepDs K H ((L.map (·.2)).map tI) (L.map fun p => V.ref p.1)
  | [], _ => .nil
  | p :: L, h => .cons (.tuple (h p (List.mem_cons_self ..)).1 (by simpa using (h p (List.mem_cons_self ..)).2) (V_ints p.2)) (rep_rows L fun q hq => h q (List.mem_cons_of_mem _ hq))
section
variable {X : Cx}
def rSetI (K : PySem.W.Frag) (w : World) : List V → Hp → VK → Prop := fun xs H Q => ∃ (l : Addr) (ns : List Int), xs = [V.ref l] ∧ SqT K H l (ns.map V.int) ∧ ns.length < 64 ∧ ∀ a c, H a = none → c ≤ ns.length → Q (.ref a) (upd H a (SetO w a (fun j => decide (j ∈ ns)) c))
theorem cr_setI (hc : X.calm = true) : CallR X (.type "set") (rSetI X.K X.w) := by
  intro pins s σ H xs us Q I r h
  obtain ⟨l, ns, rfl, hl, hf, q⟩ := h
  rw [Vals.ref1 r]
  obtain ⟨its, rv, tup, hz⟩ := I.tuple hl
  refine call_set_tupI (P := X.prog) (w := X.w) ns (I.ok.hd hc) tup (by simpa using rv.ints) (by unfold scanBound; omega) fun h' tk c R hcl k => ?_
  exact ⟨.ref s.heap.objs.size, upd H s.heap.objs.size (SetO X.w s.heap.objs.size (fun j => decide (j ∈ ns)) c), I.laid (t' := tk) k (Nat.le_refl _) (setO_new R), rfl, q _ c (I.hok.fresh (Nat.le_refl _)) hcl⟩
/-- set(..) of int tuples, out of a tuple -/
def rSetTT (K : PySem.W.Frag) (P : Program) (w : World) : List V → Hp → VK → Prop := fun xs H Q => ∃ (l : Addr) (ks : List (Addr × List Int)), xs = [V.ref l] ∧ SqT K H l (ks.map fun p => V.ref p.1) ∧ (∀ p ∈ ks, SqT K H p.1 (p.2.map V.int)) ∧ ks.length < 64 ∧
  ∀ a L, H a = none → (∀ p ∈ L, p ∈ ks) → (∀ p ∈ ks, p.2 ∈ L.map (·.2)) → Q (.ref a) (upd H a (SetTO P w a L))
theorem cr_setTT (hc : X.calm = true) (hu : X.A.units + 64 < cLine) : CallR X (.type "set") (rSetTT X.K X.prog X.w) := by
  intro pins s σ H xs us Q I r h
  obtain ⟨l, ks, rfl, hl, hk, hf, q⟩ := h
  rw [Vals.ref1 r]
  obtain ⟨its, rv, tup, hz⟩ := I.tuple hl
  refine call_set_tt (P := X.prog) (w := X.w) ks (I.ok.hd hc) tup (by simpa using refs_of_vals rv) (fun p hp => I.isT (hk p hp)) hf (by omega) fun h' tk L es ep t R g k => ?_
  refine ⟨.ref s.heap.objs.size, upd H s.heap.objs.size (SetTO X.prog X.w s.heap.objs.size L), I.laid (t' := tk) k (Nat.le_refl _) (setTO_new R.t0), rfl, q _ L (I.hok.fresh (Nat.le_refl _)) (fun p hp => ?_) fun p hp => ?_⟩
  · have := g.sub p hp
    rw [List.take_length] at this
    exact this
  · have := g.all p
    rw [List.take_length] at this
    exact this hp
/-- sorted(..) of such a set -/
def rSortTD (K : PySem.W.Frag) (P : Program) (w : World) : List V → Hp → VK → Prop := fun vs H Q => ∃ (a : Addr) (L : List (Addr × List Int)), vs = [V.ref a] ∧ H a = some (SetTO P w a L) ∧ (∀ p ∈ L, SqT K H p.1 (p.2.map V.int)) ∧ (∀ p ∈ L, p.2 ≠ []) ∧
  ∀ (M : List (Addr × List Int)) (p : Addr), M.Perm L → (M.map (·.2)).Nodup → M.length < 64 → M.Pairwise (fun q r => leD0 (tI q.2) (tI r.2) = true) → H p = none → Q (.ref p) (upd H p (.lst (M.map fun q => V.ref q.1)))
theorem cr_sortTD (hc : X.calm = true) (hu : X.A.units + 65 < cLine) : CallR X (.builtin "sorted") (rSortTD X.K X.prog X.w) := by
  intro pins s σ H vs us Q I r h
  obtain ⟨a, L, rfl, ha, hk, ne, q⟩ := h
  have R0 : SetT0 X.prog X.w s.heap a L := (I.hok a _ ha).1
  have ⟨es, ep, t, R⟩ := R0.full fun p hp => I.isT (hk p hp)
  rw [Vals.ref1 r]
  refine sorted_setD R (I.ok.hd hc) ne hu fun s2 p out c M k g o hp hg hout pm pw => ?_
  have m64 : M.length < 64 := by rw [pm.length_eq]; exact R.few
  have lenM : (M.map fun q => V.ref q.1).length ≤ sizeLine := by rw [List.length_map, sizeLine_eq]; omega
  have hn : H p = none := I.hok.fresh hp
  have hv : Vals (M.map fun q => V.ref q.1) out.toList := by rw [hout]; exact vals_of_refs M
  have J : Inv X pins σ (upd H p (.lst (M.map fun q => V.ref q.1))) { s with heap := s2.heap, gens := s2.gens, drawn := s2.drawn, toks := s2.toks } :=
    I.call (ch := []) (Un.laid k hp hn) (I.hok.laid k hp ⟨lenM, out.toList, c, hv, hg⟩) (by rw [g]; exact I.bare) (fun _ z => nomatch z)
  have e2 : s2 = { s with heap := s2.heap, gens := s2.gens, drawn := s2.drawn, toks := s2.toks } := by
    obtain ⟨_, _, _, _, _⟩ := s2
    obtain ⟨_, _, _, _, _⟩ := s
    subst o
    rfl
  rw [e2]
  exact ⟨.ref p, _, J, rfl, q M p pm ((pm.map (·.2)).nodup_iff.mpr R.nd) m64 pw hn⟩
end
section
variable {X : Cx} {oS : OwnS} {G : Gd} {W : WX}
def rSet3 (K : PySem.W.Frag) (P : Program) (w : World) : List V → Hp → VK → Prop := fun xs H Q => rSetI K w xs H Q ∨ rSetTT K P w xs H Q ∨ rSetOfT K P w xs H Q
theorem cr_set3 (hc : X.calm = true) (hu : X.A.units + 64 < cLine) : CallR X (.type "set") (rSet3 X.K X.prog X.w) := fun pins s σ H xs us Q I r h => by
  rcases h with h | h | h
  · exact cr_setI hc pins s σ H xs us Q I r h
  · exact cr_setTT hc hu pins s σ H xs us Q I r h
  · exact cr_setOfT hc hu pins s σ H xs us Q I r h
def rSort2 (K : PySem.W.Frag) (P : Program) (w : World) : List V → Hp → VK → Prop := fun xs H Q => rSortedSet w xs H Q ∨ rSortTD K P w xs H Q
theorem cr_sort2 (hc : X.calm = true) (hu : X.A.units + 65 < cLine) : CallR X (.builtin "sorted") (rSort2 X.K X.prog X.w) := fun pins s σ H xs us Q I r h => by
  rcases h with h | h
  · exact cr_sortedSet hc pins s σ H xs us Q I r h
  · exact cr_sortTD hc hu pins s σ H xs us Q I r h
def rSS (K : PySem.W.Frag) (P : Program) (w : World) : List V → Hp → VK → Prop := fun vs H Q => rSet3 K P w vs H fun x H2 => rSort2 K P w [x] H2 Q
/-- the rows' part: what stands behind the set -/
theorem ss_rows {P : Program} {w : World} {B ρ : List Addr} {en : Nv} {st : Sto} {σ : L2.St} {H : Hp} {Q : VK} (R : Rel oS G B ρ en st σ H) {L : List (Addr × List Int)} (hL : ∀ p ∈ L, SqT G.K (vis B ρ H) p.1 (p.2.map V.int) ∧ p.2.length ≤ sizeLine) (h64 : L.length < 64) (ne : ∀ p ∈ L, p.2 ≠ [])
    (h : PostE oS G W B ρ en σ H (fun u ρ' H' _ => ∀ v, RepU G (vis B ρ' H') ρ' (oS σ) u v → Q v H') (.ok (.d (.list (setR (L.map (·.2))))) st))
    (a : Addr) (M : List (Addr × List Int)) (ha : H a = none) (m1 : ∀ p ∈ M, p ∈ L) (m2 : ∀ p ∈ L, p.2 ∈ M.map (·.2)) : rSort2 G.K P w [.ref a] (upd H a (SetTO P w a M)) Q := by
  have le1 : Le H (upd H a (SetTO P w a M)) := le_new (Le.refl _) ha
  refine .inr ⟨a, M, rfl, upd_same, fun p hp => SqT.le le1 (SqT.le vis_le (hL p (m1 p hp)).1), fun p hp => ne p (m1 p hp), fun N q pm nd n64 pw hq => ?_⟩
  have R2 := R.laid (o := SetTO P w a M) ha
  have f := R2.sto.fresh hq
  have e : (N.map (·.2)).map tI = setR (L.map (·.2)) := setR_eq (List.pairwise_map.mpr pw) nd fun k => by
    constructor
    · intro hk
      obtain ⟨p, hp, rfl⟩ := List.mem_map.mp hk
      exact List.mem_map.mpr ⟨p, m1 p (pm.mem_iff.mp hp), rfl⟩
    · intro hk
      obtain ⟨p, hp, rfl⟩ := List.mem_map.mp hk
      exact (pm.map (·.2)).mem_iff.mpr (m2 p hp)
  have st1 : Stp ρ H ρ (upd H a (SetTO P w a M)) := Stp.laid ha
  have st2 := st1.trans (Stp.laid (o := .lst (N.map fun q => V.ref q.1)) hq)
  refine h ρ _ st2 (R2.laid hq) _ (.d ?_)
  rw [← e]
  refine .list (.inl (vis_of f.1 f.2 upd_same)) (by rw [List.length_map, sizeLine_eq]; omega) (rep_rows N fun p hp => ?_)
  have := hL p (m1 p (pm.mem_iff.mp hp))
  exact ⟨SqT.le st2.le this.1, this.2⟩
theorem ss_gSetT {P : Program} {w : World} {B ρ : List Addr} {en : Nv} {st : Sto} {σ : L2.St} {H : Hp} {Q : VK} (R : Rel oS G B ρ en st σ H) {l : List D} {vs : List V} (rd : RepDs G.K (vis B ρ H) l vs)
    (h : PostE oS G W B ρ en σ H (fun u ρ' H' _ => ∀ v, RepU G (vis B ρ' H') ρ' (oS σ) u v → Q v H') (gSetT l st)) :
    ∃ L : List (Addr × List Int), vs = L.map (fun p => V.ref p.1) ∧ (∀ p ∈ L, SqT G.K H p.1 (p.2.map V.int)) ∧ L.length < 64 ∧ ∀ a M, H a = none → (∀ p ∈ M, p ∈ L) → (∀ p ∈ L, p.2 ∈ M.map (·.2)) → rSort2 G.K P w [.ref a] (upd H a (SetTO P w a M)) Q := by
  unfold gSetT at h
  split at h
  · rename_i ks hk
    obtain ⟨L, e1, e2, e3⟩ := rows_rep hk rd
    split at h
    · rename_i c
      subst e2
      rw [List.length_map] at c
      refine ⟨L, e1, fun p hp => SqT.le vis_le (e3 p hp).1, c.1, fun a M ha m1 m2 => ss_rows R e3 c.1 (fun p hp z => ?_) h a M ha m1 m2⟩
      have := List.all_eq_true.mp c.2 p.2 (List.mem_map.mpr ⟨p, hp, rfl⟩)
      rw [z] at this
      cases this
    · exact h.elim
  · exact h.elim
theorem cs_sortedSet {P : Program} {w : World} : CallS oS G W (rSS G.K P w) gSortedSet := by
  intro B ρ en st σ H us vs Q R r h
  unfold gSortedSet at h
  split at h
  · rename_i l
    cases r with
    | cons a b =>
      cases b
      cases a with
      | d a =>
        cases a with
        | @tuple ad ws _ sq sz rs =>
          split at h
          · rename_i ns hn
            split at h
            · rename_i c
              have e1 := ints_back hn
              subst e1
              have e2 := ints_V rs
              subst e2
              refine .inl ⟨ad, ns, rfl, SqT.le vis_le sq, c, fun p k hp hk => .inl ⟨p, _, k, rfl, upd_same, by omega, fun ms q h1 h2 h3 hq => ?_⟩⟩
              have R2 := R.laid (o := SetO w p (fun j => decide (j ∈ ns)) k) hp
              have f := R2.sto.fresh hq
              have st1 : Stp ρ H ρ (upd H p (SetO w p (fun j => decide (j ∈ ns)) k)) := Stp.laid hp
              have st2 := st1.trans (Stp.laid (o := .lst (ms.map V.int)) hq)
              have e : ms = setI ns := setI_eq h1 fun z => by rw [h2, decide_eq_true_eq]
              refine h ρ _ st2 (R2.laid hq) _ (.d ?_)
              rw [← e]
              exact .list (.inl (vis_of f.1 f.2 upd_same)) (by rw [List.length_map, sizeLine_eq]; omega) (V_ints ms)
            · exact h.elim
          · obtain ⟨L, e1, e2, e3, e4⟩ := ss_gSetT (P := P) (w := w) R rs h
            subst e1
            exact .inr (.inl ⟨ad, L, rfl, SqT.le vis_le sq, e2, e3, fun a M ha m1 m2 => e4 a M ha m1 m2⟩)
  · rename_i u _
    split at h
    · rename_i l hl
      cases r with
      | cons a b =>
        cases b
        obtain ⟨l0, h0, h1⟩ := Option.bind_eq_some_iff.mp hl
        obtain ⟨p, ws, rfl, sq, rs, hz⟩ := lst_rep R a h0
        obtain ⟨L, e1, e2, e3, e4⟩ := ss_gSetT (P := P) (w := w) R (rs.allD h1) h
        subst e1
        exact .inr (.inr ⟨p, L, rfl, .inl sq, e2, e3, fun a M ha m1 m2 => e4 a M ha m1 m2⟩)
    · exact h.elim
  · exact h.elim
theorem se_sortedSet {e : Expr} {p p2 pos q : Pos} {fs : SemA} (hK : X.K = G.K) (hc : X.calm = true) (hu : X.A.units + 65 < cLine) (hg : Gl X "sorted") (hm : X.mg "sorted" = none) (hv : bootBuiltins "sorted" = some (.builtin "sorted")) (hg2 : Gl X "set") (hm2 : X.mg "set" = none) (hv2 : bootBuiltins "set" = some (.type "set"))
    (ha : SA X oS G W [e] fs) (na : starEach [e] X.env = (false, eval e X.env) :: starEach [] X.env := by rfl) :
    SE X oS G W (.Call (.Name "sorted" p) [.Call (.Name "set" p2) [e] [] q] [] pos) (mCB gSortedSet fs) := by
  refine PE.imp (pe_callB (cr_sort2 hc hu) hg hm hv (pa_cons (pe_callTy (cr_set3 hc (by omega)) hg2 hm2 hv2 ha (by decide) (by decide) na rfl) pa_nil)) fun σ H Q h => ?_
  have q := rd_CB (cs_sortedSet (P := X.prog) (w := X.w)) h
  rw [← hK] at q
  exact q
end
end TT
set_option Elab.async false
set_option linter.all false
set_option maxRecDepth 100000
set_option maxHeartbeats 3200000
namespace TT
open PySem PySem.Spec PyProof.Rows L2 LamX NdefX HT
/-! ## tuples, backward -/
section
variable {prog : Program} {w : World} {A : Around} {E : Value → Shared → Prop} {s : Shared}
theorem places_rev (n : Nat) : Builtin.Slice.slicePlaces ((n : Int) - 1) (-1) (-1) = n := by
  unfold Builtin.Slice.slicePlaces
  rw [if_neg (by decide)]
  by_cases h : (n : Int) - 1 > -1
  · rw [if_pos h, show (-(-1) : Int) = 1 from rfl, Int.ediv_one]; omega
  · rw [if_neg h]; omega
theorem applied_rev {sl : Addr} {vl vu vs : Value} {n : Nat} {Q : Int × Int × Nat → Shared → Prop} (hs : s.heap.IsSliceOf sl vl vu vs) (pl : IsPart vl none) (pu : IsPart vu none) (ps : IsPart vs (some (-1)))
    (h : Q ((n : Int) - 1, -1, n) s) : wpAny (model prog w) A (Builtin.Slice.sliceApplied (.ref sl) (pure (n : Int))) Q E s := by
  obtain ⟨o, ho, hc, hd⟩ := id hs
  unfold Builtin.Slice.sliceApplied Builtin.Slice.sliceFields
  refine wpAny_bind (wpAny_bind (wpAny_field ho hd (x := vl) rfl (wpAny_bind (wpAny_field ho hd (x := vu) rfl (wpAny_bind (wpAny_field ho hd (x := vs) rfl (wpAny_pure ?_)))))))
  refine wpAny_bind (slicePart_ ps ?_)
  change wpAny _ _ (if ((-1 : Int) == 0) = true then _ else _) _ _ s
  rw [if_neg (by decide)]
  refine wpAny_bind (slicePart_ pl (wpAny_bind (slicePart_ pu (wpAny_bind (wpAny_pure ?_)))))
  change wpAny _ _ (pure ((n : Int) - 1, (-1 : Int), Builtin.Slice.slicePlaces ((n : Int) - 1) (-1) (-1))) _ _ s
  rw [places_rev]
  exact wpAny_pure h
theorem pick_rev (xs : Array Value) : ((List.range xs.size).filterMap fun (m : Nat) => xs[((xs.size : Int) - 1 + (m : Int) * -1).toNat]?).toArray = xs.toList.reverse.toArray := by
  have q := PySem.W.krv_pick xs
  unfold slicePick at q
  rw [PySem.W.krv_bounds] at q
  dsimp only at q
  rw [PySem.W.krv_sliceRange, List.filterMap_map] at q
  rw [← q]
  congr 2
  funext m
  show xs[((xs.size : Int) - 1 + (m : Int) * -1).toNat]? = xs[xs.size - 1 - m]?
  rw [show ((xs.size : Int) - 1 + (m : Int) * -1).toNat = xs.size - 1 - m from by omega]
theorem getItem_tuple_rev {t sl : Addr} {items : Array Value} {vl vu vs : Value} {Q : Value → Shared → Prop} (ht : IsTup s.heap t items) (hs : s.heap.IsSliceOf sl vl vu vs) (pl : IsPart vl none) (pu : IsPart vu none) (ps : IsPart vs (some (-1)))
    (h : Q (.ref s.heap.objs.size) { s with heap := s.heap.push { cls := .type "tuple", data := .seq items.toList.reverse.toArray } }) (hz : items.size ≤ sizeLine) : wpAny (model prog w) A (getItem (.ref t) (.ref sl)) Q E s := by
  have fits : sizeOk (.seq items.toList.reverse.toArray) := by
    change items.toList.reverse.toArray.size ≤ sizeLine
    simpa using hz
  obtain ⟨o, ho, hc, hd⟩ := id hs
  have isSl : s.TypeIs (.ref sl) "slice" := ⟨o, ho, hc⟩
  unfold getItem
  try with_reducible refine wpAny_holding ?_
  first | refine wpAny_bind (wpAny_pure ?_) | skip
  refine wpAny_bind (wpAny_sequenceKey ht.typeIs (by decide) ?_)
  refine wpAny_bind (wpAny_callSpecial?_slot (name := Str.ofString "__getitem__") ht.typeIs PyProof.Rows.slot_tuple_getitem (wpAny_call_entry PyProof.Rows.slot_tuple_getitem ht.typeIs entry_tuple_getitem ?_ (args_tuple_getitem _ _)))
  change wpAny _ _ (Builtin.Tuple.tupleItemsOf (.ref t) >>= _) _ _ s
  refine wpAny_bind (tupleItemsOf_ ht ?_)
  refine wpAny_bind (wpAny_typeOf isSl ?_)
  rw [if_pos (by decide)]
  refine wpAny_bind (applied_rev hs pl pu ps ?_)
  have no1 : ¬ (((items.size : Int) - 1 == 0 && (-1 : Int) == 1 && items.size == items.size) = true) := by simp
  change wpAny _ _ (if ((items.size : Int) - 1 == 0 && (-1 : Int) == 1 && items.size == items.size) = true then _ else _) _ _ s
  rw [if_neg no1, pick_rev]
  first
    | exact wpAny_bind (m := Builtin.Tuple.tupleExact _) (wpAny_newObj_type (wpAny_pure ⟨_, rfl, wpAny_pure h⟩) fits)
    | exact wpAny_bind (m := Builtin.Tuple.tupleExact _) (wpAny_newObj_type (wpAny_bind (wpAny_pure (wpAny_pure ⟨_, rfl, wpAny_pure h⟩))) fits)
    | exact wpAny_bind (wpAny_bind (m := Builtin.Tuple.tupleExact _) (wpAny_newObj_type (wpAny_pure (wpAny_pure ⟨_, rfl, wpAny_pure h⟩)) fits))
    | exact wpAny_bind (wpAny_bind (m := Builtin.Tuple.tupleExact _) (wpAny_newObj_type (wpAny_pure ⟨_, rfl, wpAny_pure h⟩) fits))
end
section
variable {X : Cx}
def tRevT (K : PySem.W.Frag) (te : TE) : TE := fun σ H Q => te σ H fun x H1 => ∃ a xs, x = .ref a ∧ SqT K H1 a xs ∧ ∀ p, H1 p = none → Q (.ref p) (upd H1 p (.tup xs.reverse))
theorem pe_revT {e : Expr} {te : TE} {k : Nat} {p1 p2 p3 pos : Pos} (he : PE X e te) : PE X (.Subscript e (.Slice none none (some (.UnaryOp .USub (.Constant (.int 1) k p1) p2)) p3) pos) (tRevT X.K te) := by
  refine ⟨fun pins s σ H Q I h => ?_⟩
  refine Subscript_ (thn (he.run pins s σ H _ I h) fun v s1 ⟨x, H1, I1, r1, a, xs, ex, hx, q⟩ => ?_)
  subst ex
  cases r1
  have pst : PO X (some (.UnaryOp .USub (.Constant (.int 1) k p1) p2)) (tPart (tUn (rU fun i => .int (-i)) (tC (.int 1)))) := po_some (pe_un un_neg pe_int)
  refine wpAny_Slice (thn (po_none.run pins s1 σ H1 (fun o H2 => o = none ∧ H2 = H1) I1 ⟨rfl, rfl⟩) fun vl s2 ⟨l, H2, I2, pl, el, e2⟩ => ?_)
  subst el e2
  refine thn (po_none.run pins s2 σ H2 (fun o H3 => o = none ∧ H3 = H2) I2 ⟨rfl, rfl⟩) fun vu s3 ⟨u, H3, I3, pu, eu, e3⟩ => ?_
  subst eu e3
  refine thn (pst.run pins s3 σ H3 (fun o H4 => o = some (-1) ∧ H4 = H3) I3 ⟨1, rfl, -1, rfl, rfl, rfl⟩) fun vs s4 ⟨o, H4, I4, ps, eo, e4⟩ => ?_
  subst eo e4
  have I5 : Inv X pins σ H4 { s4 with heap := s4.heap.push { cls := .type "slice", data := .fields #[vl, vu, vs] } } := I4.kept (t' := s4.toks) fun b ob q => Heap.get?_push_of_some _ q
  obtain ⟨its, r, ht, hz⟩ := I5.tuple hx
  have len := r.length
  change wpAny (model X.prog X.w) X.A (subscriptTail e (.Slice none none (some (.UnaryOp .USub (.Constant (.int 1) k p1) p2)) p3) (.ref a) (.ref s4.heap.objs.size)) (EP X pins σ Q) X.xe { s4 with heap := s4.heap.push { cls := .type "slice", data := .fields #[vl, vu, vs] } }
  refine tail_any (ops := [.ref a, .ref s4.heap.objs.size]) ht.typeIs (PyProof.Rows.slot_tuple_getitem.lookup) ?_ (by with_unfolding_all rfl)
  refine getItem_tuple_rev ht (Heap.IsSliceOf.new _ vl vu vs) pl pu ps ?_ (by rw [List.size_toArray]; omega)
  refine ⟨.ref _, _, I5.laid (t' := s4.toks) (o := .tup xs.reverse) (fun b ob q => Heap.get?_push_of_some _ q) (Nat.le_refl _) ?_, rfl, q _ (I5.hok.fresh (Nat.le_refl _))⟩
  exact ⟨by rw [List.length_reverse]; exact hz, _, r.reverse, _, Heap.get?_push_size _ rfl, rfl, 0, rfl⟩
end
/-- backward: of a tuple -/
def mRevT (f : SemE) : SemE := fun en st => (f en st).bind fun u st => match u with
  | .d (.tuple l) => .ok (.d (.tuple l.reverse)) st
  | _ => .bad
theorem repDs_rev {K : PySem.W.Frag} {H : Hp} : ∀ {l : List D} {vs : List V}, RepDs K H l vs → RepDs K H l.reverse vs.reverse
  | [], _, .nil => .nil
  | d :: l, _, .cons a r => by
    rw [List.reverse_cons, List.reverse_cons]
    exact RepDs.append (repDs_rev r) (.cons a .nil)
section
variable {X : Cx} {oS : OwnS} {G : Gd} {W : WX} {e : Expr} {f : SemE} {k : Nat} {p1 p2 p3 pos : Pos}
theorem se_revT (hK : X.K = G.K) (he : SE X oS G W e f) : SE X oS G W (.Subscript e (.Slice none none (some (.UnaryOp .USub (.Constant (.int 1) k p1) p2)) p3) pos) (mRevT f) := by
  refine PE.imp (pe_revT he) fun σ H Q h => ?_
  obtain ⟨B, ρ, en, st, R, h⟩ := h
  refine ⟨B, ρ, en, st, R, (PostE.bind h).mono fun u st1 ρ1 H1 _ s1 R1 h1 v rv => ?_⟩
  skip
  split at h1
  · rename_i l
    cases rv with
    | d rv => cases rv with
      | tuple sq z rs =>
        refine ⟨_, _, rfl, by rw [hK]; exact SqT.le vis_le sq, fun p hp => ?_⟩
        have fr := R1.sto.fresh hp
        refine h1 ρ1 _ (Stp.laid hp) (R1.laid hp) _ (.d (.tuple (SqT.of (vis_of fr.1 fr.2 upd_same)) ?_ ((repDs_rev rs).le (Stp.laid hp).le)))
        rw [List.length_reverse]
        exact z
  · exact h1.elim
end
end TT
namespace TT
open PySem PySem.Spec PyProof.Rows L2 LamX NdefX
theorem b_set : bootBuiltins "set" = some (.type "set") := PyProof.Rows.boot_set
/-- what nothing is said of -/
theorem sl_bad {X : Cx} {oS : OwnS} {G : Gd} {W : WX} {l : List Stmt} : SL X oS G W l (fun _ _ => .bad) := by
  refine ⟨fun pins s σ H Dn I w => ?_⟩
  obtain ⟨B, ρ, en, st, R, h⟩ := w
  exact h.elim
/-- a list is taken apart -/
def mGLst (n : Nat) (gs : List U → Nv → Sto → RS) : SemG := fun u en st => match lstOf st u with
  | some l => if l.length = n then gs l en st else .bad
  | none => .bad
section
variable {X : Cx} {oS : OwnS} {G : Gd} {W : WX}
theorem sg_lst {es : List Expr} {k : Nat} {gs : List U → Nv → Sto → RS} {n : Nat} {pos : Pos} (hK : X.K = G.K) (hc : X.calm = true) (h : SGs X oS G W es gs)
    (hn : (assignEach es X.env).length = n := by rfl) (hst : (assignEach es X.env).findIdx? (·.1) = none := by rfl) : SG X oS G W (.Tuple es k pos) (mGLst n gs) := by
  refine PG.imp (pg_lst hc h hn hst) fun v σ H Q ⟨B, ρ, en, st, u, R, ru, h⟩ => ?_
  unfold mGLst at h
  split at h
  · rename_i l hl
    split at h
    · rename_i hn
      obtain ⟨a, vs, rfl, sq, rs, hz⟩ := lst_rep R ru hl
      exact ⟨a, vs, rfl, .inl sq, by rw [← rs.length]; exact hn, B, ρ, en, st, l, R, rs, h⟩
    · exact h.elim
  · exact h.elim
end
end TT
set_option Elab.async false
set_option linter.all false
set_option maxRecDepth 100000
set_option maxHeartbeats 1000000
/-! plain evaluation -/
namespace TT
open PySem
/-- a store of flat lists of data -/
structure Fl (st : Sto) : Prop where
  own : stOwn st = false
  clo : stClo st = false
  lt : ∀ n, st.all (cellLt n) = true
theorem hasOwnL_map (l : List D) : hasOwnL (l.map U.d) = false := ownL_map l
theorem hasCloL_map : ∀ l : List D, hasCloL (l.map U.d) = false
  | [] => rfl
  | d :: l => hasCloL_map l
theorem refLtL_map (n : Nat) : ∀ l : List D, refLtL n (l.map U.d) = true
  | [] => rfl
  | d :: l => by
    show (true && refLtL n (l.map U.d)) = true
    rw [refLtL_map n l]; rfl
theorem Fl.nil : Fl [] := ⟨rfl, rfl, fun _ => rfl⟩
theorem Fl.snoc {st : Sto} (h : Fl st) (l : List D) : Fl (st ++ [.lst (l.map U.d)]) := by
  refine ⟨?_, ?_, fun n => ?_⟩
  · unfold stOwn; rw [List.any_append]; have := h.own; unfold stOwn at this; rw [this]; simp [cellOwn, hasOwnL_map]
  · unfold stClo; rw [List.any_append]; have := h.clo; unfold stClo at this; rw [this]; simp [cellClo, hasCloL_map]
  · rw [List.all_append, h.lt n]; simp [cellLt, refLtL_map]
theorem Fl.set {st : Sto} (h : Fl st) (n : Nat) (l : List D) : Fl (st.set n (.lst (l.map U.d))) := by
  refine ⟨?_, ?_, fun k => ?_⟩
  · have := h.own; unfold stOwn at this ⊢; rw [List.any_eq_false] at this ⊢
    intro c hc
    rcases List.mem_or_eq_of_mem_set hc with q | q
    · exact this c q
    · rw [q]; simp [cellOwn, hasOwnL_map]
  · have := h.clo; unfold stClo at this ⊢; rw [List.any_eq_false] at this ⊢
    intro c hc
    rcases List.mem_or_eq_of_mem_set hc with q | q
    · exact this c q
    · rw [q]; simp [cellClo, hasCloL_map]
  · have := h.lt k; rw [List.all_eq_true] at this ⊢
    intro c hc
    rcases List.mem_or_eq_of_mem_set hc with q | q
    · exact this c q
    · rw [q]; exact refLtL_map k l
section
variable {α β : Type} {a : α} {s st : Sto} {k : α → Sto → Res β} {kS : α → Sto → RS} {c : Str} {u w : Option U} {en e : Nv} {g : SemS} {x y : U} {n : Nat} {us : List U} {d : D} {l : List D}
@[simp] theorem bind_ok : (Res.ok a s).bind k = k a s := rfl
@[simp] theorem bind_exn : (Res.exn c u s : Res α).bind k = .exn c u s := rfl
@[simp] theorem toS_ok : (Res.ok a s).toS en kS = kS a s := rfl
@[simp] theorem toS_exn : (Res.exn c u s : Res α).toS en kS = .exn c u en s := rfl
@[simp] theorem then_nx : (RS.nx e s).then g = g e s := rfl
@[simp] theorem then_rt : (RS.rt x s).then g = .rt x s := rfl
@[simp] theorem then_exn : (RS.exn c u e s).then g = .exn c u e s := rfl
@[simp] theorem onB_d {b : Bool} {k : Bool → Sto → Res U} : onB k (.d (.bool b)) s = k b s := rfl
@[simp] theorem only_nx : onlyNx (.nx e s) = .nx e s := rfl
theorem frz_d : frz st n 9 (.d d) = some d := rfl
theorem allO_d (f : U → Option D) (hf : ∀ d, f (.d d) = some d) : ∀ l : List D, allO f (l.map U.d) = some l
  | [] => rfl
  | d :: l => by
    show (match f (.d d), allO f (l.map U.d) with
      | some d, some ds => some (d :: ds)
      | _, _ => none) = _
    rw [hf, allO_d f hf l]
theorem frz_ref (h : st[n]? = some (.lst (l.map U.d))) (m : Nat) (hm : m ≤ n) : frz st m 9 (.ref n) = some (PyData.list l) := by
  show (if m ≤ n then (match st[n]? with
      | some (.lst l) => (match allO (frz st m 8) l with
        | some ds => some (PyData.list ds)
        | none => none)
      | some (.dct l) => (match allP (frz st m 8) l with
        | some ds => some (PyData.dict ds)
        | none => none)
      | none => none) else none) = _
  rw [if_pos hm, h]
  show (match allO (frz st m 8) (l.map U.d) with
        | some ds => some (PyData.list ds)
        | none => none) = _
  rw [allO_d _ (fun _ => rfl)]
/-- a def's end: what it gives back -/
theorem run_rt (hs : Fl st) (h : g (us.map some ++ List.replicate (n - us.length) none) st = .rt (.d d) st) : frzF (runF n g) us st = .ok (.d d) st := by
  unfold frzF runF
  rw [h]
  simp only [hasOwn, hs.own, and_self, if_true, frz_d, List.take_length, hs.lt]
theorem run_ref (hs : Fl st) (h : g (us.map some ++ List.replicate (n - us.length) none) st = .rt (.ref st.length) (st ++ [.lst (l.map U.d)])) : frzF (runF n g) us st = .ok (.d (.list l)) st := by
  unfold frzF runF
  rw [h]
  have e : frz (st ++ [.lst (l.map U.d)]) st.length 9 (.ref st.length) = some (PyData.list l) := frz_ref (by rw [List.getElem?_append_right (Nat.le_refl _)]; simp) _ (Nat.le_refl _)
  simp only [hasOwn, (hs.snoc l).own, and_self, if_true, e, List.take_left, hs.lt]
theorem run_exn (hs : Fl st) (h : g (us.map some ++ List.replicate (n - us.length) none) st = .exn c (some (.d d)) e st) : frzF (runF n g) us st = .exn c (some (.d d)) st := by
  unfold frzF runF
  rw [h]
  simp only [hasOwn, hs.own, and_self, if_true, List.take_length, hs.lt]
theorem run_nx (hs : Fl st) (h : g (us.map some ++ List.replicate (n - us.length) none) st = .nx e st) : frzF (runF n g) us st = .ok (.d .none) st := by
  unfold frzF runF
  rw [h]
  simp only [hs.own, if_true, frz_d, List.take_length, hs.lt]
variable {f f1 f2 : SemE} {t t1 t2 : SemT} {fs : SemA} {F : SemF} {i : Nat} {h h1 h2 : SemS}
@[simp] theorem v0 : mVar 0 (some x :: en) st = .ok x st := rfl
@[simp] theorem vS {o : Option U} : mVar (i + 1) (o :: en) st = mVar i en st := rfl
@[simp] theorem mC_e : mC d en st = .ok (.d d) st := rfl
@[simp] theorem mNil_e : mNil en st = .ok [] st := rfl
@[simp] theorem mCons_e : mCons f fs en st = (f en st).bind fun u st => (fs en st).bind fun us st => .ok (u :: us) st := rfl
@[simp] theorem mSeq_e : mSeq h1 h2 en st = (h1 en st).then h2 := rfl
@[simp] theorem mRet_e : mRet f en st = (f en st).toS en fun u st => .rt u st := rfl
@[simp] theorem mIfS_e : mIfS t h1 h2 en st = (t en st).toS en fun c st => if c = true then h1 en st else h2 en st := rfl
@[simp] theorem mIf_e : mIf t f1 f2 en st = (t en st).bind fun c st => if c = true then f1 en st else f2 en st := rfl
@[simp] theorem mNext_e : mNext en st = .nx en st := rfl
@[simp] theorem mAndV_e : mAndV f1 f2 en st = (f1 en st).bind (onB fun c st => if c = true then f2 en st else .ok (.d (.bool false)) st) := rfl
@[simp] theorem mOrV_e : mOrV f1 f2 en st = (f1 en st).bind (onB fun c st => if c = true then .ok (.d (.bool true)) st else f2 en st) := rfl
@[simp] theorem mNotV_e : mNotV f en st = (f en st).bind (onB fun c st => .ok (.d (.bool (!c))) st) := rfl
@[simp] theorem mAndT_e : mAndT t1 t2 en st = (t1 en st).bind fun c st => if c = true then t2 en st else .ok false st := rfl
@[simp] theorem mOrT_e : mOrT t1 t2 en st = (t1 en st).bind fun c st => if c = true then .ok true st else t2 en st := rfl
@[simp] theorem mNotT_e : mNotT t en st = (t en st).bind fun c st => .ok (!c) st := rfl
@[simp] theorem mTst_e : mTst f en st = (f en st).bind fun u st => match u with
  | .d (.bool b) => .ok b st
  | _ => .bad := rfl
@[simp] theorem mTru_e : mTru f en st = (f en st).bind fun u st => match truU u with
  | some b => .ok b st
  | none => .bad := rfl
@[simp] theorem mIs_e {T : String} : mIs T f en st = (f en st).bind fun u st => match u with
  | .d x => if noDct x = true then .ok (.d (.bool (isT T x))) st else .bad
  | _ => .bad := rfl
@[simp] theorem mOp_e {g : U → U → Sto → Res U} : mOp g f1 f2 en st = (f1 en st).bind fun u st => (f2 en st).bind fun w st => g u w st := rfl
@[simp] theorem mCall_e : mCall F fs en st = (fs en st).bind fun us st => if hasOwnL us = false ∧ stOwn st = false then F us st else .bad := rfl
@[simp] theorem mCB_e {g : List U → Sto → Res U} : mCB g fs en st = (fs en st).bind g := rfl
@[simp] theorem mAsgT_e {g : SemG} : mAsgT f g en st = (f en st).toS en fun u st => onlyNx (g u en st) := rfl
@[simp] theorem mG_e : mG i x en st = .nx (en.set i (some x)) st := rfl
@[simp] theorem mExpr_e : mExpr f en st = (f en st).toS en fun _ st => .nx en st := rfl
@[simp] theorem own_nil : hasOwnL [] = false := rfl
@[simp] theorem own_cons {l : List U} : hasOwnL (x :: l) = (hasOwn x || hasOwnL l) := rfl
@[simp] theorem own_d : hasOwn (.d d) = false := rfl
@[simp] theorem own_ref : hasOwn (.ref n) = false := rfl
@[simp] theorem own_fn {z : Str} : hasOwn (.fn z) = false := rfl
@[simp] theorem own_map {l : List D} : hasOwnL (l.map U.d) = false := hasOwnL_map l
@[simp] theorem clo_nil : hasCloL [] = false := rfl
@[simp] theorem clo_cons {l : List U} : hasCloL (x :: l) = (hasClo x || hasCloL l) := rfl
@[simp] theorem clo_d : hasClo (.d d) = false := rfl
@[simp] theorem clo_ref : hasClo (.ref n) = false := rfl
@[simp] theorem clo_map {l : List D} : hasCloL (l.map U.d) = false := hasCloL_map l
@[simp] theorem fl_own (h : Fl st) : stOwn st = false := h.own
@[simp] theorem fl_clo (h : Fl st) : stClo st = false := h.clo
@[simp] theorem enOwn_nil : enOwn [] = false := rfl
@[simp] theorem enOwn_none : enOwn (none :: en) = enOwn en := rfl
@[simp] theorem enOwn_d : enOwn (some (.d d) :: en) = enOwn en := rfl
@[simp] theorem enOwn_ref : enOwn (some (.ref n) :: en) = enOwn en := rfl
@[simp] theorem allD_nil : allD [] = some [] := rfl
@[simp] theorem allD_cons {l : List U} : allD (.d d :: l) = (match allD l with
    | some l => some (d :: l)
    | none => none) := rfl
@[simp] theorem allD_mapd (l : List D) : allD (l.map U.d) = some l := by
  induction l with
  | nil => rfl
  | cons a l ih => rw [List.map_cons, allD_cons, ih]
@[simp] theorem mkTup_e {l : List U} {ds : List D} (h : allD l = some ds) : mkTup l = .d (.tuple ds) := by unfold mkTup; rw [h]
@[simp] theorem mTup_e : mTup fs en st = (fs en st).bind fun us st => if us.length ≤ sizeLine then .ok (mkTup us) st else .bad := rfl
@[simp] theorem mLst_e : mLst fs en st = (fs en st).bind fun us st => if us.length ≤ sizeLine then (match allD us with
  | some l => .ok (.d (.list l)) st
  | none => .bad) else .bad := rfl
@[simp] theorem mRef_e : mRef fs en st = (fs en st).bind fun us st => if us.length ≤ sizeLine then .ok (.ref st.length) (st ++ [.lst us]) else .bad := rfl
@[simp] theorem le_size {n : Nat} (h : n ≤ 1000000) : n ≤ sizeLine := by rw [sizeLine_eq]; omega
@[simp] theorem lt_size {n : Nat} (h : n < 1000000) : n < sizeLine := by rw [sizeLine_eq]; omega
@[simp] theorem gD2_e {g : D → D → Option D} {a b : D} : gD2 g (.d a) (.d b) st = (match g a b with
    | some r => .ok (.d r) st
    | none => .bad) := rfl
@[simp] theorem gV_e {g : D → D → Option D} {a b : D} : gV g (.d a) (.d b) st = (match g a b with
    | some r => .ok (.d r) st
    | none => .bad) := rfl
@[simp] theorem gIsN_none {neg : Bool} : gIsN neg (.d .none) (.d .none) st = .ok (.d (.bool (!neg))) st := by cases neg <;> rfl
@[simp] theorem gIsN_int {neg : Bool} {z : Int} : gIsN neg (.d (.int z)) (.d .none) st = .ok (.d (.bool neg)) st := by cases neg <;> rfl
theorem gIsN_e {neg : Bool} {u : U} : gIsN neg u (.d .none) st = .ok (.d (.bool (if neg then !isN u else isN u))) st := rfl
@[simp] theorem add_int {a b : Int} : addD (.int a) (.int b) = some (.int (a + b)) := rfl
@[simp] theorem sub_int {a b : Int} : subD (.int a) (.int b) = some (.int (a - b)) := rfl
@[simp] theorem lt_int {a b : Int} : ltD (.int a) (.int b) = some (.bool (decide (a < b))) := rfl
@[simp] theorem le_int {a b : Int} : leD (.int a) (.int b) = some (.bool (decide (a ≤ b))) := rfl
@[simp] theorem gt_int {a b : Int} : gtD (.int a) (.int b) = some (.bool (decide (b < a))) := rfl
@[simp] theorem ge_int {a b : Int} : geD (.int a) (.int b) = some (.bool (decide (b ≤ a))) := rfl
@[simp] theorem gLen_tup {l : List D} : gLen [.d (.tuple l)] st = .ok (.d (.int l.length)) st := by
  show (match seqOf st (.d (.tuple l)) with | some l => Res.ok (U.d (.int l.length)) st | none => .bad) = _
  simp [seqOf]
@[simp] theorem gLen_lst {l : List D} : gLen [.d (.list l)] st = .ok (.d (.int l.length)) st := by
  show (match seqOf st (.d (.list l)) with | some l => Res.ok (U.d (.int l.length)) st | none => .bad) = _
  simp [seqOf]
theorem gIx_nat {l : List D} {j : Nat} {r : D} (h : l[j]? = some r) : gIx (.d (.tuple l)) (.d (.int (j : Int))) st = .ok (.d r) st := by
  show (match (match seqOf st (.d (.tuple l)) with
      | some l => (match L2.atI l (j : Int) with
        | some x => Res.ok x st
        | none => .bad)
      | none => .bad) with | r => r) = _
  rw [show seqOf st (.d (.tuple l)) = some (l.map U.d) from rfl]
  dsimp only
  rw [L2.atI_nat (v := U.d r) (by rw [List.getElem?_map, h]; rfl)]
theorem gIxL_nat {l : List D} {j : Nat} {r : D} (h : l[j]? = some r) : gIx (.d (.list l)) (.d (.int (j : Int))) st = .ok (.d r) st := by
  show (match (match seqOf st (.d (.list l)) with
      | some l => (match L2.atI l (j : Int) with
        | some x => Res.ok x st
        | none => .bad)
      | none => .bad) with | r => r) = _
  rw [show seqOf st (.d (.list l)) = some (l.map U.d) from rfl]
  dsimp only
  rw [L2.atI_nat (v := U.d r) (by rw [List.getElem?_map, h]; rfl)]
theorem gIx_last {l : List D} {r : D} : gIx (.d (.tuple (l ++ [r]))) (.d (.int (-1))) st = .ok (.d r) st := by
  show (match (match seqOf st (.d (.tuple (l ++ [r]))) with
      | some l => (match L2.atI l (-1) with
        | some x => Res.ok x st
        | none => .bad)
      | none => .bad) with | r => r) = _
  rw [show seqOf st (.d (.tuple (l ++ [r]))) = some (l.map U.d ++ [.d r]) from by show some ((l ++ [r]).map U.d) = _; rw [List.map_append]; rfl]
  dsimp only
  rw [L2.atI_last]
@[simp] theorem ix0 {a0 : D} : gIx (.d (.tuple (a0 :: l))) (.d (.int 0)) st = .ok (.d a0) st := gIx_nat (j := 0) rfl
@[simp] theorem ixL0 {a0 : D} : gIx (.d (.list (a0 :: l))) (.d (.int 0)) st = .ok (.d a0) st := gIxL_nat (j := 0) rfl
@[simp] theorem ix1 {a0 a1 : D} : gIx (.d (.tuple (a0 :: a1 :: l))) (.d (.int 1)) st = .ok (.d a1) st := gIx_nat (j := 1) rfl
@[simp] theorem ixL1 {a0 a1 : D} : gIx (.d (.list (a0 :: a1 :: l))) (.d (.int 1)) st = .ok (.d a1) st := gIxL_nat (j := 1) rfl
@[simp] theorem ix2 {a0 a1 a2 : D} : gIx (.d (.tuple (a0 :: a1 :: a2 :: l))) (.d (.int 2)) st = .ok (.d a2) st := gIx_nat (j := 2) rfl
@[simp] theorem ixL2 {a0 a1 a2 : D} : gIx (.d (.list (a0 :: a1 :: a2 :: l))) (.d (.int 2)) st = .ok (.d a2) st := gIxL_nat (j := 2) rfl
@[simp] theorem ix3 {a0 a1 a2 a3 : D} : gIx (.d (.tuple (a0 :: a1 :: a2 :: a3 :: l))) (.d (.int 3)) st = .ok (.d a3) st := gIx_nat (j := 3) rfl
@[simp] theorem ixL3 {a0 a1 a2 a3 : D} : gIx (.d (.list (a0 :: a1 :: a2 :: a3 :: l))) (.d (.int 3)) st = .ok (.d a3) st := gIxL_nat (j := 3) rfl
@[simp] theorem ix4 {a0 a1 a2 a3 a4 : D} : gIx (.d (.tuple (a0 :: a1 :: a2 :: a3 :: a4 :: l))) (.d (.int 4)) st = .ok (.d a4) st := gIx_nat (j := 4) rfl
@[simp] theorem ixL4 {a0 a1 a2 a3 a4 : D} : gIx (.d (.list (a0 :: a1 :: a2 :: a3 :: a4 :: l))) (.d (.int 4)) st = .ok (.d a4) st := gIxL_nat (j := 4) rfl
@[simp] theorem ix5 {a0 a1 a2 a3 a4 a5 : D} : gIx (.d (.tuple (a0 :: a1 :: a2 :: a3 :: a4 :: a5 :: l))) (.d (.int 5)) st = .ok (.d a5) st := gIx_nat (j := 5) rfl
@[simp] theorem ixL5 {a0 a1 a2 a3 a4 a5 : D} : gIx (.d (.list (a0 :: a1 :: a2 :: a3 :: a4 :: a5 :: l))) (.d (.int 5)) st = .ok (.d a5) st := gIxL_nat (j := 5) rfl
@[simp] theorem ix6 {a0 a1 a2 a3 a4 a5 a6 : D} : gIx (.d (.tuple (a0 :: a1 :: a2 :: a3 :: a4 :: a5 :: a6 :: l))) (.d (.int 6)) st = .ok (.d a6) st := gIx_nat (j := 6) rfl
@[simp] theorem ixL6 {a0 a1 a2 a3 a4 a5 a6 : D} : gIx (.d (.list (a0 :: a1 :: a2 :: a3 :: a4 :: a5 :: a6 :: l))) (.d (.int 6)) st = .ok (.d a6) st := gIxL_nat (j := 6) rfl
@[simp] theorem ix7 {a0 a1 a2 a3 a4 a5 a6 a7 : D} : gIx (.d (.tuple (a0 :: a1 :: a2 :: a3 :: a4 :: a5 :: a6 :: a7 :: l))) (.d (.int 7)) st = .ok (.d a7) st := gIx_nat (j := 7) rfl
@[simp] theorem ixL7 {a0 a1 a2 a3 a4 a5 a6 a7 : D} : gIx (.d (.list (a0 :: a1 :: a2 :: a3 :: a4 :: a5 :: a6 :: a7 :: l))) (.d (.int 7)) st = .ok (.d a7) st := gIxL_nat (j := 7) rfl
end
end TT
set_option Elab.async false
set_option linter.all false
set_option maxRecDepth 100000
set_option maxHeartbeats 1000000
/-! loops and comprehensions, plainly -/
namespace TT
open PySem
section
variable {s st : Sto} {en e : Nv} {n : Nat} {l : List D} {d : D} {f f1 f2 : SemE} {g : SemG} {t : SemT} {fe : SemE} {fi : SemI} {chk : Sto → Bool} {bd : SemS} {vs : List Nat}
@[simp] theorem mSeqR_e : mSeqR f en st = (f en st).bind fun u st => match iterR st u with
  | some p => .ok p st
  | none => .bad := rfl
@[simp] theorem iterR_tup : iterR st (.d (.tuple l)) = some (l.map U.d, yes) := rfl
@[simp] theorem iterR_lst : iterR st (.d (.list l)) = some (l.map U.d, yes) := rfl
theorem iterR_ref (h : st[n]? = some (.lst (l.map U.d))) : iterR st (.ref n) = some (l.map U.d, sameAt n (l.map U.d)) := by
  unfold iterR
  dsimp only
  rw [h]
  simp
/-- the numbers from lo to hi - 1 -/
def intR (lo hi : Int) : List Int := (List.range (hi - lo).toNat).map fun i => lo + (i : Nat)
theorem mem_intR {lo hi i : Int} : i ∈ intR lo hi ↔ lo ≤ i ∧ i < hi := by
  unfold intR
  rw [List.mem_map]
  constructor
  · rintro ⟨k, hk, rfl⟩
    rw [List.mem_range] at hk
    omega
  · rintro ⟨h1, h2⟩
    exact ⟨(i - lo).toNat, by rw [List.mem_range]; omega, by omega⟩
theorem intR_length (lo hi : Int) : (intR lo hi).length = (hi - lo).toNat := by unfold intR; simp
theorem rgU_e (lo hi : Int) : rgU lo hi = ((intR lo hi).map PyData.int).map U.d := by
  unfold rgU intR
  rw [List.map_map, List.map_map]
  rfl
theorem rgD_e (lo hi : Int) : rgD lo hi = (intR lo hi).map PyData.int := by
  unfold rgD intR
  rw [List.map_map]
  rfl
theorem rgOk_e {lo hi : Int} (h : -1000000 ≤ lo ∧ lo ≤ 1000000 ∧ -1000000 ≤ hi ∧ hi ≤ 1000000) : rgOk lo hi := by unfold rgOk; omega
@[simp] theorem mRg1_e : mRg1 f en st = (f en st).bind fun u st => match u with
  | .d (.int j) => if rgOk 0 j then .ok (rgU 0 j, yes) st else .bad
  | _ => .bad := rfl
@[simp] theorem mRg2_e : mRg2 f f1 en st = (f en st).bind fun u st => (f1 en st).bind fun w st => match u, w with
  | .d (.int i), .d (.int j) => if rgOk i j then .ok (rgU i j, yes) st else .bad
  | _, _ => .bad := rfl
@[simp] theorem mR1_e : mR1 f en st = (f en st).bind fun u st => match u with
  | .d (.int z) => Res.ok ((0 : Int), z) st
  | _ => .bad := rfl
@[simp] theorem mLstRg_e {f : SemR} : mLstRg f en st = (f en st).bind fun u st => if rgOk u.1 u.2 then .ok (.d (.list (rgD u.1 u.2))) st else .bad := rfl
@[simp] theorem mZip_e : mZip f f1 en st = (f en st).bind fun u st => (f1 en st).bind fun w st => match stayOf u, stayOf w with
  | some l, some m => if kindOf u = kindOf w then .ok (zipL l m, yes) st else .bad
  | _, _ => .bad := rfl
@[simp] theorem stayt : stayOf (.d (.tuple l)) = some (l.map U.d) := rfl
@[simp] theorem stayl : stayOf (.d (.list l)) = some (l.map U.d) := rfl
@[simp] theorem kind_tup : kindOf (.d (.tuple l)) = 2 := rfl
@[simp] theorem kind_lst : kindOf (.d (.list l)) = 1 := rfl
def zipD (l m : List D) : List D := List.zipWith (fun a b => .tuple [a, b]) l m
@[simp] theorem zipL_d (m : List D) : zipL (l.map U.d) (m.map U.d) = (zipD l m).map U.d := by
  unfold zipL zipD
  rw [List.zipWith_map, List.map_zipWith]
  rfl
def enumD (l : List D) (i : Nat) : List D := (l.zipIdx i).map fun p => .tuple [.int p.2, p.1]
@[simp] theorem enumL_d : enumL (l.map U.d) = (enumD l 0).map U.d := by
  unfold enumL enumD
  rw [List.zipIdx_map, List.map_map, List.map_map]
  rfl
@[simp] theorem mEnum_e : mEnum f en st = (f en st).bind fun u st => match stayOf u with
  | some l => .ok (enumL l, yes) st
  | none => .bad := rfl
/-! comprehensions -/
theorem lcL_d (b : D → Bool) (v : D → D) (hk : chk st = true) : ∀ (l acc : List D), (∀ d ∈ l, ∃ en1, g (.d d) en st = .nx en1 st ∧ t en1 st = .ok (b d) st ∧ (b d = true → fe en1 st = .ok (.d (v d)) st)) →
    lcL g t fe chk en (l.map U.d) (acc.map U.d) st = .ok ((acc ++ (l.filter b).map v).map U.d) st
  | [], acc, _ => by
    show (if chk st = true then Res.ok (acc.map U.d) st else .bad) = _
    rw [if_pos hk]; simp
  | d :: l, acc, h => by
    obtain ⟨en1, h1, h2, h3⟩ := h d (List.mem_cons_self ..)
    have ih := fun acc => lcL_d b v hk l acc fun d hd => h d (List.mem_cons_of_mem _ hd)
    show (if chk st = true then (match g (.d d) en st with
    | .nx en1 st1 => (match t en1 st1 with
      | .ok b st2 => if b = true then (match fe en1 st2 with
          | .ok y st3 => lcL g t fe chk en (l.map U.d) (acc.map U.d ++ [y]) st3
          | _ => .bad)
        else lcL g t fe chk en (l.map U.d) (acc.map U.d) st2
      | _ => .bad)
    | _ => .bad) else .bad) = _
    rw [if_pos hk, h1]
    dsimp only
    rw [h2]
    dsimp only
    by_cases hb : b d = true
    · rw [if_pos hb, h3 hb]
      dsimp only
      have e : acc.map U.d ++ [U.d (v d)] = (acc ++ [v d]).map U.d := by simp
      rw [e, ih, List.filter_cons_of_pos hb]
      simp
    · rw [if_neg hb, ih, List.filter_cons_of_neg hb]
theorem lcLz_d (b : D → Bool) (v : D → D) (hk : chk st = true) : ∀ (l acc : List D), acc.length + l.length < 1000000 → (∀ d ∈ l, ∃ en1, g (.d d) en st = .nx en1 st ∧ t en1 st = .ok (b d) st ∧ (b d = true → fe en1 st = .ok (.d (v d)) st)) →
    lcLz g t fe chk en (l.map U.d) (acc.map U.d) st = .ok ((acc ++ (l.filter b).map v).map U.d) st
  | [], acc, _, _ => by
    show (if chk st = true then Res.ok (acc.map U.d) st else .bad) = _
    rw [if_pos hk]; simp
  | d :: l, acc, hz, h => by
    obtain ⟨en1, h1, h2, h3⟩ := h d (List.mem_cons_self ..)
    rw [List.length_cons] at hz
    show (if chk st = true then (match g (.d d) en st with
    | .nx en1 st1 => (match t en1 st1 with
      | .ok b st2 => if b = true then (match fe en1 st2 with
          | .ok y st3 => if (acc.map U.d).length < sizeLine then lcLz g t fe chk en (l.map U.d) (acc.map U.d ++ [y]) st3 else .bad
          | _ => .bad)
        else lcLz g t fe chk en (l.map U.d) (acc.map U.d) st2
      | _ => .bad)
    | _ => .bad) else .bad) = _
    rw [if_pos hk, h1]
    dsimp only
    rw [h2]
    dsimp only
    by_cases hb : b d = true
    · rw [if_pos hb, h3 hb]
      dsimp only
      have e : acc.map U.d ++ [U.d (v d)] = (acc ++ [v d]).map U.d := by simp
      rw [if_pos (lt_size (by rw [List.length_map]; omega)), e, lcLz_d b v hk l _ (by rw [List.length_append]; simp; omega) fun d hd => h d (List.mem_cons_of_mem _ hd), List.filter_cons_of_pos hb]
      simp
    · rw [if_neg hb, lcLz_d b v hk l _ (by omega) fun d hd => h d (List.mem_cons_of_mem _ hd), List.filter_cons_of_neg hb]
theorem mLc_d (hs : Fl st) (b : D → Bool) (v : D → D) (hi : fi en st = .ok (l.map U.d, chk) st) (hk : chk st = true) (ho : enOwn en = false) (h : ∀ d ∈ l, ∃ en1, g (.d d) (wipeN en vs) st = .nx en1 st ∧ t en1 st = .ok (b d) st ∧ (b d = true → fe en1 st = .ok (.d (v d)) st)) :
    mLc fi vs g t fe en st = .ok (.d (.list ((l.filter b).map v))) st := by
  unfold mLc
  rw [hi, bind_ok, if_pos ⟨ho, hs.own⟩]
  have e := lcL_d (fe := fe) (t := t) (g := g) (en := wipeN en vs) b v hk l [] h
  rw [List.map_nil] at e
  dsimp only
  rw [e, bind_ok, allD_mapd]
  rfl
theorem mLc_m (hs : Fl st) (v : D → D) (hi : fi en st = .ok (l.map U.d, chk) st) (hk : chk st = true) (ho : enOwn en = false) (h : ∀ d ∈ l, ∃ en1, g (.d d) (wipeN en vs) st = .nx en1 st ∧ fe en1 st = .ok (.d (v d)) st) :
    mLc fi vs g (fun _ st => .ok true st) fe en st = .ok (.d (.list (l.map v))) st := by
  have e := mLc_d (g := g) (t := fun _ st => .ok true st) (fe := fe) (vs := vs) hs (fun _ => true) v hi hk ho fun d hd => by
    obtain ⟨en1, h1, h2⟩ := h d hd
    exact ⟨en1, h1, rfl, fun _ => h2⟩
  rw [e, List.filter_eq_self.mpr fun _ _ => rfl]
variable {fi1 : SemI} {g1 : SemG} {t1 : SemT} {vs1 : List Nat}
/-- two clauses, the second one's items and its test by the first one's item -/
theorem lcL2_d (b : D → Bool) (m : D → List D) (b1 : D → D → Bool) (v : D → D → D) (hk : chk st = true) (N : Nat) : ∀ (l acc : List D), acc.length + l.length * N < 1000000 → (∀ d ∈ l, (m d).length ≤ N ∧ ∃ en1, g (.d d) en st = .nx en1 st ∧ t en1 st = .ok (b d) st ∧ (b d = true → ∃ chk1, chk1 st = true ∧ fi1 en1 st = .ok ((m d).map U.d, chk1) st ∧
      ∀ c ∈ m d, ∃ en2, g1 (.d c) (wipeN en1 vs1) st = .nx en2 st ∧ t1 en2 st = .ok (b1 d c) st ∧ (b1 d c = true → fe en2 st = .ok (.d (v d c)) st))) →
    lcL2 g t fi1 vs1 g1 t1 fe chk en (l.map U.d) (acc.map U.d) st = .ok ((acc ++ (l.filter b).flatMap fun d => ((m d).filter (b1 d)).map (v d)).map U.d) st
  | [], acc, _, _ => by
    show (if chk st = true then Res.ok (acc.map U.d) st else .bad) = _
    rw [if_pos hk]; simp
  | d :: l, acc, hz, h => by
    obtain ⟨hN, en1, h1, h2, h3⟩ := h d (List.mem_cons_self ..)
    rw [List.length_cons, Nat.succ_mul] at hz
    show (if chk st = true then (match g (.d d) en st with
    | .nx en1 st1 => (match t en1 st1 with
      | .ok b st2 => if b = true then (match fi1 en1 st2 with
          | .ok it st3 => (match lcLz g1 t1 fe it.2 (wipeN en1 vs1) it.1 (acc.map U.d) st3 with
            | .ok acc' st4 => lcL2 g t fi1 vs1 g1 t1 fe chk en (l.map U.d) acc' st4
            | _ => .bad)
          | _ => .bad)
        else lcL2 g t fi1 vs1 g1 t1 fe chk en (l.map U.d) (acc.map U.d) st2
      | _ => .bad)
    | _ => .bad) else .bad) = _
    rw [if_pos hk, h1]
    dsimp only
    rw [h2]
    dsimp only
    by_cases hb : b d = true
    · obtain ⟨chk1, k1, k2, k3⟩ := h3 hb
      rw [if_pos hb, k2]
      dsimp only
      rw [lcLz_d (b1 d) (v d) k1 (m d) acc (by omega) k3]
      dsimp only
      have hl : (((m d).filter (b1 d)).map (v d)).length ≤ N := by
        rw [List.length_map]
        exact Nat.le_trans (List.length_filter_le _ _) hN
      rw [lcL2_d b m b1 v hk N l _ (by rw [List.length_append]; omega) fun d hd => h d (List.mem_cons_of_mem _ hd), List.filter_cons_of_pos hb]
      simp
    · rw [if_neg hb, lcL2_d b m b1 v hk N l _ (by omega) fun d hd => h d (List.mem_cons_of_mem _ hd), List.filter_cons_of_neg hb]
theorem mLc2_d (hs : Fl st) (b : D → Bool) (m : D → List D) (b1 : D → D → Bool) (v : D → D → D) (N : Nat) (hN : l.length * N < 1000000) (hi : fi en st = .ok (l.map U.d, chk) st) (hk : chk st = true) (ho : enOwn en = false)
    (h : ∀ d ∈ l, (m d).length ≤ N ∧ ∃ en1, g (.d d) (wipeN en vs) st = .nx en1 st ∧ t en1 st = .ok (b d) st ∧ (b d = true → ∃ chk1, chk1 st = true ∧ fi1 en1 st = .ok ((m d).map U.d, chk1) st ∧
      ∀ c ∈ m d, ∃ en2, g1 (.d c) (wipeN en1 vs1) st = .nx en2 st ∧ t1 en2 st = .ok (b1 d c) st ∧ (b1 d c = true → fe en2 st = .ok (.d (v d c)) st))) :
    mLc2 fi vs g t fi1 vs1 g1 t1 fe en st = .ok (.d (.list ((l.filter b).flatMap fun d => ((m d).filter (b1 d)).map (v d)))) st := by
  unfold mLc2
  rw [hi, bind_ok, if_pos ⟨ho, hs.own⟩]
  have e := lcL2_d (fe := fe) (t := t) (g := g) (en := wipeN en vs) b m b1 v hk N l [] (by simpa using hN) h
  rw [List.map_nil] at e
  dsimp only
  rw [e, bind_ok, allD_mapd]
  rfl
/-! for -/
def turn (g : SemG) (bd : SemS) (u : U) : SemS := fun en st => (onlyNx (g u en st)).then bd
theorem forL_cons {u : U} {r : List U} (hk : chk st = true) : forL g bd chk (u :: r) en st = (match turn g bd u en st with
    | .nx en st => forL g bd chk r en st
    | .ct en st => forL g bd chk r en st
    | .bk en st => .nx en st
    | z => z) := by
  rw [forL, if_pos hk]
  unfold turn
  cases g u en st <;> rfl
theorem forL_nil (hk : chk st = true) : forL g bd chk [] en st = .nx en st := by rw [forL, if_pos hk]
/-- a loop that turns what is given by b into what is given by f b -/
theorem for_fold {β : Type} (E : β → Nv) (S : β → Sto) (P : β → Prop) (f : β → D → β) (hk : ∀ b, P b → chk (S b) = true) : ∀ (l : List D) (b : β), P b → (∀ d ∈ l, ∀ b, P b → turn g bd (.d d) (E b) (S b) = .nx (E (f b d)) (S (f b d)) ∧ P (f b d)) →
    forL g bd chk (l.map U.d) (E b) (S b) = .nx (E (l.foldl f b)) (S (l.foldl f b)) ∧ P (l.foldl f b)
  | [], b, hP, _ => ⟨forL_nil (hk b hP), hP⟩
  | d :: l, b, hP, h => by
    obtain ⟨h1, h2⟩ := h d (List.mem_cons_self ..) b hP
    rw [List.map_cons, forL_cons (hk b hP), h1]
    exact for_fold E S P f hk l (f b d) h2 fun d hd => h d (List.mem_cons_of_mem _ hd)
/-- a loop that ends the def at the first item of a kind -/
theorem for_find (p : D → Bool) (r : D → U) (hk : chk st = true) : ∀ (l : List D), (∀ d ∈ l, turn g bd (.d d) en st = if p d = true then .rt (r d) st else .nx en st) →
    forL g bd chk (l.map U.d) en st = match l.find? p with
      | some d => .rt (r d) st
      | none => .nx en st
  | [], _ => forL_nil hk
  | d :: l, h => by
    rw [List.map_cons, forL_cons hk, h d (List.mem_cons_self ..), List.find?_cons]
    cases p d
    · rw [if_neg (by decide)]
      exact for_find p r hk l fun d hd => h d (List.mem_cons_of_mem _ hd)
    · rfl
/-- a loop by what stands between its turns -/
theorem for_inv (I : Nat → Nv → Sto → Prop) : ∀ (items : List U) (i : Nat) (en : Nv) (st : Sto), (∀ k en st, I k en st → chk st = true) → (∀ k u en st, items[k]? = some u → I (i + k) en st → ∃ en' st', turn g bd u en st = .nx en' st' ∧ I (i + k + 1) en' st') → I i en st →
    ∃ en' st', forL g bd chk items en st = .nx en' st' ∧ I (i + items.length) en' st'
  | [], i, en, st, hk, _, h => ⟨en, st, forL_nil (hk i en st h), h⟩
  | u :: r, i, en, st, hk, hs, h => by
    obtain ⟨en1, st1, e1, h1⟩ := hs 0 u en st rfl h
    obtain ⟨en2, st2, e2, h2⟩ := for_inv I r (i + 1) en1 st1 hk (fun k u en st hu hI => by
      have := hs (k + 1) u en st (by simpa using hu) (by rw [← Nat.add_assoc, Nat.add_right_comm]; exact hI)
      rw [show i + 1 + k + 1 = i + (k + 1) + 1 from by omega]
      exact this) h1
    exact ⟨en2, st2, by rw [forL_cons (hk i en st h), e1]; exact e2, by rw [List.length_cons, show i + (r.length + 1) = i + 1 + r.length from by omega]; exact h2⟩
@[simp] theorem mFor_e : mFor fi g bd en st = (fi en st).toS en fun it st => forL g bd it.2 it.1 en st := rfl
@[simp] theorem yes_e : yes st = true := rfl
@[simp] theorem turn_e {u : U} : turn g bd u en st = (onlyNx (g u en st)).then bd := rfl
@[simp] theorem mWipe_e : mWipe vs bd en st = wipeR vs (bd en st) := rfl
@[simp] theorem wipeR_nx : wipeR vs (.nx en st) = .nx (wipeN en vs) st := rfl
@[simp] theorem wipeR_rt {u : U} : wipeR vs (.rt u st) = .rt u st := rfl
@[simp] theorem wipeR_exn {c : Str} {u : Option U} : wipeR vs (.exn c u en st) = .exn c u (wipeN en vs) st := rfl
@[simp] theorem wipeN_nil : wipeN en [] = en := rfl
@[simp] theorem wipeN_cons {v : Nat} : wipeN en (v :: vs) = (wipeN en vs).set v none := rfl
@[simp] theorem mGC_e {i : Nat} {u : U} : mGC i u en st = if enOwn en = false ∧ stOwn st = false ∧ hasOwn u = false then .nx (en.set i (some u)) st else .bad := rfl
end
end TT
set_option Elab.async false
set_option linter.all false
set_option maxRecDepth 100000
set_option maxHeartbeats 1000000
/-! plain words about values -/
namespace TT
open PySem
def intT (l : List Int) : D := .tuple (l.map .int)
def isWh : D → Bool
  | .int _ => true
  | _ => false
/-- a number from lo to hi -/
def inR (lo hi : Int) : D → Bool
  | .int i => decide (lo ≤ i) && decide (i ≤ hi)
  | _ => false
/-- plain data: no dict within, not deep -/
structure Pl (k : Nat) (d : D) : Prop where
  lay : d.canLay0 = true
  dp : d.depth ≤ k
theorem Pl.mono {k k' : Nat} {d : D} (h : Pl k d) (hk : k ≤ k') : Pl k' d := ⟨h.lay, Nat.le_trans h.dp hk⟩
theorem Pl.noDct {k : Nat} {d : D} (h : Pl k d) : noDct d = true := by
  cases d with
  | dict l => have := h.lay; simp [PyData.canLay0] at this
  | _ => rfl
theorem Pl.shp {k : Nat} {d : D} (h : Pl k d) (hk : k ≤ 64) : shp d = true := by
  show (d.canLay0 && decide (d.depth ≤ 64)) = true
  rw [h.lay, Bool.true_and, decide_eq_true_eq]
  exact Nat.le_trans h.dp hk
theorem Pl.int (k : Nat) (i : Int) : Pl k (.int i) := ⟨rfl, Nat.zero_le _⟩
theorem Pl.bool (k : Nat) (i : Bool) : Pl k (.bool i) := ⟨rfl, Nat.zero_le _⟩
theorem Pl.none (k : Nat) : Pl k .none := ⟨rfl, Nat.zero_le _⟩
theorem layAll_iff : ∀ {l : List D}, PyData.canLayAll0 l = true ↔ ∀ d ∈ l, d.canLay0 = true
  | [] => by simp [PyData.canLayAll0]
  | x :: r => by simp [PyData.canLayAll0, layAll_iff (l := r)]
theorem depthAll_le : ∀ {l : List D} {k : Nat}, PyData.depthAll l ≤ k ↔ ∀ d ∈ l, d.depth ≤ k
  | [], k => by simp [PyData.depthAll]
  | x :: r, k => by
    have := depthAll_le (l := r) (k := k)
    simp only [PyData.depthAll, List.mem_cons, forall_eq_or_imp]
    rw [← this]
    omega
theorem Pl.tup {k : Nat} {l : List D} (h : ∀ d ∈ l, Pl k d) : Pl (k + 1) (.tuple l) := by
  refine ⟨?_, ?_⟩
  · rw [PyData.canLay0]; exact layAll_iff.mpr fun d hd => (h d hd).lay
  · rw [PyData.depth]; have := (depthAll_le (l := l) (k := k)).mpr fun d hd => (h d hd).dp; omega
theorem Pl.lst {k : Nat} {l : List D} (h : ∀ d ∈ l, Pl k d) : Pl (k + 1) (.list l) := by
  refine ⟨?_, ?_⟩
  · rw [PyData.canLay0]; exact layAll_iff.mpr fun d hd => (h d hd).lay
  · rw [PyData.depth]; have := (depthAll_le (l := l) (k := k)).mpr fun d hd => (h d hd).dp; omega
theorem Pl.tup_mem {k : Nat} {l : List D} (h : Pl (k + 1) (.tuple l)) : ∀ d ∈ l, Pl k d := fun d hd => by
  have h1 := h.lay
  have h2 := h.dp
  rw [PyData.canLay0] at h1
  rw [PyData.depth] at h2
  exact ⟨layAll_iff.mp h1 d hd, (depthAll_le (l := l) (k := k)).mp (by omega) d hd⟩
theorem Pl.intT (k : Nat) (l : List Int) : Pl (k + 1) (intT l) := Pl.tup fun d hd => by
  obtain ⟨i, _, rfl⟩ := List.mem_map.mp hd
  exact Pl.int k i
theorem eqD_pl {k k' : Nat} {a b : D} (h : Pl k a) (h' : Pl k' b) (hk : k ≤ 64) (hk' : k' ≤ 64) : eqD a b = some (.bool (PyData.eqv a b)) := by
  unfold eqD; rw [if_pos ⟨h.shp hk, h'.shp hk'⟩]
theorem neD_pl {k k' : Nat} {a b : D} (h : Pl k a) (h' : Pl k' b) (hk : k ≤ 64) (hk' : k' ≤ 64) : neD a b = some (.bool (!PyData.eqv a b)) := by
  unfold neD; rw [if_pos ⟨h.shp hk, h'.shp hk'⟩]
@[simp] theorem eqv_ll_nil (l : List D) : PyData.eqv (.list l) (.list []) = l.isEmpty := by cases l <;> simp [PyData.eqv, PyData.eqvAll]
@[simp] theorem eqv_tt_nil (l : List D) : PyData.eqv (.tuple l) (.tuple []) = l.isEmpty := by cases l <;> simp [PyData.eqv, PyData.eqvAll]
@[simp] theorem eqv_int (a b : Int) : PyData.eqv (.int a) (.int b) = decide (a = b) := by
  rw [PyData.eqv]; by_cases h : a = b <;> simp [h]
theorem eqvAll_ints : ∀ a b : List Int, PyData.eqvAll (a.map .int) (b.map .int) = decide (a = b)
  | [], [] => by simp [PyData.eqvAll]
  | [], _ :: _ => by simp [PyData.eqvAll]
  | _ :: _, [] => by simp [PyData.eqvAll]
  | x :: a, y :: b => by
    simp only [List.map_cons, PyData.eqvAll, eqv_int, eqvAll_ints a b]
    by_cases h : x = y <;> by_cases h2 : a = b <;> simp [h, h2]
@[simp] theorem eqv_ints (a b : List Int) : PyData.eqv (intT a) (intT b) = decide (a = b) := by
  unfold intT; rw [PyData.eqv, eqvAll_ints]
theorem eqInt (a b : Int) : eqD (.int a) (.int b) = some (.bool (decide (a = b))) := by rw [eqD_pl (Pl.int 0 a) (Pl.int 0 b) (by decide) (by decide), eqv_int]
theorem neInt (a b : Int) : neD (.int a) (.int b) = some (.bool (!decide (a = b))) := by rw [neD_pl (Pl.int 0 a) (Pl.int 0 b) (by decide) (by decide), eqv_int]
theorem any_eqv_ints (i : Int) (l : List Int) : ((l.map PyData.int).any fun z => PyData.eqv z (.int i)) = decide (i ∈ l) := by
  rw [Bool.eq_iff_iff, List.any_eq_true, decide_eq_true_eq]
  constructor
  · rintro ⟨z, hz, e⟩
    obtain ⟨j, hj, rfl⟩ := List.mem_map.mp hz
    rw [eqv_int, decide_eq_true_eq] at e
    rw [← e]; exact hj
  · intro h
    exact ⟨.int i, List.mem_map.mpr ⟨i, h, rfl⟩, by simp⟩
@[simp] theorem inInts (i : Int) (l : List Int) : inD false (.int i) (intT l) = some (.bool (decide (i ∈ l))) := by
  unfold intT
  show (if shp (.int i) = true ∧ shp (.tuple (l.map .int)) = true then some (PyData.bool (if false = true then !(l.map PyData.int).any fun z => PyData.eqv z (.int i) else (l.map PyData.int).any fun z => PyData.eqv z (.int i))) else none) = _
  rw [if_pos ⟨(Pl.int 0 i).shp (by decide), (Pl.intT 0 l).shp (by decide)⟩, if_neg (by decide), any_eqv_ints]
@[simp] theorem notInInts (i : Int) (l : List Int) : inD true (.int i) (intT l) = some (.bool (!decide (i ∈ l))) := by
  unfold intT
  show (if shp (.int i) = true ∧ shp (.tuple (l.map .int)) = true then some (PyData.bool (if true = true then !(l.map PyData.int).any fun z => PyData.eqv z (.int i) else (l.map PyData.int).any fun z => PyData.eqv z (.int i))) else none) = _
  rw [if_pos ⟨(Pl.int 0 i).shp (by decide), (Pl.intT 0 l).shp (by decide)⟩, if_pos rfl, any_eqv_ints]
/-- ascending -/
def ascI (l : List Int) : Bool := (List.zipWith (fun a b : Int => decide (a < b)) l (l.drop 1)).all id
theorem ascI_iff : ∀ l : List Int, ascI l = true ↔ l.Pairwise (· < ·)
  | [] => by simp [ascI]
  | [a] => by simp [ascI]
  | a :: b :: l => by
    have ih := ascI_iff (b :: l)
    have e : ascI (a :: b :: l) = (decide (a < b) && ascI (b :: l)) := by simp [ascI]
    rw [e, Bool.and_eq_true, ih, decide_eq_true_eq]
    constructor
    · rintro ⟨h1, h2⟩
      refine List.pairwise_cons.mpr ⟨fun c hc => ?_, h2⟩
      rcases List.mem_cons.mp hc with rfl | hc
      · exact h1
      · have := (List.pairwise_cons.mp h2).1 c hc
        omega
    · intro h
      have h := List.pairwise_cons.mp h
      exact ⟨h.1 b (List.mem_cons_self ..), h.2⟩
theorem boolsOf_map : ∀ l : List Bool, boolsOf ((l.map PyData.bool).map U.d) = some l
  | [] => rfl
  | b :: l => by
    show (match boolsOf ((l.map PyData.bool).map U.d) with
    | some l => some (b :: l)
    | none => none) = _
    rw [boolsOf_map l]
@[simp] theorem gAllL_bools (st : Sto) (l : List Bool) : gAllL [.d (.list (l.map PyData.bool))] st = .ok (.d (.bool (l.all id))) st := by
  show (match (lstOf st (.d (.list (l.map PyData.bool)))).bind boolsOf with
    | some l => Res.ok (U.d (.bool (l.all id))) st
    | none => .bad) = _
  rw [show lstOf st (.d (.list (l.map PyData.bool))) = some ((l.map PyData.bool).map U.d) from rfl, Option.bind_some, boolsOf_map]
theorem all_of {α : Type} (st : Sto) (l : List α) (v : α → Bool) : gAllL [.d (.list (l.map fun x => PyData.bool (v x)))] st = .ok (.d (.bool (l.all v))) st := by
  have e : (l.map fun x => PyData.bool (v x)) = (l.map v).map PyData.bool := by rw [List.map_map]; rfl
  rw [e, gAllL_bools, List.all_map]
  rfl
theorem ltInts (a b : List Int) : ltD (intT a) (intT b) = some (.bool (HT.lexLt a b)) := by
  show (match intsOf (a.map PyData.int), intsOf (b.map PyData.int) with
    | some l, some m => (match some (HT.lexLt l m) with
      | some r => some (PyData.bool r)
      | none => none)
    | _, _ => none) = _
  rw [intsOf_map, intsOf_map]
theorem cutL_take {α : Type} (l : List α) (k : Nat) : cutL l none (some (k : Int)) = l.take k := by
  unfold cutL
  rw [HT.sIx_none, HT.sIx_nat]
  simp
theorem cutL_drop {α : Type} (l : List α) (k : Nat) : cutL l (some (k : Int)) none = l.drop k := by
  unfold cutL
  rw [HT.sIx_none, HT.sIx_nat, List.take_of_length_le (by simp)]
  rcases Nat.le_total k l.length with h | h
  · rw [Nat.min_eq_left h]
  · rw [Nat.min_eq_right h, List.drop_eq_nil_of_le h, List.drop_eq_nil_of_le (Nat.le_refl _)]
@[simp] theorem cutL_1 {α : Type} (l : List α) : cutL l (some 1) none = l.drop 1 := cutL_drop l 1
theorem cutL_map {α β : Type} (f : α → β) (l : List α) (lo hi : Option Int) : cutL (l.map f) lo hi = (cutL l lo hi).map f := by
  unfold cutL
  rw [List.length_map, List.map_take, List.map_drop]
section
variable {en : Nv} {st s : Sto} {f : SemE} {lo hi : SemO} {l : List D} {a b : Option Int}
@[simp] theorem mSl_e : mSl f lo hi en st = (f en st).bind fun u st => (lo en st).bind fun l st => (hi en st).bind fun h st => gSl u l h st := rfl
@[simp] theorem mPart_e : mPart f en st = (f en st).bind fun u st => match u with
  | .d (.int i) => .ok (some i) st
  | _ => .bad := rfl
@[simp] theorem mNoPart_e : mNoPart en st = .ok none st := rfl
@[simp] theorem gSl_tup : gSl (.d (.tuple l)) a b st = .ok (.d (.tuple (cutL l a b))) st := rfl
@[simp] theorem gSl_lst : gSl (.d (.list l)) a b st = .ok (.d (.list (cutL l a b))) st := rfl
theorem all_e {bs : List Bool} (h : f en st = .ok (.d (.list (bs.map PyData.bool))) s) : mCB gAllL (mCons f mNil) en st = .ok (.d (.bool (bs.all id))) s := by
  rw [mCB_e, mCons_e, h, bind_ok, mNil_e, bind_ok, bind_ok, gAllL_bools]
end
@[simp] theorem truU_bool {b : Bool} : truU (.d (.bool b)) = some b := rfl
@[simp] theorem truU_none : truU (.d .none) = some false := rfl
@[simp] theorem truU_int {i : Int} : truU (.d (.int i)) = some (i != 0) := rfl
@[simp] theorem truU_tup {l : List D} : truU (.d (.tuple l)) = some (!l.isEmpty) := rfl
@[simp] theorem truU_lst {l : List D} : truU (.d (.list l)) = some (!l.isEmpty) := rfl
@[simp] theorem gSl_intT {st : Sto} {l : List Int} {a b : Option Int} : gSl (.d (intT l)) a b st = .ok (.d (intT (cutL l a b))) st := by
  unfold intT; rw [gSl_tup, cutL_map]
@[simp] theorem stay_intT {l : List Int} : stayOf (.d (intT l)) = some ((l.map PyData.int).map U.d) := rfl
@[simp] theorem kind_intT {l : List Int} : kindOf (.d (intT l)) = 2 := rfl
@[simp] theorem iterR_intT {st : Sto} {l : List Int} : iterR st (.d (intT l)) = some ((l.map PyData.int).map U.d, yes) := rfl
@[simp] theorem noDct_intT {l : List Int} : noDct (intT l) = true := rfl
@[simp] theorem gLen_intT {st : Sto} {l : List Int} : gLen [.d (intT l)] st = .ok (.d (.int l.length)) st := by
  unfold intT; rw [gLen_tup, List.length_map]
/-- a loop's answer where it looks for the first item that is wrong -/
def overN (most : Option Int) (n : Nat) : Bool := match most with
  | some m => decide (m ≤ (n : Int))
  | none => false
def wrGo (most : Option Int) (p : List D → D → Bool) : List D → List D → List D
  | _, [] => []
  | pre, x :: r => if overN most pre.length = true ∨ p pre x = false then [.int pre.length] else wrGo most p (pre ++ [x]) r
def optI : Option Int → D
  | some i => .int i
  | none => .none
def wrAt (most : Option Int) (p : List D → D → Bool) (v : D) : List D := match v with
  | .tuple l => wrGo most p [] l
  | _ => [.none]
def wrOne (most : Option Int) (p : List D → D → Bool) (v : D) : List D := match v with
  | .tuple [] => [.none]
  | v => wrAt most p v
def isTup (n : Nat) (x : D) : Bool := match x with
  | .tuple l => decide (l.length = n)
  | _ => false
end TT
namespace TT
open PySem
section
variable {st : Sto} {kc n : Nat} {Fc : List U → SemF} {ap : U → SemF} {caps us : List U} {f : SemE} {g : SemS} {d : D} {F : SemF} {fs : SemA} {en e : Nv}
@[simp] theorem isFun_clo {o : Bool} : isFun (.clo o kc caps) = true := rfl
theorem applyV_clo (hs : Fl st) (hu : hasCloL us = false) (hc : hasCloL caps = false) (hl : us.length = n) : applyV (apC kc n Fc ap) (.clo false kc caps) us st = Fc caps us st := by
  unfold applyV
  rw [if_pos (by simp [okAp, hu, hc, hs.clo])]
  show (if kc = kc then (if us.length = n then Fc caps us st else .bad) else _) = _
  rw [if_pos rfl, if_pos hl]
theorem run_CE (hs : Fl st) (h : f (us.map some ++ (caps.map some ++ List.replicate (n - us.length - caps.length) none)) st = .ok (.d d) st) : runCE n f caps us st = .ok (.d d) st := by
  unfold runCE finE
  rw [h]
  simp [hs]
theorem run_CEx (hs : Fl st) {c : Str} {x : D} (h : f (us.map some ++ (caps.map some ++ List.replicate (n - us.length - caps.length) none)) st = .exn c (some (.d x)) st) : runCE n f caps us st = .exn c (some (.d x)) st := by
  unfold runCE finE
  rw [h]
  simp [hs]
theorem run_C (hs : Fl st) (h : g (us.map some ++ (caps.map some ++ List.replicate (n - us.length - caps.length) none)) st = .rt (.d d) st) : runC n g caps us st = .ok (.d d) st := by
  unfold runC finS
  rw [h]
  simp [hs]
@[simp] theorem mCallX_e : mCallX F fs en st = (fs en st).bind fun us st => if stClo st = false then cleanR (F (expL us) st) else .bad := rfl
@[simp] theorem expL_nil : expL [] = [] := rfl
@[simp] theorem expL_cons {u : U} {r : List U} : expL (u :: r) = expU u :: expL r := rfl
@[simp] theorem expU_d : expU (.d d) = .d d := rfl
@[simp] theorem expU_ref {k : Nat} : expU (.ref k) = .ref k := rfl
@[simp] theorem expU_clo {o : Bool} {k : Nat} {c : List U} : expU (.clo o k c) = .clo false k (expL c) := rfl
@[simp] theorem cleanR_d (hs : Fl st) : cleanR (.ok (.d d) st) = .ok (.d d) st := by
  show (if hasClo (.d d) = false ∧ stClo st = false then Res.ok (U.d d) st else .bad) = _
  rw [if_pos ⟨rfl, hs.clo⟩]
@[simp] theorem isT_tup {l : List D} : isT "tuple" (.tuple l) = true := by simp [isT, tyNm]
@[simp] theorem isT_intT {l : List Int} : isT "tuple" (intT l) = true := by simp [isT, tyNm, intT]
@[simp] theorem eqT_nil {l : List Int} : eqD (intT l) (.tuple []) = some (.bool l.isEmpty) := by
  rw [eqD_pl (Pl.intT 0 l) (Pl.tup (k := 0) (l := []) (fun _ z => nomatch z)) (by decide) (by decide)]
  show some (PyData.bool (PyData.eqv (.tuple (l.map .int)) (.tuple []))) = _
  rw [eqv_tt_nil]
  cases l <;> rfl
end
end TT
namespace TT
open PySem
section
variable {st : Sto} {en e : Nv} {f : SemE} {js : List Nat} {i kc : Nat} {us : List U}
@[simp] theorem mNeg_e : mNeg f en st = (f en st).bind fun u st => match u with
  | .d (.int i) => .ok (.d (.int (-i))) st
  | _ => .bad := rfl
@[simp] theorem gIxm1 {l : List D} {r : D} : gIx (.d (.tuple (l ++ [r]))) (.d (.int (-1))) st = .ok (.d r) st := gIx_last
theorem asg_tup {n : Nat} {gs : List U → Nv → Sto → RS} {l : List D} (hl : l.length = n) : mGTup n gs (.d (.tuple l)) en st = gs (l.map U.d) en st := by
  show (match some (l.map U.d) with
    | some l => if l.length = n then gs l en st else .bad
    | none => .bad) = _
  dsimp only
  rw [if_pos (by rw [List.length_map]; exact hl)]
@[simp] theorem mGNil_e : mGNil [] en st = .nx en st := rfl
@[simp] theorem mGCons_e {g : SemG} {gs : List U → Nv → Sto → RS} {u : U} {r : List U} : mGCons g gs (u :: r) en st = (g u en st).then (gs r) := rfl
end
end TT
namespace TT
open PySem
section
variable {st : Sto} {en : Nv} {f g : SemE}
theorem asg_lst {n : Nat} {gs : List U → Nv → Sto → RS} {l : List D} (hl : l.length = n) : mGLst n gs (.d (.list l)) en st = gs (l.map U.d) en st := by
  show (match some (l.map U.d) with
    | some l => if l.length = n then gs l en st else .bad
    | none => .bad) = _
  dsimp only
  rw [if_pos (by rw [List.length_map]; exact hl)]
@[simp] theorem mR2_e : mR2 f g en st = (f en st).bind fun u st => (g en st).bind fun w st => match u, w with
  | .d (.int n), .d (.int m) => Res.ok ((n : Int), m) st
  | _, _ => .bad := rfl
end
end TT
set_option Elab.async false
set_option linter.all false
set_option maxRecDepth 100000
set_option maxHeartbeats 1000000
/-! schools, plainly -/
namespace TT
open PySem
theorem wrGo_nil {most : Option Int} {p : List D → D → Bool} : ∀ {r pre : List D}, wrGo most p pre r = [] ↔ ∀ i (h : i < r.length), overN most (pre.length + i) = false ∧ p (pre ++ r.take i) r[i] = true
  | [], pre => by simp [wrGo]
  | x :: r, pre => by
    rw [wrGo]
    by_cases h : overN most pre.length = true ∨ p pre x = false
    · rw [if_pos h]
      simp only [reduceCtorEq, false_iff]
      intro q
      have := q 0 (by simp)
      simp at this
      rcases h with h | h
      · rw [h] at this; exact absurd this.1 (by decide)
      · rw [h] at this; exact absurd this.2 (by decide)
    · rw [if_neg h, wrGo_nil]
      have h1 : overN most pre.length = false := by cases e : overN most pre.length <;> simp [e] at h ⊢
      have h2 : p pre x = true := by cases e : p pre x <;> simp [e] at h ⊢
      constructor
      · intro q i hi
        cases i with
        | zero => simpa using ⟨h1, h2⟩
        | succ i =>
          have := q i (by simpa using hi)
          rw [List.length_append, show pre.length + [x].length + i = pre.length + (i + 1) from by simp; omega, List.append_assoc] at this
          exact this
      · intro q i hi
        have := q (i + 1) (by simpa using hi)
        rw [List.length_append, show pre.length + [x].length + i = pre.length + (i + 1) from by simp; omega, List.append_assoc]
        exact this
theorem wrGo_pl {most : Option Int} {p : List D → D → Bool} : ∀ {r pre : List D}, ∀ d ∈ wrGo most p pre r, Pl 0 d
  | [], pre, d, h => by simp [wrGo] at h
  | x :: r, pre, d, h => by
    rw [wrGo] at h
    split at h
    · have : d = .int pre.length := by simpa using h
      rw [this]; exact Pl.int 0 _
    · exact wrGo_pl d h
theorem wrAt_pl {most : Option Int} {p : List D → D → Bool} {v : D} : ∀ d ∈ wrAt most p v, Pl 0 d := fun d h => by
  unfold wrAt at h
  split at h
  · exact wrGo_pl d h
  · have : d = .none := by simpa using h
    rw [this]; exact Pl.none 0
theorem wrOne_pl {most : Option Int} {p : List D → D → Bool} {v : D} : ∀ d ∈ wrOne most p v, Pl 0 d := fun d h => by
  unfold wrOne at h
  split at h
  · have : d = .none := by simpa using h
    rw [this]; exact Pl.none 0
  · exact wrAt_pl d h
theorem eq_nil_pl {l : List D} (h : ∀ d ∈ l, Pl 0 d) : eqD (.list l) (.list []) = some (.bool l.isEmpty) := by
  rw [eqD_pl (Pl.lst h) (Pl.lst (k := 0) (l := []) fun _ z => nomatch z) (by decide) (by decide), eqv_ll_nil]
theorem ne_nil_pl {l : List D} (h : ∀ d ∈ l, Pl 0 d) : neD (.list l) (.list []) = some (.bool (!l.isEmpty)) := by
  rw [neD_pl (Pl.lst h) (Pl.lst (k := 0) (l := []) fun _ z => nomatch z) (by decide) (by decide), eqv_ll_nil]
/-- the numbers of a tuple of numbers -/
def numsD (v : D) : Option (List Int) := match v with
  | .tuple l => intsOf l
  | _ => none
theorem numsD_intT (l : List Int) : numsD (intT l) = some l := intsOf_map l
theorem intsOf_some : ∀ {l : List D} {ns : List Int}, intsOf l = some ns → l = ns.map .int
  | [], ns, h => by cases h; rfl
  | d :: l, ns, h => by
    cases d with
    | int i =>
      have h : (match intsOf l with
        | some l => some (i :: l)
        | none => none) = some ns := h
      cases e : intsOf l with
      | none => rw [e] at h; cases h
      | some ms =>
        rw [e] at h
        cases h
        rw [List.map_cons, ← intsOf_some e]
    | _ => cases h
theorem numsD_some {v : D} {ns : List Int} (h : numsD v = some ns) : v = intT ns := by
  cases v with
  | tuple l => rw [intsOf_some h]; rfl
  | _ => cases h
theorem all_int : ∀ {l : List D}, (∀ d ∈ l, isWh d = true) → ∃ ns : List Int, l = ns.map .int
  | [], _ => ⟨[], rfl⟩
  | d :: l, h => by
    obtain ⟨ns, e⟩ := all_int fun z hz => h z (List.mem_cons_of_mem _ hz)
    have hd := h d (List.mem_cons_self ..)
    cases d with
    | int i => exact ⟨i :: ns, by rw [e]; rfl⟩
    | _ => cases hd
def inRI (lo hi i : Int) : Bool := decide (lo ≤ i) && decide (i ≤ hi)
def areNums (most : Nat) (high : Int) (v : D) : Bool := match numsD v with
  | some ns => !ns.isEmpty && decide (ns.length ≤ most) && ns.all (inRI (0 - high) high) && ascI ns
  | none => false
theorem inR_wh {lo hi : Int} {d : D} (h : inR lo hi d = true) : isWh d = true := by
  cases d <;> first | rfl | cases h
/-- no wrong one within a tuple of numbers between bounds -/
theorem wrOne_nums {most : Nat} {lo hi : Int} {v : D} : wrOne (some (most : Int)) (fun _ x => inR lo hi x) v = [] ↔ ∃ ns, v = intT ns ∧ ns ≠ [] ∧ ns.length ≤ most ∧ ∀ i ∈ ns, inRI lo hi i = true := by
  constructor
  · intro h
    unfold wrOne at h
    split at h
    · cases h
    · rename_i h0
      unfold wrAt at h
      split at h
      · rename_i l
        rw [wrGo_nil] at h
        obtain ⟨ns, rfl⟩ := all_int (l := l) fun d hd => by
          obtain ⟨i, hi, e⟩ := List.getElem_of_mem hd
          have := (h i hi).2
          rw [e] at this
          exact inR_wh this
        refine ⟨ns, rfl, fun z => h0 (by rw [z]; rfl), ?_, fun i hi => ?_⟩
        · rcases Nat.lt_or_ge most ns.length with z | z
          · have := (h most (by simpa using z)).1
            simp [overN] at this
          · exact z
        · obtain ⟨j, hj, e⟩ := List.getElem_of_mem hi
          have := (h j (by simpa using hj)).2
          rw [List.getElem_map, e] at this
          exact this
      · cases h
  · rintro ⟨ns, rfl, h0, hl, h⟩
    unfold wrOne
    split
    · rename_i e
      cases ns with
      | nil => exact absurd rfl h0
      | cons a r => simp [intT] at e
    · show wrGo _ _ [] (ns.map .int) = []
      rw [wrGo_nil]
      intro i hi
      have hi' : i < ns.length := by simpa using hi
      refine ⟨?_, ?_⟩
      · simp [overN]; omega
      · rw [List.getElem_map]
        exact h _ (List.getElem_mem hi')
theorem areNums_true {most : Nat} {high : Int} {v : D} : areNums most high v = true ↔ ∃ ns, v = intT ns ∧ ns ≠ [] ∧ ns.length ≤ most ∧ (∀ i ∈ ns, inRI (0 - high) high i = true) ∧ ascI ns = true := by
  unfold areNums
  constructor
  · intro h
    split at h
    · rename_i ns e
      simp only [Bool.and_eq_true, Bool.not_eq_true', decide_eq_true_eq, List.all_eq_true] at h
      exact ⟨ns, numsD_some e, by intro z; rw [z] at h; simp at h, h.1.1.2, h.1.2, h.2⟩
    · cases h
  · rintro ⟨ns, rfl, h0, hl, h, ha⟩
    rw [numsD_intT]
    simp only [Bool.and_eq_true, Bool.not_eq_true', decide_eq_true_eq, List.all_eq_true]
    exact ⟨⟨⟨by cases ns <;> simp at h0 ⊢, hl⟩, h⟩, ha⟩
def areSome (a : List Int) (v : D) : Bool := match numsD v with
  | some ns => !ns.isEmpty && ascI ns && ns.all fun i => decide (i ∈ a)
  | none => false
def isKind (a b c : List Int) (v : D) : Bool := match v with
  | .tuple [.int x, .int y, .int z] => decide (x ∈ a) && (decide (y ∈ b) && decide (z ∈ c))
  | _ => false
/-- a kind, as a tuple -/
def kd (k : Int × Int × Int) : D := intT [k.1, k.2.1, k.2.2]
def kL (k : Int × Int × Int) : List Int := [k.1, k.2.1, k.2.2]
theorem isKind_true {a b c : List Int} {v : D} : isKind a b c v = true ↔ ∃ k, v = kd k ∧ k.1 ∈ a ∧ k.2.1 ∈ b ∧ k.2.2 ∈ c := by
  constructor
  · intro h
    unfold isKind at h
    split at h
    · rename_i x y z
      simp only [Bool.and_eq_true, decide_eq_true_eq] at h
      exact ⟨(x, y, z), rfl, h.1, h.2.1, h.2.2⟩
    · cases h
  · rintro ⟨⟨x, y, z⟩, rfl, h1, h2, h3⟩
    show (decide (x ∈ a) && (decide (y ∈ b) && decide (z ∈ c))) = true
    simp [show x ∈ a from h1, show y ∈ b from h2, show z ∈ c from h3]
/-- whether the last of some comes before another one -/
def lastLt (pre : List D) (x : D) : Bool := match pre.getLast?, numsD x with
  | none, _ => true
  | some y, some m => (match numsD y with
    | some n => HT.lexLt n m
    | none => false)
  | some _, none => false
def barOk (a b c : List Int) (pre : List D) (x : D) : Bool := isKind a b c x && lastLt pre x
def areBars (a b c : List Int) (v : D) : Bool := decide (wrAt (some 20) (barOk a b c) v = [])
theorem lexLt_trans : ∀ {a b c : List Int}, HT.lexLt a b = true → HT.lexLt b c = true → HT.lexLt a c = true
  | [], [], _, h, _ => by cases h
  | [], _ :: _, [], _, h => by cases h
  | [], _ :: _, _ :: _, _, _ => rfl
  | _ :: _, [], _, h, _ => by cases h
  | _ :: _, _ :: _, [], _, h => by cases h
  | x :: a, y :: b, z :: c, h1, h2 => by
    rw [HT.lexLt_cons] at h1 h2 ⊢
    by_cases e1 : x = y
    · by_cases e2 : y = z
      · rw [if_pos e1] at h1
        rw [if_pos e2] at h2
        rw [if_pos (e1.trans e2)]
        exact lexLt_trans h1 h2
      · rw [if_neg e2, decide_eq_true_eq] at h2
        rw [if_neg (by omega), decide_eq_true_eq]
        omega
    · rw [if_neg e1, decide_eq_true_eq] at h1
      by_cases e2 : y = z
      · rw [if_neg (by omega), decide_eq_true_eq]
        omega
      · rw [if_neg e2, decide_eq_true_eq] at h2
        rw [if_neg (by omega), decide_eq_true_eq]
        omega
theorem lexLt_irrefl : ∀ a : List Int, HT.lexLt a a = false
  | [] => rfl
  | x :: a => by rw [HT.lexLt_cons, if_pos rfl]; exact lexLt_irrefl a
theorem pairwise_adj {α : Type} {R : α → α → Prop} (tr : ∀ a b c, R a b → R b c → R a c) : ∀ l : List α, (∀ i (h : i + 1 < l.length), R (l[i]'(by omega)) l[i + 1]) → l.Pairwise R
  | [], _ => .nil
  | [a], _ => List.pairwise_singleton _ _
  | a :: b :: l, h => by
    have ih := pairwise_adj tr (b :: l) fun i hi => h (i + 1) (by simpa using hi)
    have hab : R a b := h 0 (by simp)
    refine List.pairwise_cons.mpr ⟨fun c hc => ?_, ih⟩
    rcases List.mem_cons.mp hc with rfl | hc
    · exact hab
    · exact tr _ _ _ hab ((List.pairwise_cons.mp ih).1 c hc)
theorem all_kind {a b c : List Int} : ∀ {l : List D}, (∀ d ∈ l, isKind a b c d = true) → ∃ ks : List (Int × Int × Int), l = ks.map kd ∧ ∀ k ∈ ks, k.1 ∈ a ∧ k.2.1 ∈ b ∧ k.2.2 ∈ c
  | [], _ => ⟨[], rfl, fun _ z => nomatch z⟩
  | d :: l, h => by
    obtain ⟨ks, e, hk⟩ := all_kind fun z hz => h z (List.mem_cons_of_mem _ hz)
    obtain ⟨k, e1, h1⟩ := isKind_true.mp (h d (List.mem_cons_self ..))
    exact ⟨k :: ks, by rw [e, e1]; rfl, fun z hz => by
      rcases List.mem_cons.mp hz with rfl | hz
      · exact h1
      · exact hk z hz⟩
theorem lastLt_take (ks : List (Int × Int × Int)) (i : Nat) (h : i + 1 < ks.length) : lastLt ((ks.map kd).take (i + 1)) (kd ks[i + 1]) = HT.lexLt (kL ks[i]) (kL ks[i + 1]) := by
  unfold lastLt
  have e : ((ks.map kd).take (i + 1)).getLast? = some (kd ks[i]) := by
    rw [List.getLast?_eq_getElem?, List.length_take, List.length_map, Nat.min_eq_left (by omega), List.getElem?_take, if_pos (by omega), List.getElem?_map, show i + 1 - 1 = i from rfl, List.getElem?_eq_getElem (by omega)]
    rfl
  rw [e]
  rfl
theorem wrBars {a b c : List Int} {v : D} : areBars a b c v = true ↔ ∃ ks : List (Int × Int × Int), v = .tuple (ks.map kd) ∧ ks.length ≤ 20 ∧ (∀ k ∈ ks, k.1 ∈ a ∧ k.2.1 ∈ b ∧ k.2.2 ∈ c) ∧ ks.Pairwise (fun x y => HT.lexLt (kL x) (kL y) = true) := by
  unfold areBars
  rw [decide_eq_true_eq]
  constructor
  · intro h
    unfold wrAt at h
    split at h
    · rename_i l
      rw [wrGo_nil] at h
      obtain ⟨ks, rfl, hk⟩ := all_kind (a := a) (b := b) (c := c) (l := l) fun d hd => by
        obtain ⟨i, hi, e⟩ := List.getElem_of_mem hd
        have := (h i hi).2
        rw [e] at this
        exact (Bool.and_eq_true_iff.mp this).1
      refine ⟨ks, rfl, ?_, hk, pairwise_adj (R := fun x y => HT.lexLt (kL x) (kL y) = true) (fun x y z => lexLt_trans) ks fun i hi => ?_⟩
      · rcases Nat.lt_or_ge 20 ks.length with z | z
        · have := (h 20 (by simpa using z)).1
          simp [overN] at this
        · exact z
      · have := (h (i + 1) (by simpa using hi)).2
        rw [List.getElem_map, List.nil_append] at this
        have := (Bool.and_eq_true_iff.mp this).2
        rw [lastLt_take ks i hi] at this
        exact this
    · cases h
  · rintro ⟨ks, rfl, hl, hk, hp⟩
    show wrGo _ _ [] (ks.map kd) = []
    rw [wrGo_nil]
    intro i hi
    have hi' : i < ks.length := by simpa using hi
    refine ⟨by simp [overN]; omega, ?_⟩
    rw [List.getElem_map, List.nil_append]
    refine Bool.and_eq_true_iff.mpr ⟨isKind_true.mpr ⟨_, rfl, hk _ (List.getElem_mem hi')⟩, ?_⟩
    cases i with
    | zero => rfl
    | succ i =>
      rw [lastLt_take ks i hi']
      exact List.pairwise_iff_getElem.mp hp i (i + 1) (by omega) hi' (by omega)
theorem areSome_true {a : List Int} {v : D} : areSome a v = true ↔ ∃ ns, v = intT ns ∧ ns ≠ [] ∧ ascI ns = true ∧ ∀ i ∈ ns, i ∈ a := by
  unfold areSome
  constructor
  · intro h
    split at h
    · rename_i ns e
      simp only [Bool.and_eq_true, Bool.not_eq_true', decide_eq_true_eq, List.all_eq_true] at h
      exact ⟨ns, numsD_some e, by intro z; rw [z] at h; simp at h, h.1.2, h.2⟩
    · cases h
  · rintro ⟨ns, rfl, h0, ha, h⟩
    rw [numsD_intT]
    simp only [Bool.and_eq_true, Bool.not_eq_true', decide_eq_true_eq, List.all_eq_true]
    exact ⟨⟨by cases ns <;> simp at h0 ⊢, ha⟩, h⟩
structure School where
  high : Int
  steps : List Int
  other : List Int
  gaps : List Int
  bars : List (Int × Int × Int)
  begin_ : List Int
  end_ : List Int
def School.d (S : School) : D := .tuple [.int S.high, intT S.steps, intT S.other, intT S.gaps, .tuple (S.bars.map kd), intT S.begin_, intT S.end_]
structure School.Ok (S : School) : Prop where
  h1 : 1 ≤ S.high
  h8 : S.high ≤ 8
  steps : areNums 5 S.high (intT S.steps) = true
  other : areNums 7 S.high (intT S.other) = true
  gaps : areNums 9 S.high (intT S.gaps) = true
  bars : areBars S.gaps S.steps S.other (.tuple (S.bars.map kd)) = true
  beg : areSome S.gaps (intT S.begin_) = true
  fin : areSome S.gaps (intT S.end_) = true
def isSchool (v : D) : Bool := match v with
  | .tuple [.int high, s, s2, iv, bars, bg, en] => inRI 1 8 high && areNums 5 high s && areNums 7 high s2 && areNums 9 high iv && areBars ((numsD iv).getD []) ((numsD s).getD []) ((numsD s2).getD []) bars && areSome ((numsD iv).getD []) bg && areSome ((numsD iv).getD []) en
  | _ => false
end TT
namespace TT
open PySem
section
variable {st s : Sto} {en e : Nv} {f fo fe : SemE} {g : SemG} {bd : SemS} {chk : Sto → Bool} {l acc : List D} {x d : D} {c : Str}
@[simp] theorem mRaise_e : mRaise c f en st = (f en st).toS en fun u st => .exn c (some u) en st := rfl
@[simp] theorem mML_e {h : U → U → Sto → Res U} : mML h fo fe en st = (fo en st).bind fun u st => if isLst st u = true then (fe en st).bind fun w st => h u w st else .bad := rfl
@[simp] theorem isLst_e {l : List U} : isLst (st ++ [.lst l]) (.ref st.length) = true := by simp [isLst]
theorem append_e (h : acc.length < 1000000) : gAppend (.ref st.length) (.d x) (st ++ [.lst (acc.map U.d)]) = .ok (.d .none) (st ++ [.lst ((acc ++ [x]).map U.d)]) := by
  unfold gAppend
  dsimp only
  rw [List.getElem?_append_right (Nat.le_refl _), Nat.sub_self]
  dsimp only [List.getElem?_cons_zero]
  rw [if_pos (lt_size (by rw [List.length_map]; exact h)), List.set_append_right _ _ (Nat.le_refl _), Nat.sub_self]
  simp
theorem extend_e (h : acc.length + l.length ≤ 1000000) : gExtend (.ref st.length) (.d (.list l)) (st ++ [.lst (acc.map U.d)]) = .ok (.d .none) (st ++ [.lst ((acc ++ l).map U.d)]) := by
  unfold gExtend
  dsimp only
  rw [List.getElem?_append_right (Nat.le_refl _), Nat.sub_self]
  dsimp only [List.getElem?_cons_zero]
  rw [if_pos (le_size (by rw [List.length_map]; exact h)), List.set_append_right _ _ (Nat.le_refl _), Nat.sub_self]
  simp
/-- a loop that appends to the one list -/
theorem for_app {E : Nv} (k : D → List D) (M : Nat) (hk : ∀ acc, chk (st ++ [.lst acc]) = true) : ∀ l acc : List D, acc.length + l.length * M ≤ 500000 → (∀ d ∈ l, (k d).length ≤ M ∧ ∀ acc : List D, acc.length ≤ 500000 → turn g bd (.d d) E (st ++ [.lst (acc.map U.d)]) = .nx E (st ++ [.lst ((acc ++ k d).map U.d)])) →
    forL g bd chk (l.map U.d) E (st ++ [.lst (acc.map U.d)]) = .nx E (st ++ [.lst ((acc ++ l.flatMap k).map U.d)])
  | [], acc, _, _ => by rw [List.map_nil, forL_nil (hk _)]; simp
  | d :: l, acc, hz, h => by
    rw [List.length_cons, Nat.succ_mul] at hz
    obtain ⟨h1, h2⟩ := h d (List.mem_cons_self ..)
    rw [List.map_cons, forL_cons (hk _), h2 acc (by omega)]
    dsimp only
    rw [for_app k M hk l (acc ++ k d) (by rw [List.length_append]; omega) fun d hd => h d (List.mem_cons_of_mem _ hd)]
    simp
end
theorem eqvAll_self : ∀ l : List D, (∀ d ∈ l, PyData.eqv d d = true) → PyData.eqvAll l l = true
  | [], _ => by simp [PyData.eqvAll]
  | d :: l, h => by
    rw [PyData.eqvAll, h d (List.mem_cons_self ..), eqvAll_self l fun z hz => h z (List.mem_cons_of_mem _ hz)]
    rfl
theorem eqv_kd (a b : Int × Int × Int) : PyData.eqv (kd a) (kd b) = decide (a = b) := by
  unfold kd
  rw [eqv_ints]
  obtain ⟨x, y, z⟩ := a
  obtain ⟨x', y', z'⟩ := b
  simp
theorem any_kd (k : Int × Int × Int) (l : List (Int × Int × Int)) : ((l.map kd).any fun z => PyData.eqv z (kd k)) = decide (k ∈ l) := by
  rw [Bool.eq_iff_iff, List.any_eq_true, decide_eq_true_eq]
  constructor
  · rintro ⟨z, hz, e⟩
    obtain ⟨j, hj, rfl⟩ := List.mem_map.mp hz
    rw [eqv_kd, decide_eq_true_eq] at e
    rw [← e]; exact hj
  · intro h
    exact ⟨kd k, List.mem_map.mpr ⟨k, h, rfl⟩, by rw [eqv_kd]; simp⟩
theorem pl_kds (l : List (Int × Int × Int)) : ∀ d ∈ l.map kd, Pl 1 d := fun d hd => by
  obtain ⟨k, _, rfl⟩ := List.mem_map.mp hd
  exact Pl.intT 0 _
@[simp] theorem notInKds (k : Int × Int × Int) (l : List (Int × Int × Int)) : inD true (kd k) (.tuple (l.map kd)) = some (.bool (!decide (k ∈ l))) := by
  show (if shp (kd k) = true ∧ shp (.tuple (l.map kd)) = true then some (PyData.bool (if true = true then !(l.map kd).any fun z => PyData.eqv z (kd k) else (l.map kd).any fun z => PyData.eqv z (kd k))) else none) = _
  rw [if_pos ⟨(Pl.intT 0 _).shp (by decide), (Pl.tup (pl_kds l)).shp (by decide)⟩, if_pos rfl, any_kd]
/-- a pair of notes -/
def pr (p : Int × Int) : D := intT [p.1, p.2]
def School.isStand (S : School) (v : D) : Bool := match v with
  | .tuple [.int a, .int b] => inRI 0 S.high a && inRI 0 S.high b && decide (b - a ∈ S.gaps)
  | _ => false
def School.isSt (S : School) (p : Int × Int) : Bool := inRI 0 S.high p.1 && inRI 0 S.high p.2 && decide (p.2 - p.1 ∈ S.gaps)
theorem isStand_pr (S : School) (p : Int × Int) : S.isStand (pr p) = S.isSt p := rfl
def School.notes (S : School) : List Int := intR 0 (S.high + 1)
def School.stands (S : School) : List (Int × Int) := S.notes.flatMap fun a => (S.notes.filter fun b => decide (b - a ∈ S.gaps)).map fun b => (a, b)
def kdOf (p q : Int × Int) : Int × Int × Int := (p.2 - p.1, q.1 - p.1, q.2 - p.2)
def School.isMove (S : School) (p q : Int × Int) : Bool := decide ((kdOf p q).2.1 ∈ S.steps) && (decide ((kdOf p q).2.2 ∈ S.other) && !decide (kdOf p q ∈ S.bars))
def School.movesBy (S : School) (p : Int × Int) (step : Int) : List (Int × Int × Int) := (S.other.filter fun z => S.isSt (p.1 + step, p.2 + z) && S.isMove p (p.1 + step, p.2 + z)).map fun z => (z, p.1 + step, p.2 + z)
def mvBy (m : Int × Int × Int) : D := .tuple [.int m.1, pr m.2]
def School.moves (S : School) (p : Int × Int) : List (Int × Int × Int × Int) := S.steps.flatMap fun step => (S.movesBy p step).map fun m => (step, m)
def mv (m : Int × Int × Int × Int) : D := .tuple [.int m.1, .int m.2.1, pr m.2.2]
end TT
namespace TT
open PySem
theorem intT_inj {a b : List Int} (h : intT a = intT b) : a = b := by
  have e := congrArg numsD h
  rw [numsD_intT, numsD_intT] at e
  exact Option.some.inj e
theorem numsOk {most : Nat} {high : Int} {l : List Int} : areNums most high (intT l) = true ↔ l ≠ [] ∧ l.length ≤ most ∧ (∀ i ∈ l, 0 - high ≤ i ∧ i ≤ high) ∧ l.Pairwise (· < ·) := by
  rw [areNums_true]
  constructor
  · rintro ⟨ns, e, h0, hl, hr, ha⟩
    have := intT_inj e
    subst this
    exact ⟨h0, hl, fun i hi => by simpa [inRI] using hr i hi, (ascI_iff _).mp ha⟩
  · rintro ⟨h0, hl, hr, ha⟩
    exact ⟨l, rfl, h0, hl, fun i hi => by simpa [inRI] using hr i hi, (ascI_iff _).mpr ha⟩
theorem someOk {a l : List Int} : areSome a (intT l) = true ↔ l ≠ [] ∧ l.Pairwise (· < ·) ∧ ∀ i ∈ l, i ∈ a := by
  rw [areSome_true]
  constructor
  · rintro ⟨ns, e, h0, ha, hr⟩
    have := intT_inj e
    subst this
    exact ⟨h0, (ascI_iff _).mp ha, hr⟩
  · rintro ⟨h0, ha, hr⟩
    exact ⟨l, rfl, h0, (ascI_iff _).mpr ha, hr⟩
theorem kd_inj {a b : Int × Int × Int} (h : kd a = kd b) : a = b := by
  have := intT_inj h
  obtain ⟨x, y, z⟩ := a
  obtain ⟨x', y', z'⟩ := b
  simpa using this
theorem kds_inj : ∀ {a b : List (Int × Int × Int)}, a.map kd = b.map kd → a = b
  | [], [], _ => rfl
  | [], _ :: _, h => by cases h
  | _ :: _, [], h => by cases h
  | x :: a, y :: b, h => by
    simp only [List.map_cons, List.cons.injEq] at h
    rw [kd_inj h.1, kds_inj h.2]
theorem barsOk {a b c : List Int} {l : List (Int × Int × Int)} : areBars a b c (.tuple (l.map kd)) = true ↔ l.length ≤ 20 ∧ (∀ k ∈ l, k.1 ∈ a ∧ k.2.1 ∈ b ∧ k.2.2 ∈ c) ∧ l.Pairwise (fun x y => HT.lexLt (kL x) (kL y) = true) := by
  rw [wrBars]
  constructor
  · rintro ⟨ks, e, h1, h2, h3⟩
    have := kds_inj (PyData.tuple.inj e)
    subst this
    exact ⟨h1, h2, h3⟩
  · rintro ⟨h1, h2, h3⟩
    exact ⟨l, rfl, h1, h2, h3⟩
theorem School.Ok.is {S : School} (h : S.Ok) : isSchool S.d = true := by
  have h1 := h.h1
  have h8 := h.h8
  simp [isSchool, School.d, numsD_intT, h.steps, h.other, h.gaps, h.bars, h.beg, h.fin, inRI, h1, h8]
theorem School.pl (S : School) : Pl 3 S.d := Pl.tup fun d hd => by
  simp only [List.mem_cons, List.not_mem_nil, or_false] at hd
  rcases hd with rfl | rfl | rfl | rfl | rfl | rfl | rfl
  · exact Pl.int _ _
  · exact Pl.intT _ _
  · exact Pl.intT _ _
  · exact Pl.intT _ _
  · exact Pl.tup (pl_kds _)
  · exact Pl.intT _ _
  · exact Pl.intT _ _
end TT
set_option Elab.async false
set_option linter.all false
set_option maxRecDepth 100000
set_option maxHeartbeats 1000000
/-! a cell of draws among the cells -/
namespace TT
open PySem
def wl (x y z : Int) : Cell := .lst (([.int x, .int y, .int z] : List D).map U.d)
def isWl (c : Cell) : Prop := ∃ x y z, c = wl x y z
structure GW (st : Sto) (n : Nat) : Prop where
  fl : Fl st
  lt : n < st.length
  at_ : ∃ x y z, st[n]? = some (wl x y z)
/-- draws alone have happened -/
structure Dr (n : Nat) (st st' : Sto) : Prop where
  ex : ∃ w, isWl w ∧ st' = st.set n w
theorem GW.set {st : Sto} {n : Nat} (h : GW st n) {w : Cell} (hw : isWl w) : GW (st.set n w) n := by
  obtain ⟨x, y, z, rfl⟩ := hw
  exact ⟨h.fl.set n _, by rw [List.length_set]; exact h.lt, x, y, z, by rw [List.getElem?_set_self h.lt]⟩
theorem Dr.gw {st st' : Sto} {n : Nat} (d : Dr n st st') (h : GW st n) : GW st' n := by
  obtain ⟨w, hw, rfl⟩ := d.ex
  exact h.set hw
theorem Dr.len {st st' : Sto} {n : Nat} (d : Dr n st st') : st'.length = st.length := by
  obtain ⟨w, hw, rfl⟩ := d.ex
  exact List.length_set ..
theorem Dr.refl {st : Sto} {n : Nat} (h : GW st n) : Dr n st st := by
  obtain ⟨x, y, z, e⟩ := h.at_
  refine ⟨wl x y z, ⟨x, y, z, rfl⟩, ?_⟩
  refine List.ext_getElem? fun i => ?_
  by_cases hi : n = i
  · subst hi
    rw [List.getElem?_set_self h.lt, e]
  · rw [List.getElem?_set_ne hi]
theorem Dr.trans {st s1 s2 : Sto} {n : Nat} (a : Dr n st s1) (b : Dr n s1 s2) : Dr n st s2 := by
  obtain ⟨w, hw, rfl⟩ := a.ex
  obtain ⟨w2, hw2, rfl⟩ := b.ex
  exact ⟨w2, hw2, List.set_set ..⟩
theorem Dr.app {st s2 : Sto} {n : Nat} {l : Sto} (hn : n < st.length) (d : Dr n (st ++ l) s2) : ∃ s1, s2 = s1 ++ l ∧ Dr n st s1 := by
  obtain ⟨w, hw, rfl⟩ := d.ex
  exact ⟨st.set n w, List.set_append_left _ _ hn, w, hw, rfl⟩
theorem GW.snoc {st : Sto} {n : Nat} (h : GW st n) (l : List D) : GW (st ++ [.lst (l.map U.d)]) n := by
  obtain ⟨x, y, z, e⟩ := h.at_
  exact ⟨h.fl.snoc l, by rw [List.length_append]; have := h.lt; omega, x, y, z, by rw [List.getElem?_append_left h.lt]; exact e⟩
section
variable {st : Sto} {n : Nat} {x y z : Int} {en e : Nv} {f g : SemE} {h : SemS} {d : D} {us : List U} {u : U}
theorem seq_ref {l : List U} (e : st[n]? = some (.lst l)) : seqOf st (.ref n) = some l := by
  unfold seqOf
  dsimp only
  rw [e]
theorem ref_ix {l : List U} {j : Nat} (e : st[n]? = some (.lst l)) (hu : l[j]? = some u) : gIx (.ref n) (.d (.int (j : Int))) st = .ok u st := by
  show (match (match seqOf st (.ref n) with
      | some l => (match L2.atI l (j : Int) with
        | some x => Res.ok x st
        | none => .bad)
      | none => .bad) with | r => r) = _
  rw [seq_ref e]
  dsimp only
  rw [L2.atI_nat hu]
theorem wl0 (e : st[n]? = some (wl x y z)) : gIx (.ref n) (.d (.int 0)) st = .ok (.d (.int x)) st := ref_ix (j := 0) e rfl
theorem wl1 (e : st[n]? = some (wl x y z)) : gIx (.ref n) (.d (.int 1)) st = .ok (.d (.int y)) st := ref_ix (j := 1) e rfl
theorem wl2 (e : st[n]? = some (wl x y z)) : gIx (.ref n) (.d (.int 2)) st = .ok (.d (.int z)) st := ref_ix (j := 2) e rfl
@[simp] theorem mGSub_e : mGSub f g u en st = (f en st).toS en fun o st => (g en st).toS en fun i st => gSetL o i u en st := rfl
theorem ref_set {l : List U} {j : Nat} (e : st[n]? = some (.lst l)) (hj : j < l.length) : gSetL (.ref n) (.d (.int (j : Int))) u en st = .nx en (st.set n (.lst (l.set j u))) := by
  have q : L2.ixN l.length (j : Int) = some j := by
    unfold L2.ixN
    rw [if_pos (by omega), if_pos (by omega)]
    simp
  unfold gSetL
  dsimp only
  rw [e]
  dsimp only
  rw [q]
theorem wls0 {v : Int} (e : st[n]? = some (wl x y z)) : gSetL (.ref n) (.d (.int 0)) (.d (.int v)) en st = .nx en (st.set n (wl v y z)) := ref_set (j := 0) e (by simp)
theorem wls1 {v : Int} (e : st[n]? = some (wl x y z)) : gSetL (.ref n) (.d (.int 1)) (.d (.int v)) en st = .nx en (st.set n (wl x v z)) := ref_set (j := 1) e (by simp)
theorem wls2 {v : Int} (e : st[n]? = some (wl x y z)) : gSetL (.ref n) (.d (.int 2)) (.d (.int v)) en st = .nx en (st.set n (wl x y v)) := ref_set (j := 2) e (by simp)
theorem run_set {s : Sto} (hs : Fl s) (hl : s.length = st.length) (e : h (us.map some ++ List.replicate (n - us.length) none) st = .rt (.d d) s) : frzF (runF n h) us st = .ok (.d d) s := by
  unfold frzF runF
  rw [e]
  simp only [hasOwn, hs.own, and_self, if_true, frz_d]
  rw [← hl, List.take_length, if_pos (hs.lt _)]
theorem mul_e {i j : Int} (h : (-(2 ^ 64) < i ∧ i < 2 ^ 64) ∨ (-(2 ^ 64) < j ∧ j < 2 ^ 64)) : mulI (.int i) (.int j) = some (.int (i * j)) := if_pos h
@[simp] theorem mul_r {i : Int} {j : Int} (h : -1000000 < j ∧ j < 1000000) : mulI (.int i) (.int j) = some (.int (i * j)) := mul_e (.inr (by omega))
@[simp] theorem mul_l {i : Int} {j : Int} (h : -1000000 < i ∧ i < 1000000) : mulI (.int i) (.int j) = some (.int (i * j)) := mul_e (.inl (by omega))
@[simp] theorem mod_e {i j : Int} (h : 0 < j) : modD (.int i) (.int j) = some (.int (i % j)) := if_pos h
theorem fdiv_e {i j : Int} (h : 0 < j) (h2 : j.natAbs.log2 < 9000) : fdivD (.int i) (.int j) = some (.int (i / j)) := if_pos ⟨h, h2⟩
theorem divmod_e {i j : Int} (h : 0 < j ∧ j < 1073741824) : gDivmod [.d (.int i), .d (.int j)] st = .ok (.d (.tuple [.int (i / j), .int (i % j)])) st := if_pos h
@[simp] theorem gInt_e {i : Int} : gInt [.d (.int i)] st = .ok (.d (.int i)) st := rfl
@[simp] theorem gAbs_e {i : Int} : gAbs [.d (.int i)] st = .ok (.d (.int (if i < 0 then -i else i))) st := rfl
@[simp] theorem gMax2_e {i j : Int} : gMax2 [.d (.int i), .d (.int j)] st = .ok (.d (.int (if j > i then j else i))) st := rfl
@[simp] theorem gMin2_e {i j : Int} : gMin2 [.d (.int i), .d (.int j)] st = .ok (.d (.int (if j < i then j else i))) st := rfl
end
end TT
namespace TT
open PySem
section
variable {st s : Sto} {n m : Nat} {en e : Nv} {g : SemS} {us : List U} {l acc : List D} {chk : Sto → Bool}
theorem run_refS {h : SemS} (hs : Fl s) (hl : s.length = st.length) (e : h (us.map some ++ List.replicate (n - us.length) none) st = .rt (.ref s.length) (s ++ [.lst (l.map U.d)])) : frzF (runF n h) us st = .ok (.d (.list l)) s := by
  unfold frzF runF
  rw [e]
  have e2 : frz (s ++ [.lst (l.map U.d)]) st.length 9 (.ref s.length) = some (PyData.list l) := frz_ref (by rw [List.getElem?_append_right (Nat.le_refl _)]; simp) _ (by omega)
  simp only [hasOwn, (hs.snoc l).own, and_self, if_true, e2]
  rw [← hl, List.take_left, if_pos (hs.lt _)]
@[simp] theorem gListR_lst : gListR [.d (.list l)] st = .ok (.ref st.length) (st ++ [.lst (l.map U.d)]) := rfl
@[simp] theorem gListR_tup : gListR [.d (.tuple l)] st = .ok (.ref st.length) (st ++ [.lst (l.map U.d)]) := rfl
@[simp] theorem gList_tup : gList [.d (.tuple l)] st = .ok (.d (.list l)) st := by
  show (match (seqOf st (.d (.tuple l))).bind allD with
    | some l => Res.ok (U.d (.list l)) st
    | none => .bad) = _
  rw [show seqOf st (.d (.tuple l)) = some (l.map U.d) from rfl, Option.bind_some, allD_mapd]
@[simp] theorem gList_intT {l : List Int} : gList [.d (intT l)] st = .ok (.d (.list (l.map .int))) st := gList_tup
@[simp] theorem gTuple_lst : gTuple [.d (.list l)] st = .ok (.d (.tuple l)) st := by
  show (match (lstOf st (.d (.list l))).bind allD with
    | some l => Res.ok (U.d (.tuple l)) st
    | none => .bad) = _
  rw [show lstOf st (.d (.list l)) = some (l.map U.d) from rfl, Option.bind_some, allD_mapd]
theorem last_at {c : Cell} : (st ++ [c])[st.length]? = some c := by rw [List.getElem?_append_right (Nat.le_refl _), Nat.sub_self]; rfl
theorem gLen_ref {l : List U} (e : st[m]? = some (.lst l)) : gLen [.ref m] st = .ok (.d (.int l.length)) st := by
  show (match seqOf st (.ref m) with | some l => Res.ok (U.d (.int l.length)) st | none => .bad) = _
  rw [seq_ref e]
theorem isLst_ref {l : List U} (e : st[m]? = some (.lst l)) : isLst st (.ref m) = true := by
  unfold isLst
  dsimp only
  rw [e]
theorem seqIndex_nat {k n : Nat} (h : k < n) : seqIndex? (k : Int) n = some k := by
  have q := (L2.ixN_seq (n := n) (i := (k : Int)) (j := k) (by
    unfold L2.ixN
    rw [if_pos (by omega), if_pos (by omega)]
    simp)).1
  exact q
theorem popAt_e {k : Nat} (hk : k < l.length) (hz : l.length < 1000000) : gPopAt (.ref st.length) (.d (.int (k : Int))) (st ++ [.lst (l.map U.d)]) = .ok (.d l[k]) (st ++ [.lst ((l.eraseIdx k).map U.d)]) := by
  unfold gPopAt
  dsimp only
  rw [last_at]
  dsimp only
  rw [if_pos (by omega), List.length_map, seqIndex_nat hk]
  dsimp only
  rw [List.getElem?_map, List.getElem?_eq_getElem hk]
  dsimp only [Option.map]
  rw [List.set_append_right _ _ (Nat.le_refl _), Nat.sub_self]
  congr 1
  simp only [List.set_cons_zero]
  have : ∀ (l : List D) (k : Nat), (l.map U.d).eraseIdx k = (l.eraseIdx k).map U.d := by
    intro l
    induction l with
    | nil => intro k; rfl
    | cons a l ih => intro k; cases k with
      | zero => rfl
      | succ k => simp [ih]
  rw [this]
end
end TT
set_option Elab.async false
set_option linter.all false
set_option maxRecDepth 100000
set_option maxHeartbeats 1000000
/-! sorted rows of numbers -/
namespace TT
open PySem
theorem lexLt_eq : ∀ a b : List Int, HT.lexLt a b = decide (a < b)
  | [], [] => by simp [HT.lexLt]
  | [], _ :: _ => by simp [HT.lexLt]
  | _ :: _, [] => by simp [HT.lexLt]
  | x :: a, y :: b => by
    rw [HT.lexLt_cons, lexLt_eq a b]
    by_cases h : x = y
    · rw [if_pos h]; simp [h, List.cons_lt_cons_iff]
    · rw [if_neg h]; simp [h, List.cons_lt_cons_iff]
theorem dataLt_intT (a b : List Int) : PySem.W.dataLt (intT a) (intT b) = HT.lexLt a b := by
  unfold intT
  rw [PySem.W.dataLt_tuple, lexLt_eq]
  exact PySem.W.dataLt_ints a b
theorem le_intT (a b : List Int) : leD0 (intT a) (intT b) = !HT.lexLt b a := by
  rw [← dataLt_intT]
  rfl
theorem le_total0 : PySem.W.TotalLe leD0 := PySem.W.sortLe_total _ _ _
theorem lexLt_tri : ∀ a b : List Int, HT.lexLt a b = false → HT.lexLt b a = false → a = b
  | [], [], _, _ => rfl
  | [], _ :: _, h, _ => by cases h
  | _ :: _, [], _, h => by cases h
  | x :: a, y :: b, h1, h2 => by
    rw [HT.lexLt_cons] at h1 h2
    by_cases e : x = y
    · rw [if_pos e] at h1
      rw [if_pos e.symm] at h2
      rw [e, lexLt_tri a b h1 h2]
    · rw [if_neg e, decide_eq_false_iff_not] at h1
      rw [if_neg (fun z => e z.symm), decide_eq_false_iff_not] at h2
      omega
/-- rows sorted: the same rows, ascending -/
theorem sortD_rows {α : Type} (f : α → List Int) (l : List α) (inj : ∀ a b, f a = f b → a = b) : ∃ m : List α, sortD (l.map fun a => intT (f a)) = m.map (fun a => intT (f a)) ∧ m.Perm l ∧ m.Pairwise (fun a b => HT.lexLt (f b) (f a) = false) := by
  have hp : (sortD (l.map fun a => intT (f a))).Perm (l.map fun a => intT (f a)) := List.mergeSort_perm _ _
  have hs : (sortD (l.map fun a => intT (f a))).Pairwise (fun a b => leD0 a b = true) := PySem.W.sort_pairwise le_total0 _
  obtain ⟨m, h1, h2⟩ : ∃ m : List α, m.Perm l ∧ m.map (fun a => intT (f a)) = sortD (l.map fun a => intT (f a)) := by
    have : ∀ (k : List D) (l : List α), k.Perm (l.map fun a => intT (f a)) → ∃ m : List α, m.Perm l ∧ m.map (fun a => intT (f a)) = k := by
      intro k
      induction k with
      | nil => intro l h; exact ⟨[], by rw [List.map_eq_nil_iff.mp h.symm.eq_nil], rfl⟩
      | cons x k ih =>
        intro l h
        have hx : x ∈ l.map fun a => intT (f a) := h.mem_iff.mp (List.mem_cons_self ..)
        obtain ⟨a, ha, rfl⟩ := List.mem_map.mp hx
        obtain ⟨s, t, rfl⟩ := List.append_of_mem ha
        have h' : k.Perm ((s ++ t).map fun a => intT (f a)) := by
          rw [List.map_append, List.map_cons] at h
          rw [List.map_append]
          exact (h.trans List.perm_middle).cons_inv
        obtain ⟨m, m1, m2⟩ := ih _ h'
        exact ⟨a :: m, (m1.cons a).trans List.perm_middle.symm, by rw [List.map_cons, m2]⟩
    exact this _ _ hp
  refine ⟨m, h2.symm, h1, ?_⟩
  rw [← h2, List.pairwise_map] at hs
  refine hs.imp fun {a b} h => ?_
  rw [le_intT] at h
  simpa using h
theorem sortD_rows_nd {α : Type} (f : α → List Int) (l : List α) (inj : ∀ a b, f a = f b → a = b) (nd : l.Nodup) : ∃ m : List α, sortD (l.map fun a => intT (f a)) = m.map (fun a => intT (f a)) ∧ m.Perm l ∧ m.Pairwise (fun a b => HT.lexLt (f a) (f b) = true) := by
  obtain ⟨m, h1, h2, h3⟩ := sortD_rows f l inj
  refine ⟨m, h1, h2, ?_⟩
  have nd2 : m.Nodup := h2.nodup_iff.mpr nd
  refine (h3.and nd2).imp fun {a b} ⟨x, y⟩ => ?_
  cases e : HT.lexLt (f a) (f b)
  · exact absurd (inj _ _ (lexLt_tri _ _ e x)) y
  · rfl
theorem alike_intT : ∀ a b : List Int, PySem.W.alike (intT a) (intT b) = true := fun a b => by
  show PySem.W.alikeAll _ _ = true
  exact PySem.W.alike_ints a b
theorem sortOk_rows {α : Type} (f : α → List Int) (l : List α) (h : ∀ a ∈ l, f a ≠ []) : sortOk (l.map fun a => intT (f a)) = true := by
  unfold sortOk
  have hpl : ∀ d ∈ l.map fun a => intT (f a), Pl 1 d := fun d hd => by
    obtain ⟨a, _, rfl⟩ := List.mem_map.mp hd
    exact Pl.intT 0 _
  simp only [Bool.and_eq_true, Bool.or_eq_true, List.all_eq_true, decide_eq_true_eq]
  refine ⟨⟨⟨layAll_iff.mpr fun d hd => (hpl d hd).lay, fun d hd => Nat.le_trans (hpl d hd).dp (by decide)⟩, fun d hd e he => ?_⟩, .inl fun d hd => ?_⟩
  · obtain ⟨a, _, rfl⟩ := List.mem_map.mp hd
    obtain ⟨b, _, rfl⟩ := List.mem_map.mp he
    exact alike_intT _ _
  · obtain ⟨a, ha, rfl⟩ := List.mem_map.mp hd
    have := h a ha
    cases e : f a with
    | nil => exact absurd e this
    | cons x r => rfl
theorem kL_inj (a b : Int × Int × Int) (h : kL a = kL b) : a = b := by
  obtain ⟨x, y, z⟩ := a
  obtain ⟨x', y', z'⟩ := b
  simpa [kL] using h
theorem sortD_kds (l : List (Int × Int × Int)) (nd : l.Nodup) : ∃ m : List (Int × Int × Int), sortD (l.map kd) = m.map kd ∧ m.Perm l ∧ m.Pairwise (fun a b => HT.lexLt (kL a) (kL b) = true) := sortD_rows_nd kL l kL_inj nd
theorem sortOk_kds (l : List (Int × Int × Int)) : sortOk (l.map kd) = true := sortOk_rows kL l fun a _ => by simp [kL]
section
variable {st s : Sto} {m n : Nat} {l : List D} {a d : D} {g : D → D → Option D} {us : List U} {r : D}
theorem gSorted_ref (e : st[m]? = some (.lst (l.map U.d))) (h : sortOk l = true) : gSorted [.ref m] st = .ok (.d (.list (sortD l))) st := by
  show (match (lstOf st (.ref m)).bind allD with
    | some ds => if sortOk ds = true then Res.ok (U.d (.list (sortD ds))) st else .bad
    | none => .bad) = _
  have : lstOf st (.ref m) = some (l.map U.d) := by
    unfold lstOf
    dsimp only
    rw [e]
  rw [this, Option.bind_some, allD_mapd]
  dsimp only
  rw [if_pos h]
theorem gSorted_lst (h : sortOk l = true) : gSorted [.d (.list l)] st = .ok (.d (.list (sortD l))) st := by
  show (match (lstOf st (.d (.list l))).bind allD with
    | some ds => if sortOk ds = true then Res.ok (U.d (.list (sortD ds))) st else .bad
    | none => .bad) = _
  rw [show lstOf st (.d (.list l)) = some (l.map U.d) from rfl, Option.bind_some, allD_mapd]
  dsimp only
  rw [if_pos h]
theorem gV_ref (e : st[m]? = some (.lst (l.map U.d))) (h : g a (.list l) = some r) (hr : scal r = true) : gV g (.d a) (.ref m) st = .ok (.d r) st := by
  show (match frz st 0 9 (.d a), frz st 0 9 (.ref m) with
    | some a, some b => (match g a b with
      | some r => if scal r = true then Res.ok (U.d r) st else .bad
      | none => .bad)
    | _, _ => .bad) = _
  rw [frz_d, frz_ref e 0 (Nat.zero_le _)]
  dsimp only
  rw [h]
  dsimp only
  rw [if_pos hr]
theorem run_setX {h : SemS} {x : Sto} (hs : Fl s) (hx : Fl (s ++ x)) (hl : s.length = st.length) (e : h (us.map some ++ List.replicate (n - us.length) none) st = .rt (.d d) (s ++ x)) : frzF (runF n h) us st = .ok (.d d) s := by
  unfold frzF runF
  rw [e]
  simp only [hasOwn, hx.own, and_self, if_true, frz_d]
  rw [← hl, List.take_left, if_pos (hs.lt _)]
end
theorem notInKdsL (k : Int × Int × Int) (l : List (Int × Int × Int)) : inD true (kd k) (.list (l.map kd)) = some (.bool (!decide (k ∈ l))) := by
  show (if shp (kd k) = true ∧ shp (.list (l.map kd)) = true then some (PyData.bool (if true = true then !(l.map kd).any fun z => PyData.eqv z (kd k) else (l.map kd).any fun z => PyData.eqv z (kd k))) else none) = _
  rw [if_pos ⟨(Pl.intT 0 _).shp (by decide), (Pl.lst (pl_kds l)).shp (by decide)⟩, if_pos rfl, any_kd]
end TT
set_option Elab.async false
set_option linter.all false
set_option maxRecDepth 100000
set_option maxHeartbeats 1000000
namespace TT
open PySem
/-! ## what may be shown -/
structure Nice (d : D) (n k : Nat) : Prop where
  lay : d.canLay0 = true
  sh : d.showable = true
  nd : d.hasDict = false
  len : d.shown.length ≤ n
  dp : d.depth ≤ k
structure NiceL (l : List D) (n k : Nat) : Prop where
  lay : PyData.canLayAll0 l = true
  sh : PyData.showableAll l = true
  nd : PyData.hasDictAll l = false
  len : ∀ t ∈ PyData.shownAll l, t.length ≤ n
  dp : PyData.depthAll l ≤ k
theorem Nice.mono {d : D} {m n k j : Nat} (h : Nice d m k) (hm : m ≤ n) (hk : k ≤ j) : Nice d n j := ⟨h.lay, h.sh, h.nd, Nat.le_trans h.len hm, Nat.le_trans h.dp hk⟩
theorem nice_none : Nice .none 10 0 := ⟨rfl, rfl, rfl, by decide +kernel, by decide +kernel⟩
theorem nice_bool (b : Bool) : Nice (.bool b) 10 0 := ⟨rfl, rfl, rfl, by cases b <;> decide +kernel, by cases b <;> decide +kernel⟩
theorem nice_int {i : Int} (h : -1000 < i ∧ i < 1000) : Nice (.int i) 10 0 := by
  have q : ∀ k < 2000, (PyData.int ((k : Nat) - 1000)).showable = true ∧ (PyData.int ((k : Nat) - 1000)).shown.length ≤ 10 := by decide +kernel
  have := q (i + 1000).toNat (by omega)
  rw [show (((i + 1000).toNat : Nat) : Int) - 1000 = i from by omega] at this
  exact ⟨rfl, this.1, rfl, this.2, Nat.zero_le _⟩
theorem niceL_of {n k : Nat} : ∀ {l : List D}, (∀ d ∈ l, Nice d n k) → NiceL l n k
  | [], _ => ⟨rfl, rfl, rfl, (fun t ht => nomatch ht), Nat.zero_le _⟩
  | d :: r, h => by
    have hd := h d (List.mem_cons_self ..)
    have hr := niceL_of (l := r) fun z hz => h z (List.mem_cons_of_mem _ hz)
    refine ⟨?_, ?_, ?_, fun t ht => ?_, ?_⟩
    · show (PyData.canLay0 d && PyData.canLayAll0 r) = true
      rw [hd.lay, hr.lay]; rfl
    · show (PyData.showable d && PyData.showableAll r) = true
      rw [hd.sh, hr.sh]; rfl
    · show (PyData.hasDict d || PyData.hasDictAll r) = false
      rw [hd.nd, hr.nd]; rfl
    · rcases List.mem_cons.mp (show t ∈ PyData.shown d :: PyData.shownAll r from ht) with e | e
      · rw [e]; exact hd.len
      · exact hr.len t e
    · show max (PyData.depth d) (PyData.depthAll r) ≤ k
      exact Nat.max_le.mpr ⟨hd.dp, hr.dp⟩
theorem shownAll_len : ∀ l : List D, (PyData.shownAll l).length = l.length
  | [] => rfl
  | d :: r => by
    show (PyData.shown d :: PyData.shownAll r).length = _
    rw [List.length_cons, List.length_cons, shownAll_len r]
theorem textFrom_le {n : Nat} : ∀ (ts : List Str) (k : Nat) (acc : Str), (∀ t ∈ ts, t.length ≤ n) → (textFrom k acc ts).length ≤ acc.length + ts.length * (n + 2)
  | [], k, acc, _ => by show acc.length ≤ _; omega
  | t :: r, k, acc, h => by
    have h1 := h t (List.mem_cons_self ..)
    have ih := textFrom_le r (k + 1) (acc ++ (if k > 0 then ", " else "" : String) ++ t) fun z hz => h z (List.mem_cons_of_mem _ hz)
    have e : (((if k > 0 then ", " else "" : String) : String) : Str).length ≤ 2 := by
      split <;> decide +kernel
    rw [Str.length_append, Str.length_append] at ih
    show (textFrom (k + 1) (acc ++ (if k > 0 then ", " else "" : String) ++ t) r).length ≤ _
    rw [List.length_cons, Nat.succ_mul]
    omega
theorem nice_list {l : List D} {n k m : Nat} (h : ∀ d ∈ l, Nice d n k) (hm : l.length ≤ m) : Nice (.list l) (m * (n + 2) + 2) (k + 1) := by
  have q := niceL_of h
  refine ⟨q.lay, q.sh, q.nd, ?_, ?_⟩
  · show (textFrom 0 "[" (PyData.shownAll l) ++ "]").length ≤ _
    have t := textFrom_le (PyData.shownAll l) 0 "[" q.len
    rw [shownAll_len] at t
    have e1 : ("[" : Str).length = 1 := by decide +kernel
    have e2 : ("]" : Str).length = 1 := by decide +kernel
    have e3 : l.length * (n + 2) ≤ m * (n + 2) := Nat.mul_le_mul_right _ hm
    rw [Str.length_append]
    omega
  · show PyData.depthAll l + 1 ≤ k + 1
    have := q.dp
    omega
theorem join_le {n : Nat} {y : Str} : ∀ ts : List Str, (∀ t ∈ ts, t.length ≤ n) → (Str.join y ts).length ≤ ts.length * (n + y.length)
  | [], _ => Nat.zero_le _
  | [t], h => by
    have := h t (List.mem_cons_self ..)
    show t.length ≤ 1 * (n + y.length)
    omega
  | t :: u :: r, h => by
    have h1 := h t (List.mem_cons_self ..)
    have ih := join_le (y := y) (u :: r) fun z hz => h z (List.mem_cons_of_mem _ hz)
    have e : Str.join y (t :: u :: r) = t ++ y ++ Str.join y (u :: r) := rfl
    rw [e, Str.length_append, Str.length_append, List.length_cons, Nat.succ_mul]
    omega
theorem nice_tuple {l : List D} {n k m : Nat} (h : ∀ d ∈ l, Nice d n k) (hm : l.length ≤ m) : Nice (.tuple l) (m * (n + 2) + 4) (k + 1) := by
  have q := niceL_of h
  refine ⟨q.lay, q.sh, q.nd, ?_, ?_⟩
  · show (("(" : Str) ++ Str.join ", " (PyData.shownAll l) ++ (if (PyData.shownAll l).length == 1 then ",)" else ")" : String)).length ≤ _
    have t := join_le (y := ", ") (PyData.shownAll l) q.len
    rw [shownAll_len] at t
    have e1 : ("(" : Str).length = 1 := by decide +kernel
    have e2 : (", " : Str).length = 2 := by decide +kernel
    have e4 : (((if (PyData.shownAll l).length == 1 then ",)" else ")" : String) : String) : Str).length ≤ 2 := by
      split <;> decide +kernel
    rw [e2] at t
    have e3 : l.length * (n + 2) ≤ m * (n + 2) := Nat.mul_le_mul_right _ hm
    rw [Str.length_append, Str.length_append]
    omega
  · show PyData.depthAll l + 1 ≤ k + 1
    have := q.dp
    omega
theorem Nice.pl {d : D} {n k : Nat} (h : Nice d n k) : Pl k d := ⟨h.lay, h.dp⟩
theorem nice_ints {l : List Int} {m : Nat} (h : ∀ i ∈ l, -1000 < i ∧ i < 1000) (hm : l.length ≤ m) : Nice (intT l) (m * 12 + 4) 1 :=
  nice_tuple (n := 10) (k := 0) (fun d hd => by
    obtain ⟨i, hi, rfl⟩ := List.mem_map.mp hd
    exact nice_int (h i hi)) (by rw [List.length_map]; exact hm)
theorem nice_intL {l : List Int} {m : Nat} (h : ∀ i ∈ l, -1000 < i ∧ i < 1000) (hm : l.length ≤ m) : Nice (.list (l.map .int)) (m * 12 + 2) 1 :=
  nice_list (n := 10) (k := 0) (fun d hd => by
    obtain ⟨i, hi, rfl⟩ := List.mem_map.mp hd
    exact nice_int (h i hi)) (by rw [List.length_map]; exact hm)
section
variable {st : Sto}
theorem repr_lst {l : List D} {n k : Nat} (h : Nice (.list l) n k) (hn : n ≤ 1000000) (hk : k < 100) : gRepr [.d (.list l)] st = .ok (.d (.str (PyData.shown (.list l)))) st := by
  refine if_pos ⟨h.lay, h.sh, h.nd, ?_, ?_, rfl⟩
  · have := h.len
    rw [sizeLine_eq]
    omega
  · have := h.dp
    omega
theorem eqD_strs (x y : Str) : eqD (.str x) (.str y) = some (.bool (decide (x = y))) := by
  unfold eqD
  split
  · simp only [PyData.eqv]
    by_cases h : x = y
    · simp [h]
    · simp [h]
  · rfl
theorem eqS_refl (s : Str) : eqD (.str s) (.str s) = some (.bool true) := by rw [eqD_strs]; simp
theorem nice_lit {s : Str} {n : Nat} (h : (PyData.str s).canLay0 = true) (h2 : (PyData.str s).shown.length ≤ n) : Nice (.str s) n 0 := ⟨h, rfl, rfl, h2, Nat.zero_le _⟩
@[simp] theorem reprV_d {d : D} : gReprV [.d d] st = gRepr [.d d] st := rfl
theorem reprV_ref {l : List D} {n : Nat} (h : st[n]? = some (.lst (l.map U.d))) : gReprV [.ref n] st = gRepr [.d (.list l)] st := by
  unfold gReprV
  dsimp only
  rw [frz_ref h 0 (Nat.zero_le _)]
end
end TT
namespace TT
open PySem
section
variable {st s : Sto} {en e : Nv} {fb : SemS} {hs : List HdM} {ap : U → SemF} {i : Nat} {fs : SemA} {l : List D} {x : D} {z : Str}
theorem mTry_ok {e : Nv} (h : fb en st = .nx e s) : mTry fb hs en st = .nx e s := by unfold mTry; rw [h]
theorem mTry_exn {c : Str} {u : Option U} {e : Nv} (h : fb en st = .exn c u e s) : mTry fb hs en st = runHs hs c u e s := by unfold mTry; rw [h]
@[simp] theorem mulL_2 : mulD (.list [x]) (.int 2) = some (.list [x, x]) := by
  exact (if_pos ⟨by decide, by decide, le_size (by simp)⟩ : (if 0 ≤ (2 : Int) ∧ (2 : Int) ≤ 1000 ∧ [x].length * (2 : Int).toNat ≤ sizeLine then some (PyData.list (List.replicate (2 : Int).toNat [x]).flatten) else none) = _)
@[simp] theorem add_ll {a b : List D} (h : a.length + b.length ≤ 1000000) : addD (.list a) (.list b) = some (.list (a ++ b)) := by
  unfold addD
  exact if_pos (le_size h)
@[simp] theorem add_tt {a b : List D} (h : a.length + b.length ≤ 1000000) : addD (.tuple a) (.tuple b) = some (.tuple (a ++ b)) := by
  unfold addD
  exact if_pos (le_size h)
end
end TT
namespace TT
open PySem
section
variable {st : Sto} {en e : Nv} {g : SemG} {bd : SemS} {chk : Sto → Bool}
/-- a loop that appends to the one list, by a bound -/
theorem for_appB (B : Nat) {E : Nv} (k : D → List D) (M : Nat) (hk : ∀ acc, chk (st ++ [.lst acc]) = true) : ∀ l acc : List D, acc.length + l.length * M ≤ B → (∀ d ∈ l, (k d).length ≤ M ∧ ∀ acc : List D, acc.length ≤ B → turn g bd (.d d) E (st ++ [.lst (acc.map U.d)]) = .nx E (st ++ [.lst ((acc ++ k d).map U.d)])) →
    forL g bd chk (l.map U.d) E (st ++ [.lst (acc.map U.d)]) = .nx E (st ++ [.lst ((acc ++ l.flatMap k).map U.d)])
  | [], acc, _, _ => by rw [List.map_nil, forL_nil (hk _)]; simp
  | d :: l, acc, hz, h => by
    rw [List.length_cons, Nat.succ_mul] at hz
    obtain ⟨h1, h2⟩ := h d (List.mem_cons_self ..)
    rw [List.map_cons, forL_cons (hk _), h2 acc (by omega)]
    dsimp only
    rw [for_appB B k M hk l (acc ++ k d) (by rw [List.length_append]; omega) fun d hd => h d (List.mem_cons_of_mem _ hd)]
    simp
end
end TT
namespace TT
open PySem
section
variable {st : Sto} {l : List D} {m : Nat}
theorem gTuple_ref (h : st[m]? = some (.lst (l.map U.d))) : gTuple [.ref m] st = .ok (.d (.tuple l)) st := by
  have e : lstOf st (.ref m) = some (l.map U.d) := by
    unfold lstOf
    dsimp only
    rw [h]
  show (match (lstOf st (.ref m)).bind allD with
    | some l => Res.ok (U.d (.tuple l)) st
    | none => .bad) = _
  rw [e, Option.bind_some, allD_mapd]
end
end TT
namespace TT
open PySem
/-- a def's end where what it gives back stays a list that changes -/
theorem run_raw {g : SemS} {us : List U} {st s : Sto} {n m : Nat} (hs : Fl s) (h : g (us.map some ++ List.replicate (n - us.length) none) st = .rt (.ref m) s) : runF n g us st = .ok (.ref m) s := by
  unfold runF
  rw [h]
  simp [hs.own]
end TT
namespace TT
open PySem
section
variable {st : Sto} {en : Nv} {p js : List Nat} {f g : SemA} {kc : Nat} {us : List U}
@[simp] theorem mPerm_e : mPerm p f g en st = (f en st).bind fun us st => (g en st).bind fun ws st => .ok (permL p (us ++ ws)) st := rfl
theorem lam_e (h : capOf en js = some us) (h2 : hasCloL us = false) : mLam kc js en st = .ok (.clo (!js.isEmpty) kc us) st := by
  unfold mLam
  rw [h]
  exact if_pos h2
end
end TT
namespace TT
open PySem
section
variable {st : Sto} {en e : Nv} {g : SemG} {bd : SemS} {chk : Sto → Bool}
/-- a loop that leaves all as it was -/
theorem for_same (hk : chk st = true) : ∀ l : List D, (∀ d ∈ l, turn g bd (.d d) en st = .nx en st) → forL g bd chk (l.map U.d) en st = .nx en st
  | [], _ => forL_nil hk
  | d :: l, h => by
    rw [List.map_cons, forL_cons hk, h d (List.mem_cons_self ..)]
    exact for_same hk l fun d hd => h d (List.mem_cons_of_mem _ hd)
theorem mRef_1 {f : SemE} {s : Sto} {d : D} (h : f en st = .ok (.d d) s) : mRef (mCons f mNil) en st = .ok (.ref s.length) (s ++ [.lst ([d].map U.d)]) := by
  rw [mRef_e, mCons_e, h, bind_ok, mNil_e, bind_ok, bind_ok, if_pos (le_size (by simp))]
  rfl
/-- append, as a statement -/
theorem app_e {fo fe : SemE} {acc : List D} {x : D} {s : Sto} (ho : fo en st = .ok (.ref s.length) st) (hl : st = s ++ [.lst (acc.map U.d)]) (hf : fe en st = .ok (.d x) st) (h : acc.length < 1000000) : mExpr (mML gAppend fo fe) en st = .nx en (s ++ [.lst ((acc ++ [x]).map U.d)]) := by
  have il : isLst st (.ref s.length) = true := by rw [hl]; exact isLst_ref last_at
  rw [mExpr_e, mML_e, ho, bind_ok, if_pos il, hf, bind_ok, hl, append_e h, toS_ok]
end
theorem School.stands_isSt {S : School} {p : Int × Int} (h : p ∈ S.stands) : S.isSt p = true := by
  unfold School.stands School.notes at h
  obtain ⟨a, ha, h⟩ := List.mem_flatMap.mp h
  obtain ⟨b, hb, rfl⟩ := List.mem_map.mp h
  rw [List.mem_filter] at hb
  have h1 := mem_intR.mp ha
  have h2 := mem_intR.mp hb.1
  have h3 := of_decide_eq_true hb.2
  unfold School.isSt inRI
  have e1 : a ≤ S.high := by omega
  have e2 : b ≤ S.high := by omega
  simp [h1.1, h2.1, e1, e2, h3]
theorem School.isSt_r {S : School} {p : Int × Int} (h : S.isSt p = true) : (0 ≤ p.1 ∧ p.1 ≤ S.high) ∧ (0 ≤ p.2 ∧ p.2 ≤ S.high) := by
  unfold School.isSt inRI at h
  simp only [Bool.and_eq_true, decide_eq_true_eq] at h
  exact h.1
theorem nice_mv {m : Int × Int × Int × Int} (h1 : -1000 < m.1 ∧ m.1 < 1000) (h2 : -1000 < m.2.1 ∧ m.2.1 < 1000) (h3 : -1000 < m.2.2.1 ∧ m.2.2.1 < 1000) (h4 : -1000 < m.2.2.2 ∧ m.2.2.2 < 1000) : Nice (mv m) 94 2 := by
  refine nice_tuple (n := 28) (k := 1) (m := 3) (fun d hd => ?_) (Nat.le_refl _)
  simp only [List.mem_cons, List.not_mem_nil, or_false] at hd
  rcases hd with rfl | rfl | rfl
  · exact (nice_int h1).mono (by decide) (by decide)
  · exact (nice_int h2).mono (by decide) (by decide)
  · exact nice_ints (l := [m.2.2.1, m.2.2.2]) (m := 2) (fun i hi => by
      simp only [List.mem_cons, List.not_mem_nil, or_false] at hi
      rcases hi with rfl | rfl
      · exact h3
      · exact h4) (Nat.le_refl _)
theorem School.Ok.nice_moves {S : School} (ok : S.Ok) (p : Int × Int) : Nice (.tuple ((S.moves p).map mv)) 3364 3 := by
  have h8 := ok.h8
  obtain ⟨_, sl, sr, _⟩ := numsOk.mp ok.steps
  obtain ⟨_, ol, or_, _⟩ := numsOk.mp ok.other
  refine nice_tuple (n := 94) (k := 2) (m := 35) (fun d hd => ?_) ?_
  · obtain ⟨m, hm, rfl⟩ := List.mem_map.mp hd
    unfold School.moves School.movesBy at hm
    obtain ⟨s, hs, hm⟩ := List.mem_flatMap.mp hm
    obtain ⟨q, hq, rfl⟩ := List.mem_map.mp hm
    obtain ⟨z, hz, rfl⟩ := List.mem_map.mp hq
    rw [List.mem_filter] at hz
    have := School.isSt_r (Bool.and_eq_true_iff.mp hz.2).1
    have := sr s hs
    have := or_ z hz.1
    exact nice_mv (by dsimp only; omega) (by dsimp only; omega) (by dsimp only at *; omega) (by dsimp only at *; omega)
  · rw [List.length_map]
    unfold School.moves
    have : ∀ l : List Int, (l.flatMap fun step => (S.movesBy p step).map fun m => (step, m)).length ≤ l.length * 7 := by
      intro l
      induction l with
      | nil => simp
      | cons a l ih =>
        rw [List.flatMap_cons, List.length_append, List.length_map, List.length_cons, Nat.succ_mul]
        have : (S.movesBy p a).length ≤ 7 := by
          unfold School.movesBy
          rw [List.length_map]
          exact Nat.le_trans (List.length_filter_le _ _) ol
        omega
    have := this S.steps
    omega
theorem asc_len : ∀ (l : List Int) (lo hi : Int), l.Pairwise (· < ·) → (∀ i ∈ l, lo ≤ i ∧ i ≤ hi) → l.length ≤ (hi - lo + 1).toNat
  | [], _, _, _, _ => Nat.zero_le _
  | a :: l, lo, hi, hp, hr => by
    have h := List.pairwise_cons.mp hp
    have ha := hr a (List.mem_cons_self ..)
    have := asc_len l (a + 1) hi h.2 fun i hi' => ⟨by have := h.1 i hi'; omega, (hr i (List.mem_cons_of_mem _ hi')).2⟩
    rw [List.length_cons]
    omega
theorem School.Ok.nice_parts {S : School} (ok : S.Ok) : ∀ d ∈ [PyData.int S.high, intT S.steps, intT S.other, intT S.gaps, .tuple (S.bars.map kd), intT S.begin_, intT S.end_], Nice d 1000 2 := by
  have h1 := ok.h1
  have h8 := ok.h8
  obtain ⟨_, sl, sr, _⟩ := numsOk.mp ok.steps
  obtain ⟨_, ol, or_, _⟩ := numsOk.mp ok.other
  obtain ⟨_, gl, gr, _⟩ := numsOk.mp ok.gaps
  obtain ⟨bl, bm, _⟩ := barsOk.mp ok.bars
  obtain ⟨_, ep, em⟩ := someOk.mp ok.beg
  obtain ⟨_, fp, fm⟩ := someOk.mp ok.fin
  have sub : ∀ l : List Int, l.Pairwise (· < ·) → (∀ i ∈ l, -8 ≤ i ∧ i ≤ 8) → l.length ≤ 17 := fun l hp hr => asc_len l (-8) 8 hp hr
  intro d hd
  simp only [List.mem_cons, List.not_mem_nil, or_false] at hd
  rcases hd with rfl | rfl | rfl | rfl | rfl | rfl | rfl
  · exact (nice_int (by omega)).mono (by decide) (by decide)
  · exact (nice_ints (fun i hi => by have := sr i hi; omega) sl).mono (by decide) (by decide)
  · exact (nice_ints (fun i hi => by have := or_ i hi; omega) ol).mono (by decide) (by decide)
  · exact (nice_ints (fun i hi => by have := gr i hi; omega) gl).mono (by decide) (by decide)
  · refine (nice_tuple (n := 40) (k := 1) (m := 20) (fun d hd => ?_) (by rw [List.length_map]; exact bl)).mono (by decide) (by decide)
    obtain ⟨k, hk, rfl⟩ := List.mem_map.mp hd
    have := bm k hk
    have := gr _ this.1
    have := sr _ (bm k hk).2.1
    have := or_ _ (bm k hk).2.2
    exact nice_ints (m := 3) (fun i hi => by
      simp only [List.mem_cons, List.not_mem_nil, or_false] at hi
      rcases hi with rfl | rfl | rfl <;> omega) (Nat.le_refl _)
  · exact (nice_ints (fun i hi => by have := gr _ (em i hi); omega) (sub _ ep fun i hi => by have := gr _ (em i hi); omega)).mono (by decide) (by decide)
  · exact (nice_ints (fun i hi => by have := gr _ (fm i hi); omega) (sub _ fp fun i hi => by have := gr _ (fm i hi); omega)).mono (by decide) (by decide)
end TT
namespace TT
open PySem
section
variable {en : Nv} {fe : SemE} {g : SemG} {chk : Sto → Bool} {fi : SemI} {vs : List Nat}
/-- a comprehension whose laps change the store -/
theorem lcL_st (I : Sto → Prop) (Q : D → Prop) (hk : ∀ st, I st → chk st = true) : ∀ (l acc : List D) (st : Sto), I st → (∀ d ∈ l, ∀ st, I st → ∃ en1 v st', g (.d d) en st = .nx en1 st ∧ fe en1 st = .ok (.d v) st' ∧ I st' ∧ Q v) →
    ∃ (r : List D) (st' : Sto), lcL g (fun _ st => .ok true st) fe chk en (l.map U.d) (acc.map U.d) st = .ok ((acc ++ r).map U.d) st' ∧ I st' ∧ r.length = l.length ∧ ∀ v ∈ r, Q v
  | [], acc, st, h, _ => ⟨[], st, by
    show (if chk st = true then Res.ok (acc.map U.d) st else .bad) = _
    rw [if_pos (hk st h)]; simp, h, rfl, fun _ z => nomatch z⟩
  | d :: l, acc, st, h, hs => by
    obtain ⟨en1, v, st1, e1, e2, h1, q⟩ := hs d (List.mem_cons_self ..) st h
    obtain ⟨r, st2, e3, h2, hl, hq⟩ := lcL_st I Q hk l (acc ++ [v]) st1 h1 fun d hd => hs d (List.mem_cons_of_mem _ hd)
    refine ⟨v :: r, st2, ?_, h2, by rw [List.length_cons, hl, List.length_cons], fun w hw => ?_⟩
    · show (if chk st = true then (match g (.d d) en st with
    | .nx en1 st1 => (match Res.ok true st1 with
      | .ok b st2 => if b = true then (match fe en1 st2 with
          | .ok y st3 => lcL g (fun _ st => .ok true st) fe chk en (l.map U.d) (acc.map U.d ++ [y]) st3
          | _ => .bad)
        else lcL g (fun _ st => .ok true st) fe chk en (l.map U.d) (acc.map U.d) st2
      | _ => .bad)
    | _ => .bad) else .bad) = _
      rw [if_pos (hk st h), e1]
      dsimp only
      rw [if_pos rfl, e2]
      dsimp only
      have e : acc.map U.d ++ [U.d v] = (acc ++ [v]).map U.d := by simp
      rw [e, e3, List.append_assoc]
      rfl
    · rcases List.mem_cons.mp hw with rfl | hw
      · exact q
      · exact hq w hw
theorem mLc_st {st st1 : Sto} {l : List D} (I : Sto → Prop) (Q : D → Prop) (hi : fi en st = .ok (l.map U.d, chk) st) (ho : enOwn en = false) (hso : stOwn st = false) (hk : ∀ st, I st → chk st = true) (h : I st) (hs : ∀ d ∈ l, ∀ st, I st → ∃ en1 v st', g (.d d) (wipeN en vs) st = .nx en1 st ∧ fe en1 st = .ok (.d v) st' ∧ I st' ∧ Q v) :
    ∃ (r : List D) (st' : Sto), mLc fi vs g (fun _ st => .ok true st) fe en st = .ok (.d (.list r)) st' ∧ I st' ∧ r.length = l.length ∧ ∀ v ∈ r, Q v := by
  obtain ⟨r, st', e, h1, h2, h3⟩ := lcL_st (g := g) (fe := fe) (en := wipeN en vs) I Q hk l [] st h hs
  refine ⟨r, st', ?_, h1, h2, h3⟩
  unfold mLc
  rw [hi, bind_ok, if_pos ⟨ho, hso⟩]
  rw [List.map_nil] at e
  dsimp only
  rw [e, bind_ok, List.nil_append, allD_mapd]
theorem all_true {st : Sto} {r : List D} (h : ∀ v ∈ r, v = .bool true) : gAllL [.d (.list r)] st = .ok (.d (.bool true)) st := by
  have e : r = (List.replicate r.length true).map PyData.bool := by
    rw [List.map_replicate]
    exact List.eq_replicate_iff.mpr ⟨rfl, h⟩
  rw [e, gAllL_bools]
  simp
end
end TT
set_option Elab.async false
set_option linter.all false
set_option maxRecDepth 100000
set_option maxHeartbeats 1000000
/-! sets, plainly -/
namespace TT
open PySem
section
variable {en : Nv} {st : Sto} {fa fb fc f : SemE} {g g' : U → U → Sto → Res U} {l : List D}
@[simp] theorem mChainU_e : mChainU g g' fa fb fc en st = (fa en st).bind fun u st => (fb en st).bind fun w st => (g u w st).bind fun c st => match c with
  | .d (.bool true) => (fc en st).bind fun z st => g' w z st
  | .d (.bool false) => .ok (.d (.bool false)) st
  | _ => .bad := rfl
@[simp] theorem mRevT_e : mRevT f en st = (f en st).bind fun u st => match u with
  | .d (.tuple l) => .ok (.d (.tuple l.reverse)) st
  | _ => .bad := rfl
end
theorem len_sub {α : Type} [DecidableEq α] : ∀ (l m : List α), l.Nodup → (∀ a ∈ l, a ∈ m) → l.length ≤ m.length
  | [], _, _, _ => Nat.zero_le _
  | a :: l, m, nd, h => by
    have nd := List.nodup_cons.mp nd
    have ha := h a (List.mem_cons_self ..)
    have := len_sub l (m.erase a) nd.2 fun b hb => by
      have hb2 := h b (List.mem_cons_of_mem _ hb)
      have ne : b ≠ a := fun e => nd.1 (e ▸ hb)
      exact (List.mem_erase_of_ne ne).mpr hb2
    rw [List.length_erase_of_mem ha] at this
    have : 0 < m.length := List.length_pos_of_mem ha
    rw [List.length_cons]
    omega
theorem setI_pw (ns : List Int) : (setI ns).Pairwise (· < ·) := by
  unfold setI
  have h1 := List.pairwise_mergeSort (le := fun a b : Int => decide (a ≤ b)) (fun a b c h1 h2 => by simp at *; omega) (fun a b => by simp; omega) (dd ns)
  have h2 : ((dd ns).mergeSort fun a b => decide (a ≤ b)).Nodup := (List.mergeSort_perm _ _).nodup_iff.mpr (nodup_dd ns)
  exact (h1.and h2).imp fun {a b} ⟨x, y⟩ => by
    have : a ≤ b := by simpa using x
    omega
theorem setI_asc (ns : List Int) : decide (setI ns = ns) = ascI ns := by
  rw [Bool.eq_iff_iff, decide_eq_true_eq, ascI_iff]
  constructor
  · intro h
    rw [← h]
    exact setI_pw ns
  · intro h
    exact (setI_eq h fun _ => Iff.rfl).symm
theorem sset_ints {st : Sto} {ns : List Int} (h : ns.length < 64) : gSortedSet [.d (.tuple (ns.map .int))] st = .ok (.d (.list ((setI ns).map .int))) st := by
  show (match intsOf (ns.map PyData.int) with
    | some ns => if ns.length < 64 then Res.ok (U.d (.list ((setI ns).map .int))) st else .bad
    | none => gSetT (ns.map .int) st) = _
  rw [intsOf_map]
  exact if_pos h
theorem rowsD_map : ∀ ks : List (List Int), rowsD (ks.map tI) = some ks
  | [] => rfl
  | k :: ks => by
    show (match intsOf (k.map PyData.int), rowsD (ks.map tI) with
    | some k, some ks => some (k :: ks)
    | _, _ => none) = _
    rw [intsOf_map, rowsD_map ks]
theorem gSetT_rows {st : Sto} {ks : List (List Int)} (h : ks.length < 64) (ne : ∀ k ∈ ks, k ≠ []) : gSetT (ks.map tI) st = .ok (.d (.list (setR ks))) st := by
  unfold gSetT
  rw [rowsD_map]
  dsimp only
  rw [if_pos ⟨h, List.all_eq_true.mpr fun k hk => by
    have := ne k hk
    cases k with
    | nil => exact absurd rfl this
    | cons a r => rfl⟩]
theorem sset_rows {st : Sto} {ks : List (List Int)} (h : ks.length < 64) (ne : ∀ k ∈ ks, k ≠ []) (h0 : ks ≠ []) : gSortedSet [.d (.tuple (ks.map tI))] st = .ok (.d (.list (setR ks))) st := by
  obtain ⟨k, r, rfl⟩ : ∃ k r, ks = k :: r := by
    cases ks with
    | nil => exact absurd rfl h0
    | cons k r => exact ⟨k, r, rfl⟩
  show (match intsOf ((k :: r).map tI) with
    | some ns => if ns.length < 64 then Res.ok (U.d (.list ((setI ns).map .int))) st else .bad
    | none => gSetT ((k :: r).map tI) st) = _
  exact gSetT_rows h ne
theorem setR_spec (ks : List (List Int)) : ∃ ms : List (List Int), setR ks = ms.map tI ∧ ms.Nodup ∧ (∀ k, k ∈ ms ↔ k ∈ ks) ∧ ms.Pairwise (fun a b => HT.lexLt a b = true) := by
  obtain ⟨m, h1, h2, h3⟩ := sortD_rows_nd (fun k : List Int => k) (dd ks) (fun _ _ h => h) (nodup_dd ks)
  exact ⟨m, h1, h2.nodup_iff.mpr (nodup_dd ks), fun k => by rw [h2.mem_iff, mem_dd], h3⟩
theorem eqv_tIs : ∀ a b : List (List Int), PyData.eqvAll (a.map tI) (b.map tI) = decide (a = b)
  | [], [] => by simp [PyData.eqvAll]
  | [], _ :: _ => by simp [PyData.eqvAll]
  | _ :: _, [] => by simp [PyData.eqvAll]
  | x :: a, y :: b => by
    have e : PyData.eqv (tI x) (tI y) = decide (x = y) := eqv_ints x y
    simp only [List.map_cons, PyData.eqvAll, e, eqv_tIs a b]
    by_cases h : x = y <;> by_cases h2 : a = b <;> simp [h, h2]
theorem pl_tIs (a : List (List Int)) : Pl 2 (.list (a.map tI)) := Pl.lst fun d hd => by
  obtain ⟨k, _, rfl⟩ := List.mem_map.mp hd
  exact Pl.intT 0 k
/-- sorted once each: whether that is what stood there -/
theorem setR_asc (ks : List (List Int)) : eqD (.list (setR ks)) (.list (ks.map tI)) = some (.bool (decide (ks.Pairwise fun a b => HT.lexLt a b = true))) := by
  obtain ⟨ms, h1, h2, h3, h4⟩ := setR_spec ks
  rw [h1, eqD_pl (pl_tIs ms) (pl_tIs ks) (by decide) (by decide)]
  rw [show PyData.eqv (.list (ms.map tI)) (.list (ks.map tI)) = PyData.eqvAll (ms.map tI) (ks.map tI) from by simp [PyData.eqv], eqv_tIs]
  congr 2
  rw [decide_eq_decide]
  constructor
  · intro e
    rw [← e]
    exact h4
  · intro h
    have nd : ks.Nodup := h.imp fun {a b} h e => by
      rw [e, lexLt_irrefl] at h
      cases h
    have pm : ms.Perm ks := (List.perm_ext_iff_of_nodup h2 nd).mpr h3
    refine List.Perm.eq_of_pairwise (le := fun a b : List Int => HT.lexLt a b = true) (fun a b _ _ x y => ?_) h4 h pm
    have := lexLt_trans x y
    rw [lexLt_irrefl] at this
    cases this
theorem setI_eqD (ns : List Int) : eqD (.list ((setI ns).map .int)) (.list (ns.map .int)) = some (.bool (ascI ns)) := by
  have pl : ∀ l : List Int, Pl 1 (.list (l.map .int)) := fun l => Pl.lst fun d hd => by
    obtain ⟨i, _, rfl⟩ := List.mem_map.mp hd
    exact Pl.int 0 i
  rw [eqD_pl (pl _) (pl _) (by decide) (by decide), show PyData.eqv (.list ((setI ns).map .int)) (.list (ns.map .int)) = PyData.eqvAll ((setI ns).map .int) (ns.map .int) from by simp [PyData.eqv], eqvAll_ints, setI_asc]
/-- some of numbers that are, are numbers that may be -/
theorem some_nums {high : Int} {iv : List Int} {v : D} (h : areNums 9 high (intT iv) = true) (h2 : areSome iv v = true) : areNums 9 high v = true := by
  obtain ⟨i0, il, ir, ip⟩ := numsOk.mp h
  obtain ⟨ns, rfl, n0, na, nm⟩ := areSome_true.mp h2
  have np := (ascI_iff _).mp na
  have nd : ns.Nodup := np.imp fun h => by omega
  exact numsOk.mpr ⟨n0, Nat.le_trans (len_sub ns iv nd nm) il, fun i hi => ir i (nm i hi), np⟩
theorem isSchool_S {v : D} (h : isSchool v = true) : ∃ S : School, S.Ok ∧ v = S.d := by
  unfold isSchool at h
  split at h
  · rename_i high s s2 iv bars bg en
    simp only [Bool.and_eq_true] at h
    obtain ⟨⟨⟨⟨⟨⟨h0, h1⟩, h2⟩, h3⟩, h4⟩, h5⟩, h6⟩ := h
    obtain ⟨a, rfl, _⟩ := areNums_true.mp h1
    obtain ⟨b, rfl, _⟩ := areNums_true.mp h2
    obtain ⟨c, rfl, _⟩ := areNums_true.mp h3
    rw [numsD_intT, numsD_intT, numsD_intT] at h4
    rw [numsD_intT] at h5 h6
    obtain ⟨ks, rfl, _⟩ := wrBars.mp h4
    obtain ⟨f1, rfl, _⟩ := areSome_true.mp h5
    obtain ⟨f2, rfl, _⟩ := areSome_true.mp h6
    unfold inRI at h0
    simp only [Bool.and_eq_true, decide_eq_true_eq] at h0
    exact ⟨⟨high, a, b, c, ks, f1, f2⟩, ⟨h0.1, h0.2, h1, h2, h3, h4, h5, h6⟩, rfl⟩
  · cases h
end TT
set_option Elab.async false
set_option linter.all false
set_option maxRecDepth 100000
set_option maxHeartbeats 1000000
/-! how long a value's text is -/
namespace TT
open PySem
def Ln (d : D) : Nat := d.shown.length
def Sm (l : List D) : Nat := (l.map fun d => Ln d + 2).sum
@[simp] theorem Sm_nil : Sm [] = 0 := rfl
@[simp] theorem Sm_cons (d : D) (l : List D) : Sm (d :: l) = Ln d + 2 + Sm l := by simp [Sm]
@[simp] theorem Sm_app (a b : List D) : Sm (a ++ b) = Sm a + Sm b := by simp [Sm]
theorem Sm_sub {a b : List D} (h : a.Sublist b) : Sm a ≤ Sm b := by
  induction h with
  | slnil => exact Nat.le_refl _
  | cons a _ ih => rw [Sm_cons]; omega
  | cons_cons a _ ih => rw [Sm_cons, Sm_cons]; omega
theorem Sm_perm {a b : List D} (h : a.Perm b) : Sm a = Sm b := by
  unfold Sm
  exact (h.map _).sum_nat
theorem Sm_len (l : List D) : l.length ≤ Sm l := by
  induction l with
  | nil => exact Nat.le_refl _
  | cons d l ih => rw [List.length_cons, Sm_cons]; omega
theorem join_len : ∀ l : List D, (Str.join ", " (PyData.shownAll l)).length + 2 ≤ Sm l + 2 ∧ Sm l ≤ (Str.join ", " (PyData.shownAll l)).length + 2
  | [] => ⟨Nat.le_refl _, by rw [Sm_nil]; omega⟩
  | [d] => by
    rw [Sm_cons, Sm_nil]
    have : (Str.join ", " (PyData.shownAll [d])).length = Ln d := rfl
    omega
  | d :: e :: l => by
    have ih := join_len (e :: l)
    have q : Str.join ", " (PyData.shownAll (d :: e :: l)) = d.shown ++ ", " ++ Str.join ", " (PyData.shownAll (e :: l)) := rfl
    have e2 : (", " : Str).length = 2 := by decide +kernel
    rw [q, Str.length_append, Str.length_append, e2, Sm_cons]
    have : d.shown.length = Ln d := rfl
    omega
theorem Ln_tup (l : List D) : Ln (.tuple l) ≤ Sm l + 4 ∧ Sm l ≤ Ln (.tuple l) := by
  have h := join_len l
  have e1 : ("(" : Str).length = 1 := by decide +kernel
  have e4 : (((if (PyData.shownAll l).length == 1 then ",)" else ")" : String) : String) : Str).length ≤ 2 ∧ 1 ≤ (((if (PyData.shownAll l).length == 1 then ",)" else ")" : String) : String) : Str).length := by
    split <;> decide +kernel
  have q : Ln (.tuple l) = (("(" : Str) ++ Str.join ", " (PyData.shownAll l) ++ (if (PyData.shownAll l).length == 1 then ",)" else ")" : String)).length := rfl
  rw [q, Str.length_append, Str.length_append]
  omega
theorem from_len : ∀ (l : List D) (k : Nat) (acc : Str), (textFrom k acc (PyData.shownAll l)).length ≤ acc.length + Sm l
  | [], k, acc => Nat.le_refl _
  | d :: l, k, acc => by
    have ih := from_len l (k + 1) (acc ++ (if k > 0 then ", " else "" : String) ++ d.shown)
    have e : (((if k > 0 then ", " else "" : String) : String) : Str).length ≤ 2 := by
      split <;> decide +kernel
    rw [Str.length_append, Str.length_append] at ih
    have q : textFrom k acc (PyData.shownAll (d :: l)) = textFrom (k + 1) (acc ++ (if k > 0 then ", " else "" : String) ++ d.shown) (PyData.shownAll l) := rfl
    rw [q, Sm_cons]
    have : d.shown.length = Ln d := rfl
    omega
theorem Ln_lst (l : List D) : Ln (.list l) ≤ Sm l + 2 := by
  have h := from_len l 0 "["
  have e1 : ("[" : Str).length = 1 := by decide +kernel
  have e2 : ("]" : Str).length = 1 := by decide +kernel
  have q : Ln (.list l) = (textFrom 0 "[" (PyData.shownAll l) ++ "]").length := rfl
  rw [q, Str.length_append]
  omega
/-- may be shown, whatever its length -/
structure Sx (k : Nat) (d : D) : Prop where
  lay : d.canLay0 = true
  sh : d.showable = true
  nd : d.hasDict = false
  dp : d.depth ≤ k
theorem Sx.mono {k j : Nat} {d : D} (h : Sx k d) (hk : k ≤ j) : Sx j d := ⟨h.lay, h.sh, h.nd, Nat.le_trans h.dp hk⟩
theorem Sx.pl {k : Nat} {d : D} (h : Sx k d) : Pl k d := ⟨h.lay, h.dp⟩
theorem Nice.sx {d : D} {n k : Nat} (h : Nice d n k) : Sx k d := ⟨h.lay, h.sh, h.nd, h.dp⟩
theorem Sx.nice {d : D} {n k : Nat} (h : Sx k d) (hn : Ln d ≤ n) : Nice d n k := ⟨h.lay, h.sh, h.nd, hn, h.dp⟩
theorem showAll_iff : ∀ {l : List D}, PyData.showableAll l = true ↔ ∀ d ∈ l, d.showable = true
  | [] => by simp [PyData.showableAll]
  | x :: r => by simp [PyData.showableAll, showAll_iff (l := r)]
theorem noDictAll_iff : ∀ {l : List D}, PyData.hasDictAll l = false ↔ ∀ d ∈ l, d.hasDict = false
  | [] => by simp [PyData.hasDictAll]
  | x :: r => by simp [PyData.hasDictAll, noDictAll_iff (l := r)]
theorem Sx.tup {k : Nat} {l : List D} (h : ∀ d ∈ l, Sx k d) : Sx (k + 1) (.tuple l) := by
  have p : Pl (k + 1) (.tuple l) := Pl.tup fun d hd => (h d hd).pl
  exact ⟨p.lay, by rw [PyData.showable]; exact showAll_iff.mpr fun d hd => (h d hd).sh, by rw [PyData.hasDict]; exact noDictAll_iff.mpr fun d hd => (h d hd).nd, p.dp⟩
theorem Sx.lst {k : Nat} {l : List D} (h : ∀ d ∈ l, Sx k d) : Sx (k + 1) (.list l) := by
  have p : Pl (k + 1) (.list l) := Pl.lst fun d hd => (h d hd).pl
  exact ⟨p.lay, by rw [PyData.showable]; exact showAll_iff.mpr fun d hd => (h d hd).sh, by rw [PyData.hasDict]; exact noDictAll_iff.mpr fun d hd => (h d hd).nd, p.dp⟩
theorem Sx.mem {k : Nat} {l : List D} (h : Sx (k + 1) (.tuple l)) : ∀ d ∈ l, Sx k d := fun d hd => by
  have p := Pl.tup_mem h.pl d hd
  have h1 := h.sh
  have h2 := h.nd
  rw [PyData.showable] at h1
  rw [PyData.hasDict] at h2
  exact ⟨p.lay, showAll_iff.mp h1 d hd, noDictAll_iff.mp h2 d hd, p.dp⟩
theorem Sx.mem0 {k : Nat} {l : List D} (h : Sx k (.tuple l)) (hl : l ≠ []) : ∃ j, k = j + 1 := by
  cases k with
  | zero => exact absurd h.dp (by simp [PyData.depth])
  | succ j => exact ⟨j, rfl⟩
theorem cutL_sub {α : Type} (l : List α) (a b : Option Int) : (cutL l a b).Sublist l := by
  unfold cutL
  exact (List.take_sublist _ _).trans (List.drop_sublist _ _)
end TT
set_option Elab.async false
set_option linter.all false
set_option maxRecDepth 100000
set_option maxHeartbeats 4000000
/-! k02: the functions of its defs, and that the defs are these functions. Printed by gen.py. -/
namespace K02
open PySem PySem.Spec PyProof.Rows L2 LamX NdefX TT
def top (i : Nat) : Stmt := PySem.Challenge.pw_plainvoices_k02_whole_schools_judged.main.body.getD i (.Pass ⟨0, 0, 0, 0⟩)
abbrev s_is_whole : Stmt := top 4
abbrev s_is_number : Stmt := top 5
abbrev s_is_tuple_of : Stmt := top 6
abbrev s_is_ascending : Stmt := top 7
abbrev s_wrong_at : Stmt := top 8
abbrev s_wrong_from_one : Stmt := top 9
abbrev s_are_numbers : Stmt := top 17
abbrev s_are_some_of : Stmt := top 18
abbrev s_is_kind_of : Stmt := top 19
abbrev s_are_bars : Stmt := top 20
abbrev s_is_school_form : Stmt := top 21
abbrev s_notes_of : Stmt := top 22
abbrev s_standings_of : Stmt := top 23
abbrev s_check_school : Stmt := top 25
abbrev s_is_school : Stmt := top 27
abbrev s_standings : Stmt := top 28
abbrev s__law_well : Stmt := top 30
abbrev s__law_draw : Stmt := top 31
abbrev s__law_of : Stmt := top 32
abbrev s__law_unlike : Stmt := top 33
abbrev s__law_is : Stmt := top 34
abbrev s__law_near : Stmt := top 35
abbrev s__law_school : Stmt := top 36
abbrev s__law_is_number : Stmt := top 37
abbrev s__law_are_numbers : Stmt := top 38
abbrev s__law_is_school : Stmt := top 39
abbrev s__law_bent : Stmt := top 40
abbrev s__law_edges : Stmt := top 41
abbrev s__law_told : Stmt := top 42
abbrev s__law_right : Stmt := top 43
abbrev s_law : Stmt := top 44
abbrev s_InvalidSchool : Stmt := sAt (top 2) [0]
def c_0 : CodeI := ⟨"<lambda>", "are_numbers.<locals>.<lambda>", lamA (seAt s_are_numbers [0] [0, 0, 3] 0), .expr (lamB (seAt s_are_numbers [0] [0, 0, 3] 0)), lamSc (defScope s_are_numbers) (seAt s_are_numbers [0] [0, 0, 3] 0), ["high"]⟩
def c_1 : CodeI := ⟨"is_right", "are_bars.<locals>.is_right", defArgs (sAt s_are_bars [1]), .stmts (defBody (sAt s_are_bars [1])), defScope (sAt s_are_bars [1]), ["steps", "steps2", "intervals"]⟩
def c_2 : CodeI := ⟨"<lambda>", "_law_right.<locals>.<lambda>", lamA (seAt s__law_right [0, 3, 2] [0, 1] 0), .expr (lamB (seAt s__law_right [0, 3, 2] [0, 1] 0)), lamSc (defScope s__law_right) (seAt s__law_right [0, 3, 2] [0, 1] 0), ["value"]⟩
def c_3 : CodeI := ⟨"<lambda>", "_law_right.<locals>.<lambda>", lamA (seAt s__law_right [0, 3, 3] [1, 1] 0), .expr (lamB (seAt s__law_right [0, 3, 3] [1, 1] 0)), lamSc (defScope s__law_right) (seAt s__law_right [0, 3, 3] [1, 1] 0), ["value"]⟩
def tb (K : PySem.W.Frag) (x : Str) : Addr := He.tabOf K (He.codeOf K (x, none))
abbrev nm_are_numbers : Nat → Nat → Str := fun _ _ => "are_numbers.<locals>.<lambda>"
abbrev nm_are_bars : Nat → Nat → Str := fun _ _ => "are_bars.<locals>.is_right"
abbrev nm__law_right : Nat → Nat → Str := fun _ _ => "_law_right.<locals>.<lambda>"
def gd (K : PySem.W.Frag) : Gd where
  K := K
  fnA := fun _ => none
  clsA := fun x => if x = "InvalidSchool" then some (He.ga K "InvalidSchool") else none
  clsF := fun x => if x = "InvalidSchool" then "given" else ""
  cod := fun k => match k with
    | 0 => some c_0
    | 1 => some c_1
    | 2 => some c_2
    | 3 => some c_3
    | _ => none
  T := [(tb K "are_numbers", nm_are_numbers), (tb K "are_bars", nm_are_bars), (tb K "_law_right", nm__law_right)]
/-- what the head leaves -/
structure Fx (K : PySem.W.Frag) (mg : Str → Option Value) (base : Heap) : Prop where
  g_is_whole : mg "is_whole" = some (.ref (He.ga K "is_whole"))
  d_is_whole : ∃ fd, Fun K "is_whole" "is_whole" s_is_whole (He.ga K "is_whole") fd
  g_is_number : mg "is_number" = some (.ref (He.ga K "is_number"))
  d_is_number : ∃ fd, Fun K "is_number" "is_number" s_is_number (He.ga K "is_number") fd
  g_is_tuple_of : mg "is_tuple_of" = some (.ref (He.ga K "is_tuple_of"))
  d_is_tuple_of : ∃ fd, Fun K "is_tuple_of" "is_tuple_of" s_is_tuple_of (He.ga K "is_tuple_of") fd
  g_is_ascending : mg "is_ascending" = some (.ref (He.ga K "is_ascending"))
  d_is_ascending : ∃ fd, Fun K "is_ascending" "is_ascending" s_is_ascending (He.ga K "is_ascending") fd
  g_wrong_at : mg "wrong_at" = some (.ref (He.ga K "wrong_at"))
  d_wrong_at : ∃ fd, Fun K "wrong_at" "wrong_at" s_wrong_at (He.ga K "wrong_at") fd
  g_wrong_from_one : mg "wrong_from_one" = some (.ref (He.ga K "wrong_from_one"))
  d_wrong_from_one : ∃ fd, Fun K "wrong_from_one" "wrong_from_one" s_wrong_from_one (He.ga K "wrong_from_one") fd
  g_are_numbers : mg "are_numbers" = some (.ref (He.ga K "are_numbers"))
  d_are_numbers : ∃ fd, Fun K "are_numbers" "are_numbers" s_are_numbers (He.ga K "are_numbers") fd
  g_are_some_of : mg "are_some_of" = some (.ref (He.ga K "are_some_of"))
  d_are_some_of : ∃ fd, Fun K "are_some_of" "are_some_of" s_are_some_of (He.ga K "are_some_of") fd
  g_is_kind_of : mg "is_kind_of" = some (.ref (He.ga K "is_kind_of"))
  d_is_kind_of : ∃ fd, Fun K "is_kind_of" "is_kind_of" s_is_kind_of (He.ga K "is_kind_of") fd
  g_are_bars : mg "are_bars" = some (.ref (He.ga K "are_bars"))
  d_are_bars : ∃ fd, Fun K "are_bars" "are_bars" s_are_bars (He.ga K "are_bars") fd
  g_is_school_form : mg "is_school_form" = some (.ref (He.ga K "is_school_form"))
  d_is_school_form : ∃ fd, Fun K "is_school_form" "is_school_form" s_is_school_form (He.ga K "is_school_form") fd
  g_notes_of : mg "notes_of" = some (.ref (He.ga K "notes_of"))
  d_notes_of : ∃ fd, Fun K "notes_of" "notes_of" s_notes_of (He.ga K "notes_of") fd
  g_standings_of : mg "standings_of" = some (.ref (He.ga K "standings_of"))
  d_standings_of : ∃ fd, Fun K "standings_of" "standings_of" s_standings_of (He.ga K "standings_of") fd
  g_check_school : mg "check_school" = some (.ref (He.ga K "check_school"))
  d_check_school : ∃ fd, Fun K "check_school" "check_school" s_check_school (He.ga K "check_school") fd
  g_is_school : mg "is_school" = some (.ref (He.ga K "is_school"))
  d_is_school : ∃ fd, Fun K "is_school" "is_school" s_is_school (He.ga K "is_school") fd
  g_standings : mg "standings" = some (.ref (He.ga K "standings"))
  d_standings : ∃ fd, Fun K "standings" "standings" s_standings (He.ga K "standings") fd
  g__law_well : mg "_law_well" = some (.ref (He.ga K "_law_well"))
  d__law_well : ∃ fd, Fun K "_law_well" "_law_well" s__law_well (He.ga K "_law_well") fd
  g__law_draw : mg "_law_draw" = some (.ref (He.ga K "_law_draw"))
  d__law_draw : ∃ fd, Fun K "_law_draw" "_law_draw" s__law_draw (He.ga K "_law_draw") fd
  g__law_of : mg "_law_of" = some (.ref (He.ga K "_law_of"))
  d__law_of : ∃ fd, Fun K "_law_of" "_law_of" s__law_of (He.ga K "_law_of") fd
  g__law_unlike : mg "_law_unlike" = some (.ref (He.ga K "_law_unlike"))
  d__law_unlike : ∃ fd, Fun K "_law_unlike" "_law_unlike" s__law_unlike (He.ga K "_law_unlike") fd
  g__law_is : mg "_law_is" = some (.ref (He.ga K "_law_is"))
  d__law_is : ∃ fd, Fun K "_law_is" "_law_is" s__law_is (He.ga K "_law_is") fd
  g__law_near : mg "_law_near" = some (.ref (He.ga K "_law_near"))
  d__law_near : ∃ fd, Fun K "_law_near" "_law_near" s__law_near (He.ga K "_law_near") fd
  g__law_school : mg "_law_school" = some (.ref (He.ga K "_law_school"))
  d__law_school : ∃ fd, Fun K "_law_school" "_law_school" s__law_school (He.ga K "_law_school") fd
  g__law_is_number : mg "_law_is_number" = some (.ref (He.ga K "_law_is_number"))
  d__law_is_number : ∃ fd, Fun K "_law_is_number" "_law_is_number" s__law_is_number (He.ga K "_law_is_number") fd
  g__law_are_numbers : mg "_law_are_numbers" = some (.ref (He.ga K "_law_are_numbers"))
  d__law_are_numbers : ∃ fd, Fun K "_law_are_numbers" "_law_are_numbers" s__law_are_numbers (He.ga K "_law_are_numbers") fd
  g__law_is_school : mg "_law_is_school" = some (.ref (He.ga K "_law_is_school"))
  d__law_is_school : ∃ fd, Fun K "_law_is_school" "_law_is_school" s__law_is_school (He.ga K "_law_is_school") fd
  g__law_bent : mg "_law_bent" = some (.ref (He.ga K "_law_bent"))
  d__law_bent : ∃ fd, Fun K "_law_bent" "_law_bent" s__law_bent (He.ga K "_law_bent") fd
  g__law_edges : mg "_law_edges" = some (.ref (He.ga K "_law_edges"))
  d__law_edges : ∃ fd, Fun K "_law_edges" "_law_edges" s__law_edges (He.ga K "_law_edges") fd
  g__law_told : mg "_law_told" = some (.ref (He.ga K "_law_told"))
  d__law_told : ∃ fd, Fun K "_law_told" "_law_told" s__law_told (He.ga K "_law_told") fd
  g__law_right : mg "_law_right" = some (.ref (He.ga K "_law_right"))
  d__law_right : ∃ fd, Fun K "_law_right" "_law_right" s__law_right (He.ga K "_law_right") fd
  g_law : mg "law" = some (.ref (He.ga K "law"))
  d_law : ∃ fd, Fun K "law" "law" s_law (He.ga K "law") fd
  t_are_numbers : TabB base mg (He.codeOf K ("are_numbers", none)) (tb K "are_numbers")
  t_are_bars : TabB base mg (He.codeOf K ("are_bars", none)) (tb K "are_bars")
  t__law_right : TabB base mg (He.codeOf K ("_law_right", none)) (tb K "_law_right")
  c_MOST_HIGH : ∃ t, mg "MOST_HIGH" = some (.int 8 t)
  c_MOST_STEPS : ∃ t, mg "MOST_STEPS" = some (.int 5 t)
  c_MOST_STEPS2 : ∃ t, mg "MOST_STEPS2" = some (.int 7 t)
  c_MOST_INTERVALS : ∃ t, mg "MOST_INTERVALS" = some (.int 9 t)
  c_MOST_BARRED : ∃ t, mg "MOST_BARRED" = some (.int 20 t)
  c_PARTS : ∃ t, mg "PARTS" = some (.int 7 t)
  n_abs : mg "abs" = none
  n_all : mg "all" = none
  n_bool : mg "bool" = none
  n_divmod : mg "divmod" = none
  n_enumerate : mg "enumerate" = none
  n_int : mg "int" = none
  n_isinstance : mg "isinstance" = none
  n_len : mg "len" = none
  n_list : mg "list" = none
  n_max : mg "max" = none
  n_min : mg "min" = none
  n_range : mg "range" = none
  n_repr : mg "repr" = none
  n_set : mg "set" = none
  n_sorted : mg "sorted" = none
  n_tuple : mg "tuple" = none
  n_zip : mg "zip" = none
  g_InvalidSchool : mg "InvalidSchool" = some (.ref (He.ga K "InvalidSchool"))
  e_InvalidSchool : OexC K (He.ga K "InvalidSchool")
  xf_InvalidSchool : XfC K (He.ga K "InvalidSchool")
  iC_InvalidSchool : PySem.W.findIn K (.ref (He.ga K "InvalidSchool")) "__init__" = some (some (.ref (He.ma K (He.ga K "InvalidSchool") "__init__")))
  tI_InvalidSchool : PySem.W.typeIn K (.ref (He.ma K (He.ga K "InvalidSchool") "__init__")) = some (.type "function")
  no_InvalidSchool : PySem.W.findIn K (.ref (He.ga K "InvalidSchool")) "given" = some none
  d_InvalidSchool : ∃ fd, Fun K "__init__" "InvalidSchool.__init__" s_InvalidSchool (He.ma K (He.ga K "InvalidSchool") "__init__") fd
  m_InvalidSchool_InvalidSchool : PySem.W.exmOne K (.ref (He.ga K "InvalidSchool")) (.ref (He.ga K "InvalidSchool")) = some true
  ne_are_numbers_are_bars : tb K "are_numbers" ≠ tb K "are_bars"
  ne_are_numbers__law_right : tb K "are_numbers" ≠ tb K "_law_right"
  ne_are_bars__law_right : tb K "are_bars" ≠ tb K "_law_right"
section
variable {P : Program} {w : World} {K : PySem.W.Frag} {mg : Str → Option Value} {base : Heap}
theorem b_abs : bootBuiltins "abs" = some (.builtin "abs") := by decide +kernel
theorem b_all : bootBuiltins "all" = some (.builtin "all") := by decide +kernel
theorem b_bool : bootBuiltins "bool" = some (.type "bool") := by decide +kernel
theorem b_divmod : bootBuiltins "divmod" = some (.builtin "divmod") := by decide +kernel
theorem b_enumerate : bootBuiltins "enumerate" = some (.type "enumerate") := by decide +kernel
theorem b_int : bootBuiltins "int" = some (.type "int") := by decide +kernel
theorem b_isinstance : bootBuiltins "isinstance" = some (.builtin "isinstance") := by decide +kernel
theorem b_len : bootBuiltins "len" = some (.builtin "len") := by decide +kernel
theorem b_list : bootBuiltins "list" = some (.type "list") := by decide +kernel
theorem b_max : bootBuiltins "max" = some (.builtin "max") := by decide +kernel
theorem b_min : bootBuiltins "min" = some (.builtin "min") := by decide +kernel
theorem b_range : bootBuiltins "range" = some (.type "range") := by decide +kernel
theorem b_repr : bootBuiltins "repr" = some (.builtin "repr") := by decide +kernel
theorem b_set : bootBuiltins "set" = some (.type "set") := by decide +kernel
theorem b_sorted : bootBuiltins "sorted" = some (.builtin "sorted") := by decide +kernel
theorem b_tuple : bootBuiltins "tuple" = some (.type "tuple") := by decide +kernel
theorem b_zip : bootBuiltins "zip" = some (.type "zip") := by decide +kernel
theorem gd_fns (x : Fx K mg base) : ∀ y a, (gd K).fnA y = some a → ∀ h, K.In h → PySem.W.FnAt a h := fun y a h => nomatch h
theorem tm_are_numbers : (tb K "are_numbers", nm_are_numbers) ∈ (gd K).T := List.mem_cons_self
theorem hu_are_numbers (x : Fx K mg base) : ∀ p ∈ (gd K).T, p.1 = tb K "are_numbers" → p.2 = nm_are_numbers := by
  intro p hp h
  rcases List.mem_cons.mp hp with e | hp
  · rw [e]
  rcases List.mem_cons.mp hp with e | hp
  · rw [e] at h; exact absurd h.symm x.ne_are_numbers_are_bars
  rcases List.mem_cons.mp hp with e | hp
  · rw [e] at h; exact absurd h.symm x.ne_are_numbers__law_right
  cases hp
theorem tm_are_bars : (tb K "are_bars", nm_are_bars) ∈ (gd K).T := List.mem_cons_of_mem _ (List.mem_cons_self)
theorem hu_are_bars (x : Fx K mg base) : ∀ p ∈ (gd K).T, p.1 = tb K "are_bars" → p.2 = nm_are_bars := by
  intro p hp h
  rcases List.mem_cons.mp hp with e | hp
  · rw [e] at h; exact absurd h x.ne_are_numbers_are_bars
  rcases List.mem_cons.mp hp with e | hp
  · rw [e]
  rcases List.mem_cons.mp hp with e | hp
  · rw [e] at h; exact absurd h.symm x.ne_are_bars__law_right
  cases hp
theorem tm__law_right : (tb K "_law_right", nm__law_right) ∈ (gd K).T := List.mem_cons_of_mem _ (List.mem_cons_of_mem _ (List.mem_cons_self))
theorem hu__law_right (x : Fx K mg base) : ∀ p ∈ (gd K).T, p.1 = tb K "_law_right" → p.2 = nm__law_right := by
  intro p hp h
  rcases List.mem_cons.mp hp with e | hp
  · rw [e] at h; exact absurd h x.ne_are_numbers__law_right
  rcases List.mem_cons.mp hp with e | hp
  · rw [e] at h; exact absurd h x.ne_are_bars__law_right
  rcases List.mem_cons.mp hp with e | hp
  · rw [e]
  cases hp
theorem si_InvalidSchool : FnScope ["self", "given"] ["self", "given"] (defScope s_InvalidSchool) := ⟨rfl, rfl, rfl, by decide +kernel, rfl, by decide +kernel, by decide +kernel⟩
theorem init_InvalidSchool (x : Fx K mg base) {fd : FuncData} (F : Fun K "__init__" "InvalidSchool.__init__" s_InvalidSchool (He.ma K (He.ga K "InvalidSchool") "__init__") fd) : FnOk P w K mg base (L2.CX P w) 1 (He.ma K (He.ga K "InvalidSchool") "__init__") fd ["self", "given"] (initSp K "given") :=
  init_ok F si_InvalidSchool rfl rfl rfl (Or.inl rfl) (Or.inl rfl) (fun _ => rfl) (by decide) (by decide) (by decide) (by decide)
theorem bind_InvalidSchool (x : Fx K mg base) {fd : FuncData} (F : Fun K "__init__" "InvalidSchool.__init__" s_InvalidSchool (He.ma K (He.ga K "InvalidSchool") "__init__") fd) : Binds K fd ["self", "given"] [] := F.binds (fun _ _ _ _ _ _ us hl => match us, hl with | [_, _], _ => rfl)
def mt_InvalidSchool : Str → Option Bool := fun c => if c = "InvalidSchool" then some true else none
theorem hm_InvalidSchool (x : Fx K mg base) : ∀ cn C b, (gd K).clsA cn = some C → mt_InvalidSchool cn = some b → PySem.W.exmOne K (.ref C) (.ref (He.ga K "InvalidSchool")) = some b := by
  intro cn C b h1 h2
  unfold mt_InvalidSchool at h2
  simp only [gd] at h1
  by_cases e_InvalidSchool : cn = "InvalidSchool"
  · rw [if_pos e_InvalidSchool] at h1 h2; cases h1; cases h2; exact x.m_InvalidSchool_InvalidSchool
  rw [if_neg e_InvalidSchool] at h1 h2
  cases h1
theorem hx_InvalidSchool (x : Fx K mg base) : ∀ cn C, (gd K).clsA cn = some C → mt_InvalidSchool cn = some true → XfC K C ∧ PySem.W.findIn K (.ref C) "given" = some none ∧ (gd K).clsF cn = "given" := by
  intro cn C h1 h2
  unfold mt_InvalidSchool at h2
  simp only [gd] at h1 ⊢
  by_cases e_InvalidSchool : cn = "InvalidSchool"
  · rw [if_pos e_InvalidSchool] at h1; cases h1; subst e_InvalidSchool; exact ⟨x.xf_InvalidSchool, x.no_InvalidSchool, rfl⟩
  rw [if_neg e_InvalidSchool] at h1 h2
  cases h1
def f_is_whole : SemS :=
  (mRet (mAndV (mIs "int" (mVar 0)) (mNotV (mIs "bool" (mVar 0)))))
def F_is_whole : SemF := frzF (runF 1 (f_is_whole))
theorem sc_is_whole : FnScope ["value"] ["value"] (defScope s_is_whole) := ⟨rfl, rfl, rfl, by decide +kernel, rfl, by decide +kernel, by decide +kernel⟩
theorem ok_is_whole (x : Fx K mg base) : DefS P w K mg base (gd K) (1) "is_whole" s_is_whole ["value"] (F_is_whole) :=
  (def_okS x.d_is_whole x.g_is_whole sc_is_whole (by decide +kernel) (fun _ _ _ _ _ _ us hl => match us, hl with | [_], _ => rfl) (fun cdv A outer s H E hcd hr X hX tk hp cn => by
    subst hX
    have ND := sc_is_whole.nd
    exact (sl_one (ss_ret (se_and (se_is (T := "int") (by decide) rfl (se_var 0 rfl (Or.inl rfl)) rfl x.n_isinstance b_isinstance rfl x.n_int b_int) (se_one (se_not (se_is (T := "bool") (by decide) rfl (se_var 0 rfl (Or.inl rfl)) rfl x.n_isinstance b_isinstance rfl x.n_bool b_bool)))))))).frz
def f_is_number : SemS :=
  (mSeq (mIfS (mOrT (mNotT (mTru (mCall F_is_whole (mCons (mVar 0) mNil)))) (mAndT (mTst (mOp (gIsN true) (mVar 1) (mC .none))) (mTst (mOp (gD2 ltD) (mVar 0) (mVar 1))))) (mRet (mC (.bool false))) mNext)
    (mRet (mOrV (mOp (gIsN false) (mVar 2) (mC .none)) (mOp (gD2 leD) (mVar 0) (mVar 2)))))
def F_is_number : SemF := frzF (runF 3 (f_is_number))
theorem sc_is_number : FnScope ["value", "low", "high"] ["value", "low", "high"] (defScope s_is_number) := ⟨rfl, rfl, rfl, by decide +kernel, rfl, by decide +kernel, by decide +kernel⟩
theorem ok_is_number (x : Fx K mg base) : DefS P w K mg base (gd K) (2) "is_number" s_is_number ["value", "low", "high"] (F_is_number) :=
  (def_okS x.d_is_number x.g_is_number sc_is_number (by decide +kernel) (fun _ _ _ _ _ _ us hl => match us, hl with | [_, _, _], _ => rfl) (fun cdv A outer s H E hcd hr X hX tk hp cn => by
    subst hX
    have ND := sc_is_number.nd
    exact (sl_cons (ss_if (st_of (sw_or (st_not (st_val rfl (se_callS (ok_is_whole x) hr (by decide) rfl tk rfl (sa_cons (se_var 0 rfl (Or.inl rfl)) sa_nil) (mCons_len (fun _ _ _ _ h => mNil_len h))))) (sw_or1 (st_of (sw_and (st_notN (se_var 1 rfl (Or.inl rfl)) se_none) (sw_and1 (st_lt rfl hr.room (se_var 0 rfl (Or.inl rfl)) (se_var 1 rfl (Or.inl rfl))))))))) (sl_one (ss_ret se_bool)) sl_nil)
    (sl_one (ss_ret (se_or (se_isN (se_var 2 rfl (Or.inl rfl)) se_none) (se_one (se_le rfl hr.room (se_var 0 rfl (Or.inl rfl)) (se_var 2 rfl (Or.inl rfl)))))))))).frz
def f_is_tuple_of : SemS :=
  (mRet (mAndV (mIs "tuple" (mVar 0)) (mOp (gV eqD) (mCB gLen (mCons (mVar 0) mNil)) (mVar 1))))
def F_is_tuple_of : SemF := frzF (runF 2 (f_is_tuple_of))
theorem sc_is_tuple_of : FnScope ["value", "length"] ["value", "length"] (defScope s_is_tuple_of) := ⟨rfl, rfl, rfl, by decide +kernel, rfl, by decide +kernel, by decide +kernel⟩
theorem ok_is_tuple_of (x : Fx K mg base) : DefS P w K mg base (gd K) (1) "is_tuple_of" s_is_tuple_of ["value", "length"] (F_is_tuple_of) :=
  (def_okS x.d_is_tuple_of x.g_is_tuple_of sc_is_tuple_of (by decide +kernel) (fun _ _ _ _ _ _ us hl => match us, hl with | [_, _], _ => rfl) (fun cdv A outer s H E hcd hr X hX tk hp cn => by
    subst hX
    have ND := sc_is_tuple_of.nd
    exact (sl_one (ss_ret (se_and (se_is (T := "tuple") (by decide) rfl (se_var 0 rfl (Or.inl rfl)) rfl x.n_isinstance b_isinstance rfl x.n_tuple b_tuple) (se_one (se_eqV rfl hr.room (se_callB call_len cs_len rfl x.n_len b_len (sa_cons (se_var 0 rfl (Or.inl rfl)) sa_nil)) (se_var 1 rfl (Or.inl rfl))))))))).frz
def e_is_ascending_0 : SemE :=
  (mOp (gD2 ltD) (mVar 1) (mVar 2))
def tc_is_ascending_0 : SemG :=
  (mGTup 2 (mGConsW (mG 1) (mGConsW (mG 2) mGNil)))
def c_is_ascending_0 : SemE :=
  (mLc (mZip (mVar 0) (mSl (mVar 0) (mPart (mC (.int 1))) mNoPart)) [1, 2] tc_is_ascending_0 (fun _ st => .ok true st) e_is_ascending_0)
def f_is_ascending : SemS :=
  (mRet (mCB gAllL (mCons c_is_ascending_0 mNil)))
def F_is_ascending : SemF := frzF (runF 3 (f_is_ascending))
theorem sc_is_ascending : FnScope ["value", "one", "two"] ["value"] (defScope s_is_ascending) := ⟨rfl, rfl, rfl, by decide +kernel, rfl, by decide +kernel, by decide +kernel⟩
theorem ok_is_ascending (x : Fx K mg base) : DefS P w K mg base (gd K) (1) "is_ascending" s_is_ascending ["value"] (F_is_ascending) :=
  (def_okS x.d_is_ascending x.g_is_ascending sc_is_ascending (by decide +kernel) (fun _ _ _ _ _ _ us hl => match us, hl with | [_], _ => rfl) (fun cdv A outer s H E hcd hr X hX tk hp cn => by
    subst hX
    have ND := sc_is_ascending.nd
    exact (sl_one (ss_ret (se_callB (cr_all rfl) cs_all rfl x.n_all b_all (sa_cons (se_lc (own := [("one", 1), ("two", 2)]) rfl ND (si_zip rfl rfl x.n_zip (se_var 0 rfl (Or.inl rfl)) (se_sl rfl (se_var 0 rfl (Or.inl rfl)) (so_some se_int) so_none)) (blkOk_by (by kernel_rfl)) (fun s_ H_ C_ cl_ fp_ => (wg_tup rfl rfl (wgs_cons (wg_name (i := 1) (by decide) ND rfl (Or.inl rfl)) (wgs_cons (wg_name (i := 2) (by decide) ND rfl (Or.inl rfl)) wgs_nil)))) (fun s_ H_ C_ cl_ fp_ => sts_nil) (fun s_ H_ C_ cl_ fp_ => (se_lt rfl hr.room (se_var 1 rfl (Or.inl rfl)) (se_var 2 rfl (Or.inl rfl))))) sa_nil)))))).frz
def b_wrong_at_0 (ap : U → SemF) : SemS :=
  (mWipe [3, 4] (mIfS (mOrT (mAndT (mTst (mOp (gIsN true) (mVar 1) (mC .none))) (mTst (mOp (gD2 geD) (mVar 3) (mVar 1)))) (mNotT (mTru (mCallV ap 2 (mCons (mVar 4) (mCons (mSl (mVar 0) mNoPart (mPart (mVar 3))) mNil)))))) (mRet (mLst (mCons (mVar 3) mNil))) mNext))
def t_wrong_at_0 (ap : U → SemF) : SemG :=
  (mGTup 2 (fun us en st => if hasOwnL us.tail = false then mGCons (mG 3) (fun us en st => if hasOwnL us.tail = false then mGCons (mG 4) mGNil us en st else .bad) us en st else .bad))
def l_wrong_at_0 (ap : U → SemF) : SemS :=
  (mFor (mEnum (mVar 0)) (t_wrong_at_0 ap)
    (b_wrong_at_0 ap))
def f_wrong_at (ap : U → SemF) : SemS :=
  (mSeq (mIfS (mNotT (mTru (mIs "tuple" (mVar 0)))) (mRet (mLst (mCons (mC .none) mNil))) mNext)
    (mSeq (l_wrong_at_0 ap)
    (mRet (mLst mNil))))
def F_wrong_at (ap : U → SemF) : SemF := frzF (runF 5 (f_wrong_at ap))
theorem sc_wrong_at : FnScope ["value", "most", "is_right", "at", "each"] ["value", "most", "is_right"] (defScope s_wrong_at) := ⟨rfl, rfl, rfl, by decide +kernel, rfl, by decide +kernel, by decide +kernel⟩
theorem ok_wrong_at (x : Fx K mg base) {k0 : Nat} (ap : U → SemF) (hk : 0 ≤ k0) (hap : APOk P w K mg base (gd K) k0 ap) : DefS P w K mg base (gd K) (k0 + 0 + 1) "wrong_at" s_wrong_at ["value", "most", "is_right"] (F_wrong_at ap) :=
  (def_okS x.d_wrong_at x.g_wrong_at sc_wrong_at (by decide +kernel) (fun _ _ _ _ _ _ us hl => match us, hl with | [_, _, _], _ => rfl) (fun cdv A outer s H E hcd hr X hX tk hp cn => by
    subst hX
    have ND := sc_wrong_at.nd
    exact (sl_cons (ss_if (st_not (st_val rfl (se_is (T := "tuple") (by decide) rfl (se_var 0 rfl (Or.inl rfl)) rfl x.n_isinstance b_isinstance rfl x.n_tuple b_tuple))) (sl_one (ss_ret (se_lst (sa_cons se_none sa_nil)))) sl_nil)
    (sl_cons (ss_for hp rfl (si_enum rfl rfl x.n_enumerate (se_var 0 rfl (Or.inl rfl))) (sg_tup rfl rfl (sgs_cons (sg_name (i := 3) ND rfl (Or.inl rfl) (nc_def cn rfl rfl)) (sgs_cons (sg_name (i := 4) ND rfl (Or.inl rfl) (nc_def cn rfl rfl)) sgs_nil)))
    (sl_wipe [3, 4] (sl_one (ss_if (st_of (sw_or (st_of (sw_and (st_notN (se_var 1 rfl (Or.inl rfl)) se_none) (sw_and1 (st_ge rfl hr.room (se_var 3 rfl (Or.inl rfl)) (se_var 1 rfl (Or.inl rfl)))))) (sw_or1 (st_not (st_val rfl (se_callV (i := 2) (hap.mono (by omega)) hr tk rfl (Or.inl rfl) (sa_cons (se_var 4 rfl (Or.inl rfl)) (sa_cons (se_sl rfl (se_var 0 rfl (Or.inl rfl)) so_none (so_some (se_var 3 rfl (Or.inl rfl)))) sa_nil)))))))) (sl_one (ss_ret (se_lst (sa_cons (se_var 3 rfl (Or.inl rfl)) sa_nil)))) sl_nil))))
    (sl_one (ss_ret (se_lst sa_nil))))))).frz
def f_wrong_from_one (ap : U → SemF) : SemS :=
  (mRet (mIf (mAndT (mTru (mIs "tuple" (mVar 0))) (mTst (mOp (gV eqD) (mVar 0) (mTup mNil)))) (mLst (mCons (mC .none) mNil)) (mCall (F_wrong_at ap) (mCons (mVar 0) (mCons (mVar 1) (mCons (mVar 2) mNil))))))
def F_wrong_from_one (ap : U → SemF) : SemF := frzF (runF 3 (f_wrong_from_one ap))
theorem sc_wrong_from_one : FnScope ["value", "most", "is_right"] ["value", "most", "is_right"] (defScope s_wrong_from_one) := ⟨rfl, rfl, rfl, by decide +kernel, rfl, by decide +kernel, by decide +kernel⟩
theorem ok_wrong_from_one (x : Fx K mg base) {k0 : Nat} (ap : U → SemF) (hk : 0 ≤ k0) (hap : APOk P w K mg base (gd K) k0 ap) : DefS P w K mg base (gd K) (k0 + 1 + 1) "wrong_from_one" s_wrong_from_one ["value", "most", "is_right"] (F_wrong_from_one ap) :=
  (def_okS x.d_wrong_from_one x.g_wrong_from_one sc_wrong_from_one (by decide +kernel) (fun _ _ _ _ _ _ us hl => match us, hl with | [_, _, _], _ => rfl) (fun cdv A outer s H E hcd hr X hX tk hp cn => by
    subst hX
    have ND := sc_wrong_from_one.nd
    exact (sl_one (ss_ret (se_if (st_of (sw_and (st_val rfl (se_is (T := "tuple") (by decide) rfl (se_var 0 rfl (Or.inl rfl)) rfl x.n_isinstance b_isinstance rfl x.n_tuple b_tuple)) (sw_and1 (st_eqV rfl hr.room (se_var 0 rfl (Or.inl rfl)) (se_tup sa_nil))))) (se_lst (sa_cons se_none sa_nil)) (se_callS (ok_wrong_at x ap hk hap) hr (by omega) rfl tk rfl (sa_cons (se_var 0 rfl (Or.inl rfl)) (sa_cons (se_var 1 rfl (Or.inl rfl)) (sa_cons (se_var 2 rfl (Or.inl rfl)) sa_nil))) (mCons_len (mCons_len (mCons_len (fun _ _ _ _ h => mNil_len h)))))))))).frz
def C_0 : List U → SemF := runCE 3 (mCall F_is_number (mCons (mVar 0) (mCons (mOp (gD2 subD) (mC (.int 0)) (mVar 2)) (mCons (mVar 2) mNil))))
theorem ns_0 : NScope ["each", "_", "high"] ["each", "_"] ["high"] (c_0).scope := nscope_by (by kernel_rfl)
theorem cok_0 (x : Fx K mg base) : COk P w K mg base (gd K) 3 0 2 C_0 :=
  cok_lam (ci := c_0) (N := ["each", "_", "high"]) (ps := ["each", "_"]) rfl rfl ns_0 (fun F doc pm ctv us hF hl => by
    obtain ⟨n, q, pa, b, s, cl, c⟩ := F
    have e : pa = (c_0).params := hF
    subst e
    match us, hl with | [_, _], _ => rfl) (fun A outer s H E f c cl hr hcl X hX tk hp cn => by
    subst hX
    have ND := ns_0.nd
    exact (se_callS (ok_is_number x) hr (by decide) rfl tk rfl (sa_cons (se_var 0 rfl (Or.inl rfl)) (sa_cons (se_sub rfl se_int (se_var 2 rfl (Or.inr (Or.inr rfl)))) (sa_cons (se_var 2 rfl (Or.inr (Or.inr rfl))) sa_nil))) (mCons_len (mCons_len (mCons_len (fun _ _ _ _ h => mNil_len h))))))
def f_are_numbers : SemS :=
  (mRet (mAndV (mOp (gV eqD) (mCallX (F_wrong_from_one (apC 0 2 C_0 apNil)) (mCons (mVar 0) (mCons (mVar 1) (mCons (mLam 0 [2]) mNil)))) (mLst mNil)) (mCall F_is_ascending (mCons (mVar 0) mNil))))
def F_are_numbers : SemF := frzF (runF 3 (f_are_numbers))
theorem sc_are_numbers : FnScope ["value", "most", "high"] ["value", "most", "high"] (defScope s_are_numbers) := ⟨rfl, rfl, rfl, by decide +kernel, rfl, by decide +kernel, by decide +kernel⟩
theorem ok_are_numbers (x : Fx K mg base) : DefS P w K mg base (gd K) (6) "are_numbers" s_are_numbers ["value", "most", "high"] (F_are_numbers) :=
  (def_okS x.d_are_numbers x.g_are_numbers sc_are_numbers (by decide +kernel) (fun _ _ _ _ _ _ us hl => match us, hl with | [_, _, _], _ => rfl) (fun cdv A outer s H E hcd hr X hX tk hp cn => by
    subst hX
    have ND := sc_are_numbers.nd
    exact (sl_one (ss_ret (se_and (se_eqV rfl hr.room (se_callXS (ok_wrong_from_one x (k0 := 3) (apC 0 2 C_0 apNil) (by decide) (apC_ok ((cok_0 x).mono (by decide)) (apNil_ok (gd_fns x)))) hr (by decide) cn rfl rfl (sa_cons (se_var 0 rfl (Or.inl rfl)) (sa_cons (se_var 1 rfl (Or.inl rfl)) (sa_cons (se_lamB (js := [2]) (fr := ["high"]) x.t_are_numbers hcd tm_are_numbers (hu_are_numbers x) rfl rfl rfl (by kernel_rfl) rfl) sa_nil))) (mCons_len (mCons_len (mCons_len (fun _ _ _ _ h => mNil_len h))))) (se_lst sa_nil)) (se_one (se_callS (ok_is_ascending x) hr (by decide) rfl tk rfl (sa_cons (se_var 0 rfl (Or.inl rfl)) sa_nil) (mCons_len (fun _ _ _ _ h => mNil_len h))))))))).frz
def e_are_some_of_0 : SemE :=
  (mCall F_is_number (mCons (mVar 2) (mCons (mC .none) (mCons (mC .none) mNil))))
def c_are_some_of_0 : SemE :=
  (mLc (mSeqR (mVar 1)) [2] (mG 2) (fun _ st => .ok true st) e_are_some_of_0)
def e_are_some_of_1 : SemE :=
  (mOp (gV (inD false)) (mVar 2) (mVar 0))
def c_are_some_of_1 : SemE :=
  (mLc (mSeqR (mVar 1)) [2] (mG 2) (fun _ st => .ok true st) e_are_some_of_1)
def f_are_some_of : SemS :=
  (mSeq (mIfS (mOrT (mNotT (mTru (mIs "tuple" (mVar 1)))) (mOrT (mTst (mOp (gV eqD) (mVar 1) (mTup mNil))) (mNotT (mTru (mCB gAllL (mCons c_are_some_of_0 mNil)))))) (mRet (mC (.bool false))) mNext)
    (mRet (mAndV (mCall F_is_ascending (mCons (mVar 1) mNil)) (mCB gAllL (mCons c_are_some_of_1 mNil)))))
def F_are_some_of : SemF := frzF (runF 3 (f_are_some_of))
theorem sc_are_some_of : FnScope ["numbers", "value", "each"] ["numbers", "value"] (defScope s_are_some_of) := ⟨rfl, rfl, rfl, by decide +kernel, rfl, by decide +kernel, by decide +kernel⟩
theorem ok_are_some_of (x : Fx K mg base) : DefS P w K mg base (gd K) (3) "are_some_of" s_are_some_of ["numbers", "value"] (F_are_some_of) :=
  (def_okS x.d_are_some_of x.g_are_some_of sc_are_some_of (by decide +kernel) (fun _ _ _ _ _ _ us hl => match us, hl with | [_, _], _ => rfl) (fun cdv A outer s H E hcd hr X hX tk hp cn => by
    subst hX
    have ND := sc_are_some_of.nd
    exact (sl_cons (ss_if (st_of (sw_or (st_not (st_val rfl (se_is (T := "tuple") (by decide) rfl (se_var 1 rfl (Or.inl rfl)) rfl x.n_isinstance b_isinstance rfl x.n_tuple b_tuple))) (sw_or (st_eqV rfl hr.room (se_var 1 rfl (Or.inl rfl)) (se_tup sa_nil)) (sw_or1 (st_not (st_val rfl (se_callB (cr_all rfl) cs_all rfl x.n_all b_all (sa_cons (se_lc (own := [("each", 2)]) rfl ND (si_seqR rfl (se_var 1 rfl (Or.inl rfl))) (blkOk_by (by kernel_rfl)) (fun s_ H_ C_ cl_ fp_ => (wg_name (i := 2) (by decide) ND rfl (Or.inl rfl))) (fun s_ H_ C_ cl_ fp_ => sts_nil) (fun s_ H_ C_ cl_ fp_ => (se_callS (ok_is_number x) hr (by decide) rfl tk0 rfl (sa_cons (se_var 2 rfl (Or.inl rfl)) (sa_cons se_none (sa_cons se_none sa_nil))) (mCons_len (mCons_len (mCons_len (fun _ _ _ _ h => mNil_len h))))))) sa_nil)))))))) (sl_one (ss_ret se_bool)) sl_nil)
    (sl_one (ss_ret (se_and (se_callS (ok_is_ascending x) hr (by decide) rfl tk rfl (sa_cons (se_var 1 rfl (Or.inl rfl)) sa_nil) (mCons_len (fun _ _ _ _ h => mNil_len h))) (se_one (se_callB (cr_all rfl) cs_all rfl x.n_all b_all (sa_cons (se_lc (own := [("each", 2)]) rfl ND (si_seqR rfl (se_var 1 rfl (Or.inl rfl))) (blkOk_by (by kernel_rfl)) (fun s_ H_ C_ cl_ fp_ => (wg_name (i := 2) (by decide) ND rfl (Or.inl rfl))) (fun s_ H_ C_ cl_ fp_ => sts_nil) (fun s_ H_ C_ cl_ fp_ => (se_inV rfl hr.room (se_var 2 rfl (Or.inl rfl)) (se_var 0 rfl (Or.inr (Or.inl rfl)))))) sa_nil))))))))).frz
def e_is_kind_of_0 : SemE :=
  (mCall F_is_number (mCons (mVar 4) (mCons (mC .none) (mCons (mC .none) mNil))))
def c_is_kind_of_0 : SemE :=
  (mLc (mSeqR (mVar 3)) [4] (mG 4) (fun _ st => .ok true st) e_is_kind_of_0)
def f_is_kind_of : SemS :=
  (mSeq (mIfS (mOrT (mNotT (mTru (mCall F_is_tuple_of (mCons (mVar 3) (mCons (mC (.int 3)) mNil))))) (mNotT (mTru (mCB gAllL (mCons c_is_kind_of_0 mNil))))) (mRet (mC (.bool false))) mNext)
    (mRet (mAndV (mOp (gV (inD false)) (mOp gIx (mVar 3) (mC (.int 0))) (mVar 0)) (mAndV (mOp (gV (inD false)) (mOp gIx (mVar 3) (mC (.int 1))) (mVar 1)) (mOp (gV (inD false)) (mOp gIx (mVar 3) (mC (.int 2))) (mVar 2))))))
def F_is_kind_of : SemF := frzF (runF 5 (f_is_kind_of))
theorem sc_is_kind_of : FnScope ["intervals", "steps", "steps2", "value", "each"] ["intervals", "steps", "steps2", "value"] (defScope s_is_kind_of) := ⟨rfl, rfl, rfl, by decide +kernel, rfl, by decide +kernel, by decide +kernel⟩
theorem ok_is_kind_of (x : Fx K mg base) : DefS P w K mg base (gd K) (3) "is_kind_of" s_is_kind_of ["intervals", "steps", "steps2", "value"] (F_is_kind_of) :=
  (def_okS x.d_is_kind_of x.g_is_kind_of sc_is_kind_of (by decide +kernel) (fun _ _ _ _ _ _ us hl => match us, hl with | [_, _, _, _], _ => rfl) (fun cdv A outer s H E hcd hr X hX tk hp cn => by
    subst hX
    have ND := sc_is_kind_of.nd
    exact (sl_cons (ss_if (st_of (sw_or (st_not (st_val rfl (se_callS (ok_is_tuple_of x) hr (by decide) rfl tk rfl (sa_cons (se_var 3 rfl (Or.inl rfl)) (sa_cons se_int sa_nil)) (mCons_len (mCons_len (fun _ _ _ _ h => mNil_len h)))))) (sw_or1 (st_not (st_val rfl (se_callB (cr_all rfl) cs_all rfl x.n_all b_all (sa_cons (se_lc (own := [("each", 4)]) rfl ND (si_seqR rfl (se_var 3 rfl (Or.inl rfl))) (blkOk_by (by kernel_rfl)) (fun s_ H_ C_ cl_ fp_ => (wg_name (i := 4) (by decide) ND rfl (Or.inl rfl))) (fun s_ H_ C_ cl_ fp_ => sts_nil) (fun s_ H_ C_ cl_ fp_ => (se_callS (ok_is_number x) hr (by decide) rfl tk0 rfl (sa_cons (se_var 4 rfl (Or.inl rfl)) (sa_cons se_none (sa_cons se_none sa_nil))) (mCons_len (mCons_len (mCons_len (fun _ _ _ _ h => mNil_len h))))))) sa_nil))))))) (sl_one (ss_ret se_bool)) sl_nil)
    (sl_one (ss_ret (se_and (se_inV rfl hr.room (se_ix rfl (se_var 3 rfl (Or.inl rfl)) se_int) (se_var 0 rfl (Or.inl rfl))) (se_and (se_inV rfl hr.room (se_ix rfl (se_var 3 rfl (Or.inl rfl)) se_int) (se_var 1 rfl (Or.inl rfl))) (se_one (se_inV rfl hr.room (se_ix rfl (se_var 3 rfl (Or.inl rfl)) se_int) (se_var 2 rfl (Or.inl rfl))))))))))).frz
def C_1 : List U → SemF := runC 5 ((mRet (mAndV (mCall F_is_kind_of (mCons (mVar 4) (mCons (mVar 2) (mCons (mVar 3) (mCons (mVar 0) mNil))))) (mOrV (mOp (gV eqD) (mVar 1) (mTup mNil)) (mOp (gD2 ltD) (mOp gIx (mVar 1) (mNeg (mC (.int 1)))) (mVar 0))))))
theorem ns_1 : NScope ["each", "before", "steps", "steps2", "intervals"] ["each", "before"] ["steps", "steps2", "intervals"] (c_1).scope := nscope_by (by kernel_rfl)
theorem cok_1 (x : Fx K mg base) : COk P w K mg base (gd K) 4 1 2 C_1 :=
  cok_of (ci := c_1) (body := defBody (sAt s_are_bars [1])) (N := ["each", "before", "steps", "steps2", "intervals"]) (ps := ["each", "before"]) rfl rfl ns_1 (fun F doc pm ctv us hF hl => by
    obtain ⟨n, q, pa, b, s, cl, c⟩ := F
    have e : pa = (c_1).params := hF
    subst e
    match us, hl with | [_, _], _ => rfl) (fun A outer s H E f c cl hr hcl X hX tk hp cn => by
    subst hX
    have ND := ns_1.nd
    exact (sl_one (ss_ret (se_and (se_callS (ok_is_kind_of x) hr (by decide) rfl tk rfl (sa_cons (se_var 4 rfl (Or.inr (Or.inr rfl))) (sa_cons (se_var 2 rfl (Or.inr (Or.inr rfl))) (sa_cons (se_var 3 rfl (Or.inr (Or.inr rfl))) (sa_cons (se_var 0 rfl (Or.inl rfl)) sa_nil)))) (mCons_len (mCons_len (mCons_len (mCons_len (fun _ _ _ _ h => mNil_len h)))))) (se_one (se_or (se_eqV rfl hr.room (se_var 1 rfl (Or.inl rfl)) (se_tup sa_nil)) (se_one (se_lt rfl hr.room (se_ix rfl (se_var 1 rfl (Or.inl rfl)) (se_neg se_int)) (se_var 0 rfl (Or.inl rfl))))))))))
def a_are_bars_0 : SemS :=
  (mAsgT (mVar 0) (mGTup 7 (fun us en st => if hasOwnL us.tail = false then mGCons (mG 2) (fun us en st => if hasOwnL us.tail = false then mGCons (mGC 3) (fun us en st => if hasOwnL us.tail = false then mGCons (mGC 4) (fun us en st => if hasOwnL us.tail = false then mGCons (mGC 5) (fun us en st => if hasOwnL us.tail = false then mGCons (mG 2) (fun us en st => if hasOwnL us.tail = false then mGCons (mG 2) (fun us en st => if hasOwnL us.tail = false then mGCons (mG 2) mGNil us en st else .bad) us en st else .bad) us en st else .bad) us en st else .bad) us en st else .bad) us en st else .bad) us en st else .bad)))
def f_are_bars : SemS :=
  (mSeq a_are_bars_0
    (mSeq (mNdef 1 [3, 4, 5] 6)
    (mRet (mOp (gV eqD) (mCallX (F_wrong_at (apC 1 2 C_1 apNil)) (mCons (mVar 1) (mCons (mC (.int 20)) (mCons (mVar 6) mNil)))) (mLst mNil)))))
def F_are_bars : SemF := frzF (runF 7 (f_are_bars))
theorem sc_are_bars : FnScope ["school", "value", "_", "steps", "steps2", "intervals", "is_right"] ["school", "value"] (defScope s_are_bars) := ⟨rfl, rfl, rfl, by decide +kernel, rfl, by decide +kernel, by decide +kernel⟩
theorem ok_are_bars (x : Fx K mg base) : DefS P w K mg base (gd K) (6) "are_bars" s_are_bars ["school", "value"] (F_are_bars) :=
  (def_okS x.d_are_bars x.g_are_bars sc_are_bars (by decide +kernel) (fun _ _ _ _ _ _ us hl => match us, hl with | [_, _], _ => rfl) (fun cdv A outer s H E hcd hr X hX tk hp cn => by
    subst hX
    have ND := sc_are_bars.nd
    exact (sl_cons (ss_asg (se_var 0 rfl (Or.inl rfl)) (sg_tup rfl rfl (sgs_cons (sg_name (i := 2) ND rfl (Or.inl rfl) (nc_def cn rfl rfl)) (sgs_cons (sg_cell (i := 3) ND rfl (Or.inr rfl)) (sgs_cons (sg_cell (i := 4) ND rfl (Or.inr rfl)) (sgs_cons (sg_cell (i := 5) ND rfl (Or.inr rfl)) (sgs_cons (sg_name (i := 2) ND rfl (Or.inl rfl) (nc_def cn rfl rfl)) (sgs_cons (sg_name (i := 2) ND rfl (Or.inl rfl) (nc_def cn rfl rfl)) (sgs_cons (sg_name (i := 2) ND rfl (Or.inl rfl) (nc_def cn rfl rfl)) sgs_nil)))))))))
    (sl_cons (ss_ndef (js := [3, 4, 5]) (fr := ["steps", "steps2", "intervals"]) (i := 6) x.t_are_bars hcd tm_are_bars (hu_are_bars x) rfl rfl rfl rfl rfl (by kernel_rfl) rfl ND rfl (Or.inl rfl) (nc_def cn rfl rfl))
    (sl_one (ss_ret (se_eqV rfl hr.room (se_callXS (ok_wrong_at x (k0 := 4) (apC 1 2 C_1 apNil) (by decide) (apC_ok ((cok_1 x).mono (by decide)) (apNil_ok (gd_fns x)))) hr (by decide) cn rfl rfl (sa_cons (se_var 1 rfl (Or.inl rfl)) (sa_cons (se_glI rfl x.c_MOST_BARRED) (sa_cons (se_var 6 rfl (Or.inl rfl)) sa_nil))) (mCons_len (mCons_len (mCons_len (fun _ _ _ _ h => mNil_len h))))) (se_lst sa_nil)))))))).frz
def a_is_school_form_0 : SemS :=
  (mAsgT (mVar 0) (mGTup 7 (fun us en st => if hasOwnL us.tail = false then mGCons (mG 1) (fun us en st => if hasOwnL us.tail = false then mGCons (mG 2) (fun us en st => if hasOwnL us.tail = false then mGCons (mG 3) (fun us en st => if hasOwnL us.tail = false then mGCons (mG 4) (fun us en st => if hasOwnL us.tail = false then mGCons (mG 5) (fun us en st => if hasOwnL us.tail = false then mGCons (mG 6) (fun us en st => if hasOwnL us.tail = false then mGCons (mG 7) mGNil us en st else .bad) us en st else .bad) us en st else .bad) us en st else .bad) us en st else .bad) us en st else .bad) us en st else .bad)))
def f_is_school_form : SemS :=
  (mSeq (mIfS (mOrT (mNotT (mTru (mCall F_is_tuple_of (mCons (mVar 0) (mCons (mC (.int 7)) mNil))))) (mNotT (mTru (mCall F_is_number (mCons (mOp gIx (mVar 0) (mC (.int 0))) (mCons (mC (.int 1)) (mCons (mC (.int 8)) mNil))))))) (mRet (mC (.bool false))) mNext)
    (mSeq a_is_school_form_0
    (mSeq (mIfS (mOrT (mNotT (mTru (mCall F_are_numbers (mCons (mVar 2) (mCons (mC (.int 5)) (mCons (mVar 1) mNil)))))) (mNotT (mTru (mCall F_are_numbers (mCons (mVar 3) (mCons (mC (.int 7)) (mCons (mVar 1) mNil))))))) (mRet (mC (.bool false))) mNext)
    (mSeq (mIfS (mOrT (mNotT (mTru (mCall F_are_numbers (mCons (mVar 4) (mCons (mC (.int 9)) (mCons (mVar 1) mNil)))))) (mNotT (mTru (mCall F_are_bars (mCons (mVar 0) (mCons (mVar 5) mNil)))))) (mRet (mC (.bool false))) mNext)
    (mRet (mAndV (mCall F_are_some_of (mCons (mVar 4) (mCons (mVar 6) mNil))) (mCall F_are_some_of (mCons (mVar 4) (mCons (mVar 7) mNil)))))))))
def F_is_school_form : SemF := frzF (runF 8 (f_is_school_form))
theorem sc_is_school_form : FnScope ["value", "high", "steps", "steps2", "intervals", "barred", "begin", "end"] ["value"] (defScope s_is_school_form) := ⟨rfl, rfl, rfl, by decide +kernel, rfl, by decide +kernel, by decide +kernel⟩
theorem ok_is_school_form (x : Fx K mg base) : DefS P w K mg base (gd K) (7) "is_school_form" s_is_school_form ["value"] (F_is_school_form) :=
  (def_okS x.d_is_school_form x.g_is_school_form sc_is_school_form (by decide +kernel) (fun _ _ _ _ _ _ us hl => match us, hl with | [_], _ => rfl) (fun cdv A outer s H E hcd hr X hX tk hp cn => by
    subst hX
    have ND := sc_is_school_form.nd
    exact (sl_cons (ss_if (st_of (sw_or (st_not (st_val rfl (se_callS (ok_is_tuple_of x) hr (by decide) rfl tk rfl (sa_cons (se_var 0 rfl (Or.inl rfl)) (sa_cons (se_glI rfl x.c_PARTS) sa_nil)) (mCons_len (mCons_len (fun _ _ _ _ h => mNil_len h)))))) (sw_or1 (st_not (st_val rfl (se_callS (ok_is_number x) hr (by decide) rfl tk rfl (sa_cons (se_ix rfl (se_var 0 rfl (Or.inl rfl)) se_int) (sa_cons se_int (sa_cons (se_glI rfl x.c_MOST_HIGH) sa_nil))) (mCons_len (mCons_len (mCons_len (fun _ _ _ _ h => mNil_len h)))))))))) (sl_one (ss_ret se_bool)) sl_nil)
    (sl_cons (ss_asg (se_var 0 rfl (Or.inl rfl)) (sg_tup rfl rfl (sgs_cons (sg_name (i := 1) ND rfl (Or.inl rfl) (nc_def cn rfl rfl)) (sgs_cons (sg_name (i := 2) ND rfl (Or.inl rfl) (nc_def cn rfl rfl)) (sgs_cons (sg_name (i := 3) ND rfl (Or.inl rfl) (nc_def cn rfl rfl)) (sgs_cons (sg_name (i := 4) ND rfl (Or.inl rfl) (nc_def cn rfl rfl)) (sgs_cons (sg_name (i := 5) ND rfl (Or.inl rfl) (nc_def cn rfl rfl)) (sgs_cons (sg_name (i := 6) ND rfl (Or.inl rfl) (nc_def cn rfl rfl)) (sgs_cons (sg_name (i := 7) ND rfl (Or.inl rfl) (nc_def cn rfl rfl)) sgs_nil)))))))))
    (sl_cons (ss_if (st_of (sw_or (st_not (st_val rfl (se_callS (ok_are_numbers x) hr (by decide) rfl tk rfl (sa_cons (se_var 2 rfl (Or.inl rfl)) (sa_cons (se_glI rfl x.c_MOST_STEPS) (sa_cons (se_var 1 rfl (Or.inl rfl)) sa_nil))) (mCons_len (mCons_len (mCons_len (fun _ _ _ _ h => mNil_len h))))))) (sw_or1 (st_not (st_val rfl (se_callS (ok_are_numbers x) hr (by decide) rfl tk rfl (sa_cons (se_var 3 rfl (Or.inl rfl)) (sa_cons (se_glI rfl x.c_MOST_STEPS2) (sa_cons (se_var 1 rfl (Or.inl rfl)) sa_nil))) (mCons_len (mCons_len (mCons_len (fun _ _ _ _ h => mNil_len h)))))))))) (sl_one (ss_ret se_bool)) sl_nil)
    (sl_cons (ss_if (st_of (sw_or (st_not (st_val rfl (se_callS (ok_are_numbers x) hr (by decide) rfl tk rfl (sa_cons (se_var 4 rfl (Or.inl rfl)) (sa_cons (se_glI rfl x.c_MOST_INTERVALS) (sa_cons (se_var 1 rfl (Or.inl rfl)) sa_nil))) (mCons_len (mCons_len (mCons_len (fun _ _ _ _ h => mNil_len h))))))) (sw_or1 (st_not (st_val rfl (se_callS (ok_are_bars x) hr (by decide) rfl tk rfl (sa_cons (se_var 0 rfl (Or.inl rfl)) (sa_cons (se_var 5 rfl (Or.inl rfl)) sa_nil)) (mCons_len (mCons_len (fun _ _ _ _ h => mNil_len h))))))))) (sl_one (ss_ret se_bool)) sl_nil)
    (sl_one (ss_ret (se_and (se_callS (ok_are_some_of x) hr (by decide) rfl tk rfl (sa_cons (se_var 4 rfl (Or.inl rfl)) (sa_cons (se_var 6 rfl (Or.inl rfl)) sa_nil)) (mCons_len (mCons_len (fun _ _ _ _ h => mNil_len h)))) (se_one (se_callS (ok_are_some_of x) hr (by decide) rfl tk rfl (sa_cons (se_var 4 rfl (Or.inl rfl)) (sa_cons (se_var 7 rfl (Or.inl rfl)) sa_nil)) (mCons_len (mCons_len (fun _ _ _ _ h => mNil_len h)))))))))))))).frz
def f_notes_of : SemS :=
  (mRet (mLstRg (mR1 (mOp (gD2 addD) (mOp gIx (mVar 0) (mC (.int 0))) (mC (.int 1))))))
def F_notes_of : SemF := frzF (runF 1 (f_notes_of))
theorem sc_notes_of : FnScope ["school"] ["school"] (defScope s_notes_of) := ⟨rfl, rfl, rfl, by decide +kernel, rfl, by decide +kernel, by decide +kernel⟩
theorem ok_notes_of (x : Fx K mg base) : DefS P w K mg base (gd K) (1) "notes_of" s_notes_of ["school"] (F_notes_of) :=
  (def_okS x.d_notes_of x.g_notes_of sc_notes_of (by decide +kernel) (fun _ _ _ _ _ _ us hl => match us, hl with | [_], _ => rfl) (fun cdv A outer s H E hcd hr X hX tk hp cn => by
    subst hX
    have ND := sc_notes_of.nd
    exact (sl_one (ss_ret (se_listRg rfl rfl x.n_list (sr_1 rfl x.n_range (se_add rfl (se_ix rfl (se_var 0 rfl (Or.inl rfl)) se_int) se_int))))))).frz
def e_standings_of_0 : SemE :=
  (mTup (mCons (mVar 1) (mCons (mVar 2) mNil)))
def i_standings_of_0 : SemT :=
  (mTst (mOp (gV (inD false)) (mOp (gD2 subD) (mVar 2) (mVar 1)) (mOp gIx (mVar 0) (mC (.int 3)))))
def c_standings_of_0 : SemE :=
  (mLc2 (mSeqR (mCall F_notes_of (mCons (mVar 0) mNil))) [1, 2] (mG 1) (fun _ st => .ok true st) (mSeqR (mCall F_notes_of (mCons (mVar 0) mNil))) [2] (mG 2) i_standings_of_0 e_standings_of_0)
def f_standings_of : SemS :=
  (mRet c_standings_of_0)
def F_standings_of : SemF := frzF (runF 3 (f_standings_of))
theorem sc_standings_of : FnScope ["school", "one", "two"] ["school"] (defScope s_standings_of) := ⟨rfl, rfl, rfl, by decide +kernel, rfl, by decide +kernel, by decide +kernel⟩
theorem ok_standings_of (x : Fx K mg base) : DefS P w K mg base (gd K) (2) "standings_of" s_standings_of ["school"] (F_standings_of) :=
  (def_okS x.d_standings_of x.g_standings_of sc_standings_of (by decide +kernel) (fun _ _ _ _ _ _ us hl => match us, hl with | [_], _ => rfl) (fun cdv A outer s H E hcd hr X hX tk hp cn => by
    subst hX
    have ND := sc_standings_of.nd
    exact (sl_one (ss_ret (se_lc2 (own := [("one", 1), ("two", 2)]) (vs1 := [2]) rfl ND (si_seqR rfl (se_callS (ok_notes_of x) hr (by decide) rfl tk rfl (sa_cons (se_var 0 rfl (Or.inr (Or.inl rfl))) sa_nil) (mCons_len (fun _ _ _ _ h => mNil_len h)))) (blkOk_by (by kernel_rfl)) (by decide) (fun s_ H_ C_ cl_ fp_ => (wg_name (i := 1) (by decide) ND rfl (Or.inl rfl))) (fun s_ H_ C_ cl_ fp_ => sts_nil) (fun s_ H_ C_ cl_ fp_ => (si_seqR rfl (se_callS (ok_notes_of x) hr (by decide) rfl tk0 rfl (sa_cons (se_var 0 rfl (Or.inr (Or.inl rfl))) sa_nil) (mCons_len (fun _ _ _ _ h => mNil_len h))))) (fun s_ H_ C_ cl_ fp_ => (wg_name (i := 2) (by decide) ND rfl (Or.inl rfl))) (fun s_ H_ C_ cl_ fp_ => (sts_one (st_inV rfl hr.room (se_sub rfl (se_var 2 rfl (Or.inl rfl)) (se_var 1 rfl (Or.inl rfl))) (se_ix rfl (se_var 0 rfl (Or.inr (Or.inl rfl))) se_int)))) (fun s_ H_ C_ cl_ fp_ => (se_tup (sa_cons (se_var 1 rfl (Or.inl rfl)) (sa_cons (se_var 2 rfl (Or.inl rfl)) sa_nil))))))))).frz
def f_check_school : SemS :=
  (mIfS (mNotT (mTru (mCall F_is_school_form (mCons (mVar 0) mNil)))) (mRaise "InvalidSchool" (mVar 0)) mNext)
def F_check_school : SemF := frzF (runF 1 (f_check_school))
theorem sc_check_school : FnScope ["value"] ["value"] (defScope s_check_school) := ⟨rfl, rfl, rfl, by decide +kernel, rfl, by decide +kernel, by decide +kernel⟩
theorem ok_check_school (x : Fx K mg base) : DefS P w K mg base (gd K) (8) "check_school" s_check_school ["value"] (F_check_school) :=
  (def_okS x.d_check_school x.g_check_school sc_check_school (by decide +kernel) (fun _ _ _ _ _ _ us hl => match us, hl with | [_], _ => rfl) (fun cdv A outer s H E hcd hr X hX tk hp cn => by
    subst hX
    have ND := sc_check_school.nd
    obtain ⟨fI_InvalidSchool, dI_InvalidSchool⟩ := x.d_InvalidSchool
    exact (sl_one (ss_if (st_not (st_val rfl (se_callS (ok_is_school_form x) hr (by decide) rfl tk rfl (sa_cons (se_var 0 rfl (Or.inl rfl)) sa_nil) (mCons_len (fun _ _ _ _ h => mNil_len h))))) (sl_one (ss_raise (f := "given") rfl rfl x.e_InvalidSchool x.iC_InvalidSchool x.tI_InvalidSchool x.no_InvalidSchool (init_InvalidSchool x dI_InvalidSchool) (hr.mono (by decide)) (bind_InvalidSchool x dI_InvalidSchool) rfl x.g_InvalidSchool rfl tk (se_var 0 rfl (Or.inl rfl)))) sl_nil)))).frz
def f_is_school : SemS :=
  (mRet (mCall F_is_school_form (mCons (mVar 0) mNil)))
def F_is_school : SemF := frzF (runF 1 (f_is_school))
theorem sc_is_school : FnScope ["value"] ["value"] (defScope s_is_school) := ⟨rfl, rfl, rfl, by decide +kernel, rfl, by decide +kernel, by decide +kernel⟩
theorem ok_is_school (x : Fx K mg base) : DefS P w K mg base (gd K) (8) "is_school" s_is_school ["value"] (F_is_school) :=
  (def_okS x.d_is_school x.g_is_school sc_is_school (by decide +kernel) (fun _ _ _ _ _ _ us hl => match us, hl with | [_], _ => rfl) (fun cdv A outer s H E hcd hr X hX tk hp cn => by
    subst hX
    have ND := sc_is_school.nd
    exact (sl_one (ss_ret (se_callS (ok_is_school_form x) hr (by decide) rfl tk rfl (sa_cons (se_var 0 rfl (Or.inl rfl)) sa_nil) (mCons_len (fun _ _ _ _ h => mNil_len h))))))).frz
def f_standings : SemS :=
  (mSeq (mExpr (mCall F_check_school (mCons (mVar 0) mNil)))
    (mRet (mCB gTuple (mCons (mCall F_standings_of (mCons (mVar 0) mNil)) mNil))))
def F_standings : SemF := frzF (runF 1 (f_standings))
theorem sc_standings : FnScope ["school"] ["school"] (defScope s_standings) := ⟨rfl, rfl, rfl, by decide +kernel, rfl, by decide +kernel, by decide +kernel⟩
theorem ok_standings (x : Fx K mg base) : DefS P w K mg base (gd K) (9) "standings" s_standings ["school"] (F_standings) :=
  (def_okS x.d_standings x.g_standings sc_standings (by decide +kernel) (fun _ _ _ _ _ _ us hl => match us, hl with | [_], _ => rfl) (fun cdv A outer s H E hcd hr X hX tk hp cn => by
    subst hX
    have ND := sc_standings.nd
    exact (sl_cons (ss_expr (se_callS (ok_check_school x) hr (by decide) rfl tk rfl (sa_cons (se_var 0 rfl (Or.inl rfl)) sa_nil) (mCons_len (fun _ _ _ _ h => mNil_len h))))
    (sl_one (ss_ret (se_callTy call_tuple_of cs_tuple rfl x.n_tuple b_tuple (sa_cons (se_callS (ok_standings_of x) hr (by decide) rfl tk rfl (sa_cons (se_var 0 rfl (Or.inl rfl)) sa_nil) (mCons_len (fun _ _ _ _ h => mNil_len h))) sa_nil))))))).frz
def b__law_well_0 : SemS :=
  (mWipe [3] (mAsgT (mOp (gD2 modD) (mCB gInt (mCons (mOp (gD2 addD) (mOp (gD2 addD) (mOp (gD2 mulI) (mVar 2) (mC (.int 47521))) (mOp (gD2 modD) (mCB gInt (mCons (mVar 3) mNil)) (mC (.int 2147483549)))) (mC (.int 41))) mNil)) (mC (.int 2147483629))) (mG 2)))
def l__law_well_0 : SemS :=
  (mFor (mSeqR (mSl (mVar 0) mNoPart (mPart (mC (.int 9))))) (mG 3)
    b__law_well_0)
def f__law_well : SemS :=
  (mSeq (mAsgT (mOp (gD2 addD) (mC (.int 1512018)) (mOp (gD2 mulI) (mC (.int 5231)) (mVar 1))) (mG 2))
    (mSeq l__law_well_0
    (mSeq (mAsgT (mIf (mTst (mOp (gD2 ltD) (mVar 1) (mCB gLen (mCons (mVar 0) mNil)))) (mCB gInt (mCons (mOp gIx (mVar 0) (mVar 1)) mNil)) (mC (.int 0))) (mG 4))
    (mSeq (mAsgT (mOp (gD2 modD) (mCB gInt (mCons (mOp (gD2 addD) (mOp (gD2 addD) (mOp (gD2 mulI) (mVar 2) (mC (.int 61))) (mOp (gD2 mulI) (mOp (gD2 modD) (mCB gInt (mCons (mVar 4) mNil)) (mC (.int 2147483549))) (mC (.int 16007)))) (mC (.int 17))) mNil)) (mC (.int 2147483629))) (mG 2))
    (mRet (mRef (mCons (mIf (mOrT (mTst (mOp (gD2 ltD) (mVar 4) (mC (.int 0)))) (mTst (mOp (gD2 geD) (mVar 4) (mOp (gD2 powD) (mC (.int 10)) (mC (.int 15)))))) (mCB gAbs (mCons (mVar 4) mNil)) (mC (.int 0))) (mCons (mVar 2) (mCons (mC (.int 0)) mNil)))))))))
def F__law_well : SemF := runF 5 (f__law_well)
theorem sc__law_well : FnScope ["script", "lap", "stirred", "cell", "own"] ["script", "lap"] (defScope s__law_well) := ⟨rfl, rfl, rfl, by decide +kernel, rfl, by decide +kernel, by decide +kernel⟩
theorem ok__law_well (x : Fx K mg base) : DefS P w K mg base (gd K) (1) "_law_well" s__law_well ["script", "lap"] (F__law_well) :=
  (def_okS x.d__law_well x.g__law_well sc__law_well (by decide +kernel) (fun _ _ _ _ _ _ us hl => match us, hl with | [_, _], _ => rfl) (fun cdv A outer s H E hcd hr X hX tk hp cn => by
    subst hX
    have ND := sc__law_well.nd
    exact (sl_cons (ss_set (i := 2) ND rfl (Or.inl rfl) (se_add rfl se_int (se_mul rfl se_int (se_var 1 rfl (Or.inl rfl)))) (nc_def cn rfl rfl))
    (sl_cons (ss_for hp rfl (si_seqR rfl (se_sl rfl (se_var 0 rfl (Or.inl rfl)) so_none (so_some se_int))) (sg_name (i := 3) ND rfl (Or.inl rfl) (nc_def cn rfl rfl))
    (sl_wipe [3] (sl_one (ss_set (i := 2) ND rfl (Or.inl rfl) (se_mod rfl (se_callTy call_int cs_int rfl x.n_int b_int (sa_cons (se_add rfl (se_add rfl (se_mul rfl (se_var 2 rfl (Or.inl rfl)) se_int) (se_mod rfl (se_callTy call_int cs_int rfl x.n_int b_int (sa_cons (se_var 3 rfl (Or.inl rfl)) sa_nil)) se_int)) se_int) sa_nil)) se_int) (nc_def cn rfl rfl)))))
    (sl_cons (ss_set (i := 4) ND rfl (Or.inl rfl) (se_if (st_lt rfl hr.room (se_var 1 rfl (Or.inl rfl)) (se_callB call_len cs_len rfl x.n_len b_len (sa_cons (se_var 0 rfl (Or.inl rfl)) sa_nil))) (se_callTy call_int cs_int rfl x.n_int b_int (sa_cons (se_ix rfl (se_var 0 rfl (Or.inl rfl)) (se_var 1 rfl (Or.inl rfl))) sa_nil)) se_int) (nc_def cn rfl rfl))
    (sl_cons (ss_set (i := 2) ND rfl (Or.inl rfl) (se_mod rfl (se_callTy call_int cs_int rfl x.n_int b_int (sa_cons (se_add rfl (se_add rfl (se_mul rfl (se_var 2 rfl (Or.inl rfl)) se_int) (se_mul rfl (se_mod rfl (se_callTy call_int cs_int rfl x.n_int b_int (sa_cons (se_var 4 rfl (Or.inl rfl)) sa_nil)) se_int) se_int)) se_int) sa_nil)) se_int) (nc_def cn rfl rfl))
    (sl_one (ss_ret (se_ref (sa_cons (se_if (st_of (sw_or (st_lt rfl hr.room (se_var 4 rfl (Or.inl rfl)) se_int) (sw_or1 (st_ge rfl hr.room (se_var 4 rfl (Or.inl rfl)) (se_pow rfl se_int se_int))))) (se_callB call_abs cs_abs rfl x.n_abs b_abs (sa_cons (se_var 4 rfl (Or.inl rfl)) sa_nil)) se_int) (sa_cons (se_var 2 rfl (Or.inl rfl)) (sa_cons se_int sa_nil))))))))))))
def a__law_draw_0 : SemS :=
  (mAsgT (mCB gDivmod (mCons (mOp gIx (mVar 0) (mC (.int 0))) (mCons (mVar 1) mNil))) (mGTup 2 (fun us en st => if hasOwnL us.tail = false then mGCons (mGSub (mVar 0) (mC (.int 0))) (fun us en st => if hasOwnL us.tail = false then mGCons (mG 2) mGNil us en st else .bad) us en st else .bad)))
def f__law_draw : SemS :=
  (mSeq (mIfS (mTst (mOp (gD2 gtD) (mOp gIx (mVar 0) (mC (.int 0))) (mC (.int 0)))) (mSeq a__law_draw_0
    (mRet (mVar 2))) mNext)
    (mSeq (mAsgT (mOp (gD2 addD) (mOp gIx (mVar 0) (mC (.int 2))) (mC (.int 1))) (mGSub (mVar 0) (mC (.int 2))))
    (mSeq (mAsgT (mOp (gD2 modD) (mCB gInt (mCons (mOp (gD2 addD) (mOp (gD2 mulI) (mOp gIx (mVar 0) (mC (.int 1))) (mC (.int 40009))) (mOp (gD2 mulI) (mC (.int 15013)) (mOp gIx (mVar 0) (mC (.int 2))))) mNil)) (mC (.int 2147483629))) (mG 3))
    (mSeq (mAsgT (mOp (gD2 modD) (mCB gInt (mCons (mOp (gD2 addD) (mOp (gD2 mulI) (mVar 3) (mOp (gD2 addD) (mOp (gD2 modD) (mCB gInt (mCons (mVar 3) mNil)) (mC (.int 5003))) (mC (.int 20011)))) (mOp gIx (mVar 0) (mC (.int 2)))) mNil)) (mC (.int 2147483629))) (mGSub (mVar 0) (mC (.int 1))))
    (mRet (mOp (gD2 modD) (mCB gInt (mCons (mOp (gD2 fdivD) (mOp gIx (mVar 0) (mC (.int 1))) (mC (.int 1031))) mNil)) (mVar 1)))))))
def F__law_draw : SemF := frzF (runF 4 (f__law_draw))
theorem sc__law_draw : FnScope ["well", "limit", "figure", "mixed"] ["well", "limit"] (defScope s__law_draw) := ⟨rfl, rfl, rfl, by decide +kernel, rfl, by decide +kernel, by decide +kernel⟩
theorem ok__law_draw (x : Fx K mg base) : DefS P w K mg base (gd K) (1) "_law_draw" s__law_draw ["well", "limit"] (F__law_draw) :=
  (def_okS x.d__law_draw x.g__law_draw sc__law_draw (by decide +kernel) (fun _ _ _ _ _ _ us hl => match us, hl with | [_, _], _ => rfl) (fun cdv A outer s H E hcd hr X hX tk hp cn => by
    subst hX
    have ND := sc__law_draw.nd
    exact (sl_cons (ss_if (st_gt rfl hr.room (se_ix rfl (se_var 0 rfl (Or.inl rfl)) se_int) se_int) (sl_cons (ss_asg (se_callB call_divmod cs_divmod rfl x.n_divmod b_divmod (sa_cons (se_ix rfl (se_var 0 rfl (Or.inl rfl)) se_int) (sa_cons (se_var 1 rfl (Or.inl rfl)) sa_nil))) (sg_tup rfl rfl (sgs_cons (sg_sub (se_var 0 rfl (Or.inl rfl)) se_int (fun _ => rfl)) (sgs_cons (sg_name (i := 2) ND rfl (Or.inl rfl) (nc_def cn rfl rfl)) sgs_nil))))
    (sl_one (ss_ret (se_var 2 rfl (Or.inl rfl))))) sl_nil)
    (sl_cons (ss_asg (se_add rfl (se_ix rfl (se_var 0 rfl (Or.inl rfl)) se_int) se_int) (sg_sub (se_var 0 rfl (Or.inl rfl)) se_int (fun _ => rfl)))
    (sl_cons (ss_set (i := 3) ND rfl (Or.inl rfl) (se_mod rfl (se_callTy call_int cs_int rfl x.n_int b_int (sa_cons (se_add rfl (se_mul rfl (se_ix rfl (se_var 0 rfl (Or.inl rfl)) se_int) se_int) (se_mul rfl se_int (se_ix rfl (se_var 0 rfl (Or.inl rfl)) se_int))) sa_nil)) se_int) (nc_def cn rfl rfl))
    (sl_cons (ss_asg (se_mod rfl (se_callTy call_int cs_int rfl x.n_int b_int (sa_cons (se_add rfl (se_mul rfl (se_var 3 rfl (Or.inl rfl)) (se_add rfl (se_mod rfl (se_callTy call_int cs_int rfl x.n_int b_int (sa_cons (se_var 3 rfl (Or.inl rfl)) sa_nil)) se_int) se_int)) (se_ix rfl (se_var 0 rfl (Or.inl rfl)) se_int)) sa_nil)) se_int) (sg_sub (se_var 0 rfl (Or.inl rfl)) se_int (fun _ => rfl)))
    (sl_one (ss_ret (se_mod rfl (se_callTy call_int cs_int rfl x.n_int b_int (sa_cons (se_fdiv rfl (se_ix rfl (se_var 0 rfl (Or.inl rfl)) se_int) se_int) sa_nil)) (se_var 1 rfl (Or.inl rfl))))))))))).frz
def f__law_of : SemS :=
  (mRet (mOp gIx (mVar 1) (mCall F__law_draw (mCons (mVar 0) (mCons (mCB gLen (mCons (mVar 1) mNil)) mNil)))))
def F__law_of : SemF := frzF (runF 2 (f__law_of))
theorem sc__law_of : FnScope ["well", "some"] ["well", "some"] (defScope s__law_of) := ⟨rfl, rfl, rfl, by decide +kernel, rfl, by decide +kernel, by decide +kernel⟩
theorem ok__law_of (x : Fx K mg base) : DefS P w K mg base (gd K) (2) "_law_of" s__law_of ["well", "some"] (F__law_of) :=
  (def_okS x.d__law_of x.g__law_of sc__law_of (by decide +kernel) (fun _ _ _ _ _ _ us hl => match us, hl with | [_, _], _ => rfl) (fun cdv A outer s H E hcd hr X hX tk hp cn => by
    subst hX
    have ND := sc__law_of.nd
    exact (sl_one (ss_ret (se_ix rfl (se_var 1 rfl (Or.inl rfl)) (se_callS (ok__law_draw x) hr (by decide) rfl tk rfl (sa_cons (se_var 0 rfl (Or.inl rfl)) (sa_cons (se_callB call_len cs_len rfl x.n_len b_len (sa_cons (se_var 1 rfl (Or.inl rfl)) sa_nil)) sa_nil)) (mCons_len (mCons_len (fun _ _ _ _ h => mNil_len h))))))))).frz
def b__law_unlike_0 : SemS :=
  (mWipe [4] (mExpr (mML gPopAt (mVar 3) (mCall F__law_draw (mCons (mVar 0) (mCons (mCB gLen (mCons (mVar 3) mNil)) mNil))))))
def l__law_unlike_0 : SemS :=
  (mFor (mRg1 (mOp (gD2 subD) (mCB gLen (mCons (mVar 1) mNil)) (mVar 2))) (mG 4)
    b__law_unlike_0)
def f__law_unlike : SemS :=
  (mSeq (mAsgT (mCB gListR (mCons (mVar 1) mNil)) (mG 3))
    (mSeq l__law_unlike_0
    (mRet (mVar 3))))
def F__law_unlike : SemF := frzF (runF 5 (f__law_unlike))
theorem sc__law_unlike : FnScope ["well", "some", "many", "left", "turn"] ["well", "some", "many"] (defScope s__law_unlike) := ⟨rfl, rfl, rfl, by decide +kernel, rfl, by decide +kernel, by decide +kernel⟩
theorem ok__law_unlike (x : Fx K mg base) : DefS P w K mg base (gd K) (2) "_law_unlike" s__law_unlike ["well", "some", "many"] (F__law_unlike) :=
  (def_okS x.d__law_unlike x.g__law_unlike sc__law_unlike (by decide +kernel) (fun _ _ _ _ _ _ us hl => match us, hl with | [_, _, _], _ => rfl) (fun cdv A outer s H E hcd hr X hX tk hp cn => by
    subst hX
    have ND := sc__law_unlike.nd
    exact (sl_cons (ss_set (i := 3) ND rfl (Or.inl rfl) (se_callTy call_list_of cs_listR rfl x.n_list b_list (sa_cons (se_var 1 rfl (Or.inl rfl)) sa_nil)) (nc_def cn rfl rfl))
    (sl_cons (ss_for hp rfl (si_range1 rfl x.n_range (se_sub rfl (se_callB call_len cs_len rfl x.n_len b_len (sa_cons (se_var 1 rfl (Or.inl rfl)) sa_nil)) (se_var 2 rfl (Or.inl rfl)))) (sg_name (i := 4) ND rfl (Or.inl rfl) (nc_def cn rfl rfl))
    (sl_wipe [4] (sl_one (ss_expr (se_ml PySem.F.slot_list_pop PySem.F.type_list_pop mt_popAt ml_popAt (se_var 3 rfl (Or.inl rfl)) (se_callS (ok__law_draw x) hr (by decide) rfl tk rfl (sa_cons (se_var 0 rfl (Or.inl rfl)) (sa_cons (se_callB call_len cs_len rfl x.n_len b_len (sa_cons (se_var 3 rfl (Or.inl rfl)) sa_nil)) sa_nil)) (mCons_len (mCons_len (fun _ _ _ _ h => mNil_len h)))))))))
    (sl_one (ss_ret (se_var 3 rfl (Or.inl rfl)))))))).frz
def f__law_is : SemS :=
  (mRet (mOp (gV eqD) (mCB gReprV (mCons (mVar 0) mNil)) (mCB gReprV (mCons (mVar 1) mNil))))
def F__law_is : SemF := frzF (runF 2 (f__law_is))
theorem sc__law_is : FnScope ["told", "due"] ["told", "due"] (defScope s__law_is) := ⟨rfl, rfl, rfl, by decide +kernel, rfl, by decide +kernel, by decide +kernel⟩
theorem ok__law_is (x : Fx K mg base) : DefS P w K mg base (gd K) (1) "_law_is" s__law_is ["told", "due"] (F__law_is) :=
  (def_okS x.d__law_is x.g__law_is sc__law_is (by decide +kernel) (fun _ _ _ _ _ _ us hl => match us, hl with | [_, _], _ => rfl) (fun cdv A outer s H E hcd hr X hX tk hp cn => by
    subst hX
    have ND := sc__law_is.nd
    exact (sl_one (ss_ret (se_eqV rfl hr.room (se_callB (call_repr hr) cs_reprV rfl x.n_repr b_repr (sa_cons (se_var 0 rfl (Or.inl rfl)) sa_nil)) (se_callB (call_repr hr) cs_reprV rfl x.n_repr b_repr (sa_cons (se_var 1 rfl (Or.inl rfl)) sa_nil))))))).frz
def e__law_near_0 : SemE :=
  (mVar 6)
def i__law_near_0 : SemT :=
  (mTst (mOp (gD2 leD) (mCB gAbs (mCons (mVar 6) mNil)) (mVar 3)))
def c__law_near_0 : SemE :=
  (mLc (mRg2 (mOp (gD2 subD) (mC (.int 0)) (mVar 1)) (mOp (gD2 addD) (mVar 1) (mC (.int 1)))) [6] (mG 6) i__law_near_0 e__law_near_0)
def f__law_near : SemS :=
  (mSeq (mAsgT (mCall F__law_of (mCons (mVar 0) (mCons (mTup (mCons (mC (.int 1)) (mCons (mC (.int 2)) (mCons (mC (.int 2)) (mCons (mC (.int 8)) mNil))))) mNil))) (mGC 3))
    (mSeq (mAsgT c__law_near_0 (mG 4))
    (mSeq (mAsgT (mCB gMin2 (mCons (mVar 2) (mCons (mCB gLen (mCons (mVar 4) mNil)) mNil))) (mG 5))
    (mRet (mCB gTuple (mCons (mCall F__law_unlike (mCons (mVar 0) (mCons (mVar 4) (mCons (mOp (gD2 addD) (mC (.int 1)) (mCB gMax2 (mCons (mCall F__law_draw (mCons (mVar 0) (mCons (mVar 5) mNil))) (mCons (mCall F__law_draw (mCons (mVar 0) (mCons (mVar 5) mNil))) mNil)))) mNil)))) mNil))))))
def F__law_near : SemF := frzF (runF 7 (f__law_near))
theorem sc__law_near : FnScope ["well", "high", "most", "bound", "some", "many", "number"] ["well", "high", "most"] (defScope s__law_near) := ⟨rfl, rfl, rfl, by decide +kernel, rfl, by decide +kernel, by decide +kernel⟩
theorem ok__law_near (x : Fx K mg base) : DefS P w K mg base (gd K) (3) "_law_near" s__law_near ["well", "high", "most"] (F__law_near) :=
  (def_okS x.d__law_near x.g__law_near sc__law_near (by decide +kernel) (fun _ _ _ _ _ _ us hl => match us, hl with | [_, _, _], _ => rfl) (fun cdv A outer s H E hcd hr X hX tk hp cn => by
    subst hX
    have ND := sc__law_near.nd
    exact (sl_cons (ss_setC (i := 3) ND rfl (Or.inr rfl) (se_callS (ok__law_of x) hr (by decide) rfl tk rfl (sa_cons (se_var 0 rfl (Or.inl rfl)) (sa_cons (se_tup (sa_cons se_int (sa_cons se_int (sa_cons se_int (sa_cons se_int sa_nil))))) sa_nil)) (mCons_len (mCons_len (fun _ _ _ _ h => mNil_len h)))))
    (sl_cons (ss_setLc (i := 4) (own := [("number", 6)]) rfl ND rfl rfl (nc_def cn rfl rfl) rfl (si_range2 rfl x.n_range (se_sub rfl se_int (se_var 1 rfl (Or.inl rfl))) (se_add rfl (se_var 1 rfl (Or.inl rfl)) se_int)) (blkOk_by (by kernel_rfl)) (fun s_ H_ C_ cl_ fp_ => (wg_name (i := 6) (by decide) ND rfl (Or.inl rfl))) (fun s_ H_ C_ cl_ fp_ => (sts_one (st_le rfl hr.room (se_callB call_abs cs_abs rfl x.n_abs b_abs (sa_cons (se_var 6 rfl (Or.inl rfl)) sa_nil)) (se_var 3 rfl (Or.inr (Or.inl rfl)))))) (fun s_ H_ C_ cl_ fp_ => (se_var 6 rfl (Or.inl rfl))))
    (sl_cons (ss_set (i := 5) ND rfl (Or.inl rfl) (se_callB (call_min2 rfl) cs_min2 rfl x.n_min b_min (sa_cons (se_var 2 rfl (Or.inl rfl)) (sa_cons (se_callB call_len cs_len rfl x.n_len b_len (sa_cons (se_var 4 rfl (Or.inl rfl)) sa_nil)) sa_nil))) (nc_def cn rfl rfl))
    (sl_one (ss_ret (se_callTy call_tuple_of cs_tuple rfl x.n_tuple b_tuple (sa_cons (se_callS (ok__law_unlike x) hr (by decide) rfl tk rfl (sa_cons (se_var 0 rfl (Or.inl rfl)) (sa_cons (se_var 4 rfl (Or.inl rfl)) (sa_cons (se_add rfl se_int (se_callB (call_max2 rfl) cs_max2 rfl x.n_max b_max (sa_cons (se_callS (ok__law_draw x) hr (by decide) rfl tk rfl (sa_cons (se_var 0 rfl (Or.inl rfl)) (sa_cons (se_var 5 rfl (Or.inl rfl)) sa_nil)) (mCons_len (mCons_len (fun _ _ _ _ h => mNil_len h)))) (sa_cons (se_callS (ok__law_draw x) hr (by decide) rfl tk rfl (sa_cons (se_var 0 rfl (Or.inl rfl)) (sa_cons (se_var 5 rfl (Or.inl rfl)) sa_nil)) (mCons_len (mCons_len (fun _ _ _ _ h => mNil_len h)))) sa_nil)))) sa_nil))) (mCons_len (mCons_len (mCons_len (fun _ _ _ _ h => mNil_len h))))) sa_nil))))))))).frz
def b__law_school_0 : SemS :=
  (mWipe [7, 8] (mSeq (mAsgT (mTup (mCons (mCall F__law_of (mCons (mVar 0) (mCons (mVar 5) mNil))) (mCons (mCall F__law_of (mCons (mVar 0) (mCons (mVar 3) mNil))) (mCons (mCall F__law_of (mCons (mVar 0) (mCons (mVar 4) mNil))) mNil)))) (mG 8))
    (mIfS (mTst (mOp (gV (inD true)) (mVar 8) (mVar 6))) (mExpr (mML gAppend (mVar 6) (mVar 8))) mNext)))
def l__law_school_0 : SemS :=
  (mFor (mRg1 (mCall F__law_draw (mCons (mVar 0) (mCons (mCall F__law_of (mCons (mVar 0) (mCons (mTup (mCons (mC (.int 1)) (mCons (mC (.int 4)) (mCons (mC (.int 12)) (mCons (mC (.int 21)) mNil))))) mNil))) mNil)))) (mG 7)
    b__law_school_0)
def b__law_school_1 : SemS :=
  (mWipe [7, 10] (mSeq (mAsgT (mOp (gD2 addD) (mC (.int 1)) (mCB gMax2 (mCons (mCall F__law_draw (mCons (mVar 0) (mCons (mCB gLen (mCons (mVar 5) mNil)) mNil))) (mCons (mCall F__law_draw (mCons (mVar 0) (mCons (mCB gLen (mCons (mVar 5) mNil)) mNil))) mNil)))) (mG 10))
    (mExpr (mML gAppend (mVar 9) (mCB gTuple (mCons (mCall F__law_unlike (mCons (mVar 0) (mCons (mCB gList (mCons (mVar 5) mNil)) (mCons (mVar 10) mNil)))) mNil))))))
def l__law_school_1 : SemS :=
  (mFor (mRg1 (mC (.int 2))) (mG 7)
    b__law_school_1)
def f__law_school : SemS :=
  (mSeq (mAsgT (mOp (gD2 addD) (mC (.int 1)) (mCall F__law_draw (mCons (mVar 0) (mCons (mVar 1) mNil)))) (mG 2))
    (mSeq (mPar3 3 4 5 (mCons (mCall F__law_near (mCons (mVar 0) (mCons (mVar 2) (mCons (mC (.int 5)) mNil)))) (mCons (mCall F__law_near (mCons (mVar 0) (mCons (mVar 2) (mCons (mC (.int 7)) mNil)))) (mCons (mCall F__law_near (mCons (mVar 0) (mCons (mVar 2) (mCons (mC (.int 9)) mNil)))) mNil))))
    (mSeq (mAsgT (mRef mNil) (mG 6))
    (mSeq l__law_school_0
    (mSeq (mAsgT (mRef mNil) (mG 9))
    (mSeq l__law_school_1
    (mRet (mTup (mCons (mVar 2) (mCons (mVar 3) (mCons (mVar 4) (mCons (mVar 5) (mCons (mCB gTuple (mCons (mCB gSorted (mCons (mVar 6) mNil)) mNil)) (mCons (mOp gIx (mVar 9) (mC (.int 0))) (mCons (mOp gIx (mVar 9) (mC (.int 1))) mNil)))))))))))))))
def F__law_school : SemF := frzF (runF 11 (f__law_school))
theorem sc__law_school : FnScope ["well", "most", "high", "steps", "other", "gaps", "barred", "turn", "kind", "ends", "many"] ["well", "most"] (defScope s__law_school) := ⟨rfl, rfl, rfl, by decide +kernel, rfl, by decide +kernel, by decide +kernel⟩
theorem ok__law_school (x : Fx K mg base) : DefS P w K mg base (gd K) (4) "_law_school" s__law_school ["well", "most"] (F__law_school) :=
  (def_okS x.d__law_school x.g__law_school sc__law_school (by decide +kernel) (fun _ _ _ _ _ _ us hl => match us, hl with | [_, _], _ => rfl) (fun cdv A outer s H E hcd hr X hX tk hp cn => by
    subst hX
    have ND := sc__law_school.nd
    exact (sl_cons (ss_set (i := 2) ND rfl (Or.inl rfl) (se_add rfl se_int (se_callS (ok__law_draw x) hr (by decide) rfl tk rfl (sa_cons (se_var 0 rfl (Or.inl rfl)) (sa_cons (se_var 1 rfl (Or.inl rfl)) sa_nil)) (mCons_len (mCons_len (fun _ _ _ _ h => mNil_len h))))) (nc_def cn rfl rfl))
    (sl_cons (ss_par3 (i := 3) (j := 4) (l := 5) rfl ND rfl rfl rfl (by decide) (by decide) (by decide) rfl rfl rfl (nc_def cn rfl rfl) (nc_def cn rfl rfl) (nc_def cn rfl rfl) (sa_cons (se_callS (ok__law_near x) hr (by decide) rfl tk rfl (sa_cons (se_var 0 rfl (Or.inl rfl)) (sa_cons (se_var 2 rfl (Or.inl rfl)) (sa_cons se_int sa_nil))) (mCons_len (mCons_len (mCons_len (fun _ _ _ _ h => mNil_len h))))) (sa_cons (se_callS (ok__law_near x) hr (by decide) rfl tk rfl (sa_cons (se_var 0 rfl (Or.inl rfl)) (sa_cons (se_var 2 rfl (Or.inl rfl)) (sa_cons se_int sa_nil))) (mCons_len (mCons_len (mCons_len (fun _ _ _ _ h => mNil_len h))))) (sa_cons (se_callS (ok__law_near x) hr (by decide) rfl tk rfl (sa_cons (se_var 0 rfl (Or.inl rfl)) (sa_cons (se_var 2 rfl (Or.inl rfl)) (sa_cons se_int sa_nil))) (mCons_len (mCons_len (mCons_len (fun _ _ _ _ h => mNil_len h))))) sa_nil))))
    (sl_cons (ss_set (i := 6) ND rfl (Or.inl rfl) (se_ref sa_nil) (nc_def cn rfl rfl))
    (sl_cons (ss_for hp rfl (si_range1 rfl x.n_range (se_callS (ok__law_draw x) hr (by decide) rfl tk rfl (sa_cons (se_var 0 rfl (Or.inl rfl)) (sa_cons (se_callS (ok__law_of x) hr (by decide) rfl tk rfl (sa_cons (se_var 0 rfl (Or.inl rfl)) (sa_cons (se_tup (sa_cons se_int (sa_cons se_int (sa_cons se_int (sa_cons se_int sa_nil))))) sa_nil)) (mCons_len (mCons_len (fun _ _ _ _ h => mNil_len h)))) sa_nil)) (mCons_len (mCons_len (fun _ _ _ _ h => mNil_len h))))) (sg_name (i := 7) ND rfl (Or.inl rfl) (nc_def cn rfl rfl))
    (sl_wipe [7, 8] (sl_cons (ss_set (i := 8) ND rfl (Or.inl rfl) (se_tup (sa_cons (se_callS (ok__law_of x) hr (by decide) rfl tk rfl (sa_cons (se_var 0 rfl (Or.inl rfl)) (sa_cons (se_var 5 rfl (Or.inl rfl)) sa_nil)) (mCons_len (mCons_len (fun _ _ _ _ h => mNil_len h)))) (sa_cons (se_callS (ok__law_of x) hr (by decide) rfl tk rfl (sa_cons (se_var 0 rfl (Or.inl rfl)) (sa_cons (se_var 3 rfl (Or.inl rfl)) sa_nil)) (mCons_len (mCons_len (fun _ _ _ _ h => mNil_len h)))) (sa_cons (se_callS (ok__law_of x) hr (by decide) rfl tk rfl (sa_cons (se_var 0 rfl (Or.inl rfl)) (sa_cons (se_var 4 rfl (Or.inl rfl)) sa_nil)) (mCons_len (mCons_len (fun _ _ _ _ h => mNil_len h)))) sa_nil)))) (nc_def cn rfl rfl))
    (sl_one (ss_if (st_notInV rfl hr.room (se_var 8 rfl (Or.inl rfl)) (se_var 6 rfl (Or.inl rfl))) (sl_one (ss_expr (se_ml PySem.F.slot_list_append PySem.F.type_list_append mt_append ml_append (se_var 6 rfl (Or.inl rfl)) (se_var 8 rfl (Or.inl rfl))))) sl_nil)))))
    (sl_cons (ss_set (i := 9) ND rfl (Or.inl rfl) (se_ref sa_nil) (nc_def cn rfl rfl))
    (sl_cons (ss_for hp rfl (si_range1 rfl x.n_range se_int) (sg_name (i := 7) ND rfl (Or.inl rfl) (nc_def cn rfl rfl))
    (sl_wipe [7, 10] (sl_cons (ss_set (i := 10) ND rfl (Or.inl rfl) (se_add rfl se_int (se_callB (call_max2 rfl) cs_max2 rfl x.n_max b_max (sa_cons (se_callS (ok__law_draw x) hr (by decide) rfl tk rfl (sa_cons (se_var 0 rfl (Or.inl rfl)) (sa_cons (se_callB call_len cs_len rfl x.n_len b_len (sa_cons (se_var 5 rfl (Or.inl rfl)) sa_nil)) sa_nil)) (mCons_len (mCons_len (fun _ _ _ _ h => mNil_len h)))) (sa_cons (se_callS (ok__law_draw x) hr (by decide) rfl tk rfl (sa_cons (se_var 0 rfl (Or.inl rfl)) (sa_cons (se_callB call_len cs_len rfl x.n_len b_len (sa_cons (se_var 5 rfl (Or.inl rfl)) sa_nil)) sa_nil)) (mCons_len (mCons_len (fun _ _ _ _ h => mNil_len h)))) sa_nil)))) (nc_def cn rfl rfl))
    (sl_one (ss_expr (se_ml PySem.F.slot_list_append PySem.F.type_list_append mt_append ml_append (se_var 9 rfl (Or.inl rfl)) (se_callTy call_tuple_of cs_tuple rfl x.n_tuple b_tuple (sa_cons (se_callS (ok__law_unlike x) hr (by decide) rfl tk rfl (sa_cons (se_var 0 rfl (Or.inl rfl)) (sa_cons (se_callTy call_list_of cs_list rfl x.n_list b_list (sa_cons (se_var 5 rfl (Or.inl rfl)) sa_nil)) (sa_cons (se_var 10 rfl (Or.inl rfl)) sa_nil))) (mCons_len (mCons_len (mCons_len (fun _ _ _ _ h => mNil_len h))))) sa_nil))))))))
    (sl_one (ss_ret (se_tup (sa_cons (se_var 2 rfl (Or.inl rfl)) (sa_cons (se_var 3 rfl (Or.inl rfl)) (sa_cons (se_var 4 rfl (Or.inl rfl)) (sa_cons (se_var 5 rfl (Or.inl rfl)) (sa_cons (se_callTy call_tuple_of cs_tuple rfl x.n_tuple b_tuple (sa_cons (se_callB (cr_sortD (u65 hr.room)) cs_sorted rfl x.n_sorted b_sorted (sa_cons (se_var 6 rfl (Or.inl rfl)) sa_nil)) sa_nil)) (sa_cons (se_ix rfl (se_var 9 rfl (Or.inl rfl)) se_int) (sa_cons (se_ix rfl (se_var 9 rfl (Or.inl rfl)) se_int) sa_nil)))))))))))))))))).frz
def f__law_is_number : SemS :=
  (mRet (mAndV (mIs "int" (mVar 0)) (mAndV (mNotV (mIs "bool" (mVar 0))) (mChainU (gV leD) (gV leD) (mVar 1) (mVar 0) (mVar 2)))))
def F__law_is_number : SemF := frzF (runF 3 (f__law_is_number))
theorem sc__law_is_number : FnScope ["value", "low", "high"] ["value", "low", "high"] (defScope s__law_is_number) := ⟨rfl, rfl, rfl, by decide +kernel, rfl, by decide +kernel, by decide +kernel⟩
theorem ok__law_is_number (x : Fx K mg base) : DefS P w K mg base (gd K) (1) "_law_is_number" s__law_is_number ["value", "low", "high"] (F__law_is_number) :=
  (def_okS x.d__law_is_number x.g__law_is_number sc__law_is_number (by decide +kernel) (fun _ _ _ _ _ _ us hl => match us, hl with | [_, _, _], _ => rfl) (fun cdv A outer s H E hcd hr X hX tk hp cn => by
    subst hX
    have ND := sc__law_is_number.nd
    exact (sl_one (ss_ret (se_and (se_is (T := "int") (by decide) rfl (se_var 0 rfl (Or.inl rfl)) rfl x.n_isinstance b_isinstance rfl x.n_int b_int) (se_and (se_not (se_is (T := "bool") (by decide) rfl (se_var 0 rfl (Or.inl rfl)) rfl x.n_isinstance b_isinstance rfl x.n_bool b_bool)) (se_one (se_chain (o_le rfl hr.room) (o_le rfl hr.room) (se_var 1 rfl (Or.inl rfl)) (se_var 0 rfl (Or.inl rfl)) (se_var 2 rfl (Or.inl rfl)))))))))).frz
def e__law_are_numbers_0 : SemE :=
  (mC (.int 1))
def i__law_are_numbers_0 : SemT :=
  (mNotT (mTru (mCall F__law_is_number (mCons (mVar 3) (mCons (mOp (gD2 subD) (mC (.int 0)) (mVar 2)) (mCons (mVar 2) mNil))))))
def c__law_are_numbers_0 : SemE :=
  (mLc (mSeqR (mVar 0)) [3] (mG 3) i__law_are_numbers_0 e__law_are_numbers_0)
def f__law_are_numbers : SemS :=
  (mSeq (mIfS (mOrT (mNotT (mTru (mIs "tuple" (mVar 0)))) (mNotT (mTst (mChainU (gV leD) (gV leD) (mC (.int 1)) (mCB gLen (mCons (mVar 0) mNil)) (mVar 1))))) (mRet (mC (.bool false))) mNext)
    (mRet (mAndV (mOp (gV eqD) c__law_are_numbers_0 (mLst mNil)) (mOp (gV eqD) (mCB gSortedSet (mCons (mVar 0) mNil)) (mCB gList (mCons (mVar 0) mNil))))))
def F__law_are_numbers : SemF := frzF (runF 4 (f__law_are_numbers))
theorem sc__law_are_numbers : FnScope ["value", "most", "high", "each"] ["value", "most", "high"] (defScope s__law_are_numbers) := ⟨rfl, rfl, rfl, by decide +kernel, rfl, by decide +kernel, by decide +kernel⟩
theorem ok__law_are_numbers (x : Fx K mg base) : DefS P w K mg base (gd K) (2) "_law_are_numbers" s__law_are_numbers ["value", "most", "high"] (F__law_are_numbers) :=
  (def_okS x.d__law_are_numbers x.g__law_are_numbers sc__law_are_numbers (by decide +kernel) (fun _ _ _ _ _ _ us hl => match us, hl with | [_, _, _], _ => rfl) (fun cdv A outer s H E hcd hr X hX tk hp cn => by
    subst hX
    have ND := sc__law_are_numbers.nd
    exact (sl_cons (ss_if (st_of (sw_or (st_not (st_val rfl (se_is (T := "tuple") (by decide) rfl (se_var 0 rfl (Or.inl rfl)) rfl x.n_isinstance b_isinstance rfl x.n_tuple b_tuple))) (sw_or1 (st_not (st_chain (o_le rfl hr.room) (o_le rfl hr.room) se_int (se_callB call_len cs_len rfl x.n_len b_len (sa_cons (se_var 0 rfl (Or.inl rfl)) sa_nil)) (se_var 1 rfl (Or.inl rfl))))))) (sl_one (ss_ret se_bool)) sl_nil)
    (sl_one (ss_ret (se_and (se_eqV rfl hr.room (se_lc (own := [("each", 3)]) rfl ND (si_seqR rfl (se_var 0 rfl (Or.inl rfl))) (blkOk_by (by kernel_rfl)) (fun s_ H_ C_ cl_ fp_ => (wg_name (i := 3) (by decide) ND rfl (Or.inl rfl))) (fun s_ H_ C_ cl_ fp_ => (sts_one (st_not (st_val rfl (se_callS (ok__law_is_number x) hr (by decide) rfl tk0 rfl (sa_cons (se_var 3 rfl (Or.inl rfl)) (sa_cons (se_sub rfl se_int (se_var 2 rfl (Or.inr (Or.inl rfl)))) (sa_cons (se_var 2 rfl (Or.inr (Or.inl rfl))) sa_nil))) (mCons_len (mCons_len (mCons_len (fun _ _ _ _ h => mNil_len h))))))))) (fun s_ H_ C_ cl_ fp_ => se_int)) (se_lst sa_nil)) (se_one (se_eqV rfl hr.room (se_sortedSet rfl rfl (u65 hr.room) rfl x.n_sorted b_sorted rfl x.n_set b_set (sa_cons (se_var 0 rfl (Or.inl rfl)) sa_nil)) (se_callTy call_list_of cs_list rfl x.n_list b_list (sa_cons (se_var 0 rfl (Or.inl rfl)) sa_nil)))))))))).frz
def b__law_is_school_0 : SemS :=
  (mWipe [1, 2] (mIfS (mNotT (mTru (mCall F__law_are_numbers (mCons (mVar 1) (mCons (mVar 2) (mCons (mOp gIx (mVar 0) (mC (.int 0))) mNil)))))) (mRet (mC (.bool false))) mNext))
def t__law_is_school_0 : SemG :=
  (mGTup 2 (fun us en st => if hasOwnL us.tail = false then mGCons (mG 1) (fun us en st => if hasOwnL us.tail = false then mGCons (mG 2) mGNil us en st else .bad) us en st else .bad))
def l__law_is_school_0 : SemS :=
  (mFor (mZip (mOp (gD2 addD) (mSl (mVar 0) (mPart (mC (.int 1))) (mPart (mC (.int 4)))) (mSl (mVar 0) (mPart (mC (.int 5))) mNoPart)) (mTup (mCons (mC (.int 5)) (mCons (mC (.int 7)) (mCons (mC (.int 9)) (mCons (mC (.int 9)) (mCons (mC (.int 9)) mNil))))))) t__law_is_school_0
    b__law_is_school_0)
def e__law_is_school_0 : SemE :=
  (mC (.int 1))
def i__law_is_school_0 : SemT :=
  (mTst (mOp (gV (inD true)) (mVar 4) (mOp gIx (mVar 0) (mC (.int 3)))))
def c__law_is_school_0 : SemE :=
  (mLc (mSeqR (mVar 1)) [4] (mG 4) i__law_is_school_0 e__law_is_school_0)
def b__law_is_school_1 : SemS :=
  (mWipe [1] (mIfS (mTst (mOp (gV neD) c__law_is_school_0 (mLst mNil))) (mRet (mC (.bool false))) mNext))
def l__law_is_school_1 : SemS :=
  (mFor (mSeqR (mSl (mVar 0) (mPart (mC (.int 5))) mNoPart)) (mG 1)
    b__law_is_school_1)
def e__law_is_school_1 : SemE :=
  (mC (.int 1))
def i__law_is_school_1 : SemT :=
  (mNotT (mTru (mCall F__law_is_number (mCons (mVar 4) (mCons (mNeg (mC (.int 8))) (mCons (mC (.int 8)) mNil))))))
def c__law_is_school_1 : SemE :=
  (mLc (mSeqR (mVar 3)) [4] (mG 4) i__law_is_school_1 e__law_is_school_1)
def b__law_is_school_2 : SemS :=
  (mWipe [3] (mSeq (mIfS (mOrT (mNotT (mTru (mIs "tuple" (mVar 3)))) (mTst (mOp (gV neD) (mCB gLen (mCons (mVar 3) mNil)) (mC (.int 3))))) (mRet (mC (.bool false))) mNext)
    (mSeq (mIfS (mTst (mOp (gV neD) c__law_is_school_1 (mLst mNil))) (mRet (mC (.bool false))) mNext)
    (mIfS (mOrT (mTst (mOp (gV (inD true)) (mOp gIx (mVar 3) (mC (.int 0))) (mOp gIx (mVar 0) (mC (.int 3))))) (mOrT (mTst (mOp (gV (inD true)) (mOp gIx (mVar 3) (mC (.int 1))) (mOp gIx (mVar 0) (mC (.int 1))))) (mTst (mOp (gV (inD true)) (mOp gIx (mVar 3) (mC (.int 2))) (mOp gIx (mVar 0) (mC (.int 2))))))) (mRet (mC (.bool false))) mNext))))
def l__law_is_school_2 : SemS :=
  (mFor (mSeqR (mOp gIx (mVar 0) (mC (.int 4)))) (mG 3)
    b__law_is_school_2)
def f__law_is_school : SemS :=
  (mSeq (mIfS (mOrT (mNotT (mTru (mIs "tuple" (mVar 0)))) (mOrT (mTst (mOp (gV neD) (mCB gLen (mCons (mVar 0) mNil)) (mC (.int 7)))) (mNotT (mTru (mCall F__law_is_number (mCons (mOp gIx (mVar 0) (mC (.int 0))) (mCons (mC (.int 1)) (mCons (mC (.int 8)) mNil)))))))) (mRet (mC (.bool false))) mNext)
    (mSeq l__law_is_school_0
    (mSeq l__law_is_school_1
    (mSeq (mIfS (mOrT (mNotT (mTru (mIs "tuple" (mOp gIx (mVar 0) (mC (.int 4)))))) (mTst (mOp (gD2 gtD) (mCB gLen (mCons (mOp gIx (mVar 0) (mC (.int 4))) mNil)) (mC (.int 20))))) (mRet (mC (.bool false))) mNext)
    (mSeq l__law_is_school_2
    (mRet (mOp (gV eqD) (mCB gSortedSet (mCons (mOp gIx (mVar 0) (mC (.int 4))) mNil)) (mCB gList (mCons (mOp gIx (mVar 0) (mC (.int 4))) mNil)))))))))
def F__law_is_school : SemF := frzF (runF 5 (f__law_is_school))
theorem sc__law_is_school : FnScope ["value", "part", "most", "kind", "each"] ["value"] (defScope s__law_is_school) := ⟨rfl, rfl, rfl, by decide +kernel, rfl, by decide +kernel, by decide +kernel⟩
theorem ok__law_is_school (x : Fx K mg base) : DefS P w K mg base (gd K) (3) "_law_is_school" s__law_is_school ["value"] (F__law_is_school) :=
  (def_okS x.d__law_is_school x.g__law_is_school sc__law_is_school (by decide +kernel) (fun _ _ _ _ _ _ us hl => match us, hl with | [_], _ => rfl) (fun cdv A outer s H E hcd hr X hX tk hp cn => by
    subst hX
    have ND := sc__law_is_school.nd
    exact (sl_cons (ss_if (st_of (sw_or (st_not (st_val rfl (se_is (T := "tuple") (by decide) rfl (se_var 0 rfl (Or.inr (Or.inl rfl))) rfl x.n_isinstance b_isinstance rfl x.n_tuple b_tuple))) (sw_or (st_neV rfl hr.room (se_callB call_len cs_len rfl x.n_len b_len (sa_cons (se_var 0 rfl (Or.inr (Or.inl rfl))) sa_nil)) se_int) (sw_or1 (st_not (st_val rfl (se_callS (ok__law_is_number x) hr (by decide) rfl tk rfl (sa_cons (se_ix rfl (se_var 0 rfl (Or.inr (Or.inl rfl))) se_int) (sa_cons se_int (sa_cons se_int sa_nil))) (mCons_len (mCons_len (mCons_len (fun _ _ _ _ h => mNil_len h))))))))))) (sl_one (ss_ret se_bool)) sl_nil)
    (sl_cons (ss_for hp rfl (si_zip rfl rfl x.n_zip (se_add rfl (se_sl rfl (se_var 0 rfl (Or.inr (Or.inl rfl))) (so_some se_int) (so_some se_int)) (se_sl rfl (se_var 0 rfl (Or.inr (Or.inl rfl))) (so_some se_int) so_none)) (se_tup (sa_cons se_int (sa_cons se_int (sa_cons se_int (sa_cons se_int (sa_cons se_int sa_nil))))))) (sg_tup rfl rfl (sgs_cons (sg_name (i := 1) ND rfl (Or.inl rfl) (nc_def cn rfl rfl)) (sgs_cons (sg_name (i := 2) ND rfl (Or.inl rfl) (nc_def cn rfl rfl)) sgs_nil)))
    (sl_wipe [1, 2] (sl_one (ss_if (st_not (st_val rfl (se_callS (ok__law_are_numbers x) hr (by decide) rfl tk rfl (sa_cons (se_var 1 rfl (Or.inl rfl)) (sa_cons (se_var 2 rfl (Or.inl rfl)) (sa_cons (se_ix rfl (se_var 0 rfl (Or.inr (Or.inl rfl))) se_int) sa_nil))) (mCons_len (mCons_len (mCons_len (fun _ _ _ _ h => mNil_len h))))))) (sl_one (ss_ret se_bool)) sl_nil))))
    (sl_cons (ss_for hp rfl (si_seqR rfl (se_sl rfl (se_var 0 rfl (Or.inr (Or.inl rfl))) (so_some se_int) so_none)) (sg_name (i := 1) ND rfl (Or.inl rfl) (nc_def cn rfl rfl))
    (sl_wipe [1] (sl_one (ss_if (st_neV rfl hr.room (se_lc (own := [("each", 4)]) rfl ND (si_seqR rfl (se_var 1 rfl (Or.inl rfl))) (blkOk_by (by kernel_rfl)) (fun s_ H_ C_ cl_ fp_ => (wg_name (i := 4) (by decide) ND rfl (Or.inl rfl))) (fun s_ H_ C_ cl_ fp_ => (sts_one (st_notInV rfl hr.room (se_var 4 rfl (Or.inl rfl)) (se_ix rfl (se_var 0 rfl (Or.inr (Or.inl rfl))) se_int)))) (fun s_ H_ C_ cl_ fp_ => se_int)) (se_lst sa_nil)) (sl_one (ss_ret se_bool)) sl_nil))))
    (sl_cons (ss_if (st_of (sw_or (st_not (st_val rfl (se_is (T := "tuple") (by decide) rfl (se_ix rfl (se_var 0 rfl (Or.inr (Or.inl rfl))) se_int) rfl x.n_isinstance b_isinstance rfl x.n_tuple b_tuple))) (sw_or1 (st_gt rfl hr.room (se_callB call_len cs_len rfl x.n_len b_len (sa_cons (se_ix rfl (se_var 0 rfl (Or.inr (Or.inl rfl))) se_int) sa_nil)) se_int)))) (sl_one (ss_ret se_bool)) sl_nil)
    (sl_cons (ss_for hp rfl (si_seqR rfl (se_ix rfl (se_var 0 rfl (Or.inr (Or.inl rfl))) se_int)) (sg_name (i := 3) ND rfl (Or.inl rfl) (nc_def cn rfl rfl))
    (sl_wipe [3] (sl_cons (ss_if (st_of (sw_or (st_not (st_val rfl (se_is (T := "tuple") (by decide) rfl (se_var 3 rfl (Or.inl rfl)) rfl x.n_isinstance b_isinstance rfl x.n_tuple b_tuple))) (sw_or1 (st_neV rfl hr.room (se_callB call_len cs_len rfl x.n_len b_len (sa_cons (se_var 3 rfl (Or.inl rfl)) sa_nil)) se_int)))) (sl_one (ss_ret se_bool)) sl_nil)
    (sl_cons (ss_if (st_neV rfl hr.room (se_lc (own := [("each", 4)]) rfl ND (si_seqR rfl (se_var 3 rfl (Or.inl rfl))) (blkOk_by (by kernel_rfl)) (fun s_ H_ C_ cl_ fp_ => (wg_name (i := 4) (by decide) ND rfl (Or.inl rfl))) (fun s_ H_ C_ cl_ fp_ => (sts_one (st_not (st_val rfl (se_callS (ok__law_is_number x) hr (by decide) rfl tk0 rfl (sa_cons (se_var 4 rfl (Or.inl rfl)) (sa_cons (se_neg se_int) (sa_cons se_int sa_nil))) (mCons_len (mCons_len (mCons_len (fun _ _ _ _ h => mNil_len h))))))))) (fun s_ H_ C_ cl_ fp_ => se_int)) (se_lst sa_nil)) (sl_one (ss_ret se_bool)) sl_nil)
    (sl_one (ss_if (st_of (sw_or (st_notInV rfl hr.room (se_ix rfl (se_var 3 rfl (Or.inl rfl)) se_int) (se_ix rfl (se_var 0 rfl (Or.inr (Or.inl rfl))) se_int)) (sw_or (st_notInV rfl hr.room (se_ix rfl (se_var 3 rfl (Or.inl rfl)) se_int) (se_ix rfl (se_var 0 rfl (Or.inr (Or.inl rfl))) se_int)) (sw_or1 (st_notInV rfl hr.room (se_ix rfl (se_var 3 rfl (Or.inl rfl)) se_int) (se_ix rfl (se_var 0 rfl (Or.inr (Or.inl rfl))) se_int)))))) (sl_one (ss_ret se_bool)) sl_nil))))))
    (sl_one (ss_ret (se_eqV rfl hr.room (se_sortedSet rfl rfl (u65 hr.room) rfl x.n_sorted b_sorted rfl x.n_set b_set (sa_cons (se_ix rfl (se_var 0 rfl (Or.inr (Or.inl rfl))) se_int) sa_nil)) (se_callTy call_list_of cs_list rfl x.n_list b_list (sa_cons (se_ix rfl (se_var 0 rfl (Or.inr (Or.inl rfl))) se_int) sa_nil)))))))))))).frz
def f__law_bent (rec : SemF) : SemS :=
  (mSeq (mAsgT (mTup (mCons (mC .none) (mCons (mC (.bool true)) (mCons (mC (.bool false)) (mCons (mC (.int 0)) (mCons (mC (.int 1)) (mCons (mNeg (mC (.int 1))) (mCons (mC (.int 2)) (mCons (mC (.int 9)) (mCons (mNeg (mC (.int 9))) (mCons (mOp (gD2 powD) (mC (.int 10)) (mC (.int 30))) (mCons (mC (.str "")) (mCons (mTup mNil) (mCons (mTup (mCons (mC (.int 0)) mNil)) (mCons (mTup (mCons (mC (.int 0)) (mCons (mC (.int 0)) (mCons (mC (.int 0)) mNil)))) (mCons (mLst mNil) mNil)))))))))))))))) (mG 2))
    (mSeq (mIfS (mOrT (mNotT (mTru (mIs "tuple" (mVar 1)))) (mOrT (mTst (mOp (gV eqD) (mVar 1) (mTup mNil))) (mTst (mOp (gV eqD) (mCall F__law_draw (mCons (mVar 0) (mCons (mC (.int 5)) mNil))) (mC (.int 0)))))) (mRet (mCall F__law_of (mCons (mVar 0) (mCons (mVar 2) mNil)))) mNext)
    (mSeq (mPar2 3 4 (mCons (mCall F__law_draw (mCons (mVar 0) (mCons (mCB gLen (mCons (mVar 1) mNil)) mNil))) (mCons (mCall F__law_draw (mCons (mVar 0) (mCons (mC (.int 9)) mNil))) mNil)))
    (mSeq (mIfS (mTst (mOp (gD2 ltD) (mVar 4) (mC (.int 5)))) (mRet (mOp (gD2 addD) (mOp (gD2 addD) (mSl (mVar 1) mNoPart (mPart (mVar 3))) (mTup (mCons (mCall rec (mCons (mVar 0) (mCons (mOp gIx (mVar 1) (mVar 3)) mNil))) mNil))) (mSl (mVar 1) (mPart (mOp (gD2 addD) (mVar 3) (mC (.int 1)))) mNoPart))) mNext)
    (mSeq (mAsgT (mLst (mCons (mOp (gD2 addD) (mSl (mVar 1) mNoPart (mPart (mVar 3))) (mSl (mVar 1) (mPart (mOp (gD2 addD) (mVar 3) (mC (.int 1)))) mNoPart)) (mCons (mOp (gD2 addD) (mVar 1) (mSl (mVar 1) (mPart (mNeg (mC (.int 1)))) mNoPart)) (mCons (mCB gList (mCons (mVar 1) mNil)) (mCons (mRevT (mVar 1)) (mCons (mTup (mCons (mVar 1) mNil)) mNil)))))) (mG 5))
    (mRet (mCall F__law_of (mCons (mVar 0) (mCons (mOp (gD2 addD) (mVar 5) (mLst (mCons (mOp (gD2 addD) (mSl (mVar 1) (mPart (mVar 3)) mNoPart) (mSl (mVar 1) mNoPart (mPart (mVar 3)))) mNil))) mNil)))))))))
def F__law_bent : Nat → SemF
  | 0 => frzF (runF 6 fun _ _ => .bad)
  | n + 1 => frzF (runF 6 (f__law_bent (F__law_bent n)))
theorem sc__law_bent : FnScope ["well", "value", "some", "at", "way", "more"] ["well", "value"] (defScope s__law_bent) := ⟨rfl, rfl, rfl, by decide +kernel, rfl, by decide +kernel, by decide +kernel⟩
theorem ok__law_bent (x : Fx K mg base) : ∀ n : Nat, DefS P w K mg base (gd K) (2 + n + 1) "_law_bent" s__law_bent ["well", "value"] (F__law_bent n)
  | 0 => (def_okS x.d__law_bent x.g__law_bent sc__law_bent (by decide +kernel) (fun _ _ _ _ _ _ us hl => match us, hl with | [_, _], _ => rfl) (fun cdv A outer s H E hcd hr X hX tk hp cn => sl_bad)).frz
  | n + 1 => (def_okS x.d__law_bent x.g__law_bent sc__law_bent (by decide +kernel) (fun _ _ _ _ _ _ us hl => match us, hl with | [_, _], _ => rfl) (fun cdv A outer s H E hcd hr X hX tk hp cn => by
    subst hX
    have ND := sc__law_bent.nd
    exact (sl_cons (ss_set (i := 2) ND rfl (Or.inl rfl) (se_tup (sa_cons se_none (sa_cons se_bool (sa_cons se_bool (sa_cons se_int (sa_cons se_int (sa_cons (se_neg se_int) (sa_cons se_int (sa_cons se_int (sa_cons (se_neg se_int) (sa_cons (se_pow rfl se_int se_int) (sa_cons se_str (sa_cons (se_tup sa_nil) (sa_cons (se_tup (sa_cons se_int sa_nil)) (sa_cons (se_tup (sa_cons se_int (sa_cons se_int (sa_cons se_int sa_nil)))) (sa_cons (se_lst sa_nil) sa_nil)))))))))))))))) (nc_def cn rfl rfl))
    (sl_cons (ss_if (st_of (sw_or (st_not (st_val rfl (se_is (T := "tuple") (by decide) rfl (se_var 1 rfl (Or.inl rfl)) rfl x.n_isinstance b_isinstance rfl x.n_tuple b_tuple))) (sw_or (st_eqV rfl hr.room (se_var 1 rfl (Or.inl rfl)) (se_tup sa_nil)) (sw_or1 (st_eqV rfl hr.room (se_callS (ok__law_draw x) hr (by omega) rfl tk rfl (sa_cons (se_var 0 rfl (Or.inl rfl)) (sa_cons se_int sa_nil)) (mCons_len (mCons_len (fun _ _ _ _ h => mNil_len h)))) se_int))))) (sl_one (ss_ret (se_callS (ok__law_of x) hr (by omega) rfl tk rfl (sa_cons (se_var 0 rfl (Or.inl rfl)) (sa_cons (se_var 2 rfl (Or.inl rfl)) sa_nil)) (mCons_len (mCons_len (fun _ _ _ _ h => mNil_len h)))))) sl_nil)
    (sl_cons (ss_par2 (i := 3) (j := 4) rfl ND rfl rfl (by decide) rfl rfl (nc_def cn rfl rfl) (nc_def cn rfl rfl) (sa_cons (se_callS (ok__law_draw x) hr (by omega) rfl tk rfl (sa_cons (se_var 0 rfl (Or.inl rfl)) (sa_cons (se_callB call_len cs_len rfl x.n_len b_len (sa_cons (se_var 1 rfl (Or.inl rfl)) sa_nil)) sa_nil)) (mCons_len (mCons_len (fun _ _ _ _ h => mNil_len h)))) (sa_cons (se_callS (ok__law_draw x) hr (by omega) rfl tk rfl (sa_cons (se_var 0 rfl (Or.inl rfl)) (sa_cons se_int sa_nil)) (mCons_len (mCons_len (fun _ _ _ _ h => mNil_len h)))) sa_nil)))
    (sl_cons (ss_if (st_lt rfl hr.room (se_var 4 rfl (Or.inl rfl)) se_int) (sl_one (ss_ret (se_add rfl (se_add rfl (se_sl rfl (se_var 1 rfl (Or.inl rfl)) so_none (so_some (se_var 3 rfl (Or.inl rfl)))) (se_tup (sa_cons (se_callS (ok__law_bent x n) hr (by omega) rfl tk rfl (sa_cons (se_var 0 rfl (Or.inl rfl)) (sa_cons (se_ix rfl (se_var 1 rfl (Or.inl rfl)) (se_var 3 rfl (Or.inl rfl))) sa_nil)) (mCons_len (mCons_len (fun _ _ _ _ h => mNil_len h)))) sa_nil))) (se_sl rfl (se_var 1 rfl (Or.inl rfl)) (so_some (se_add rfl (se_var 3 rfl (Or.inl rfl)) se_int)) so_none)))) sl_nil)
    (sl_cons (ss_set (i := 5) ND rfl (Or.inl rfl) (se_lst (sa_cons (se_add rfl (se_sl rfl (se_var 1 rfl (Or.inl rfl)) so_none (so_some (se_var 3 rfl (Or.inl rfl)))) (se_sl rfl (se_var 1 rfl (Or.inl rfl)) (so_some (se_add rfl (se_var 3 rfl (Or.inl rfl)) se_int)) so_none)) (sa_cons (se_add rfl (se_var 1 rfl (Or.inl rfl)) (se_sl rfl (se_var 1 rfl (Or.inl rfl)) (so_some (se_neg se_int)) so_none)) (sa_cons (se_callTy call_list_of cs_list rfl x.n_list b_list (sa_cons (se_var 1 rfl (Or.inl rfl)) sa_nil)) (sa_cons (se_revT rfl (se_var 1 rfl (Or.inl rfl))) (sa_cons (se_tup (sa_cons (se_var 1 rfl (Or.inl rfl)) sa_nil)) sa_nil)))))) (nc_def cn rfl rfl))
    (sl_one (ss_ret (se_callS (ok__law_of x) hr (by omega) rfl tk rfl (sa_cons (se_var 0 rfl (Or.inl rfl)) (sa_cons (se_add rfl (se_var 5 rfl (Or.inl rfl)) (se_lst (sa_cons (se_add rfl (se_sl rfl (se_var 1 rfl (Or.inl rfl)) (so_some (se_var 3 rfl (Or.inl rfl))) so_none) (se_sl rfl (se_var 1 rfl (Or.inl rfl)) so_none (so_some (se_var 3 rfl (Or.inl rfl))))) sa_nil))) sa_nil)) (mCons_len (mCons_len (fun _ _ _ _ h => mNil_len h))))))))))))).frz
def e__law_edges_0 : SemE :=
  (mCB gTuple (mCons (mCall F__law_unlike (mCons (mVar 0) (mCons (mVar 2) (mCons (mVar 14) mNil)))) mNil))
def c__law_edges_0 : SemE :=
  (mLc (mSeqR (mVar 3)) [14] (mG 14) (fun _ st => .ok true st) e__law_edges_0)
def a__law_edges_0 : SemS :=
  (mAsgT c__law_edges_0 (mGLst 3 (fun us en st => if hasOwnL us.tail = false then mGCons (mG 4) (fun us en st => if hasOwnL us.tail = false then mGCons (mG 5) (fun us en st => if hasOwnL us.tail = false then mGCons (mG 6) mGNil us en st else .bad) us en st else .bad) us en st else .bad)))
def e__law_edges_1 : SemE :=
  (mTup (mCons (mVar 8) (mCons (mVar 9) (mCons (mVar 15) mNil))))
def c__law_edges_1 : SemE :=
  (mLc (mSeqR (mSl (mVar 5) mNoPart (mPart (mC (.int 2))))) [15] (mG 15) (fun _ st => .ok true st) e__law_edges_1)
def b__law_edges_0 : SemS :=
  (mWipe [9] (mAsgT (mOp (gD2 addD) (mVar 7) c__law_edges_1) (mG 7)))
def l__law_edges_0 : SemS :=
  (mFor (mSeqR (mSl (mVar 4) mNoPart (mPart (mC (.int 3))))) (mGC 9)
    b__law_edges_0)
def b__law_edges_1 : SemS :=
  (mWipe [8, 9] l__law_edges_0)
def l__law_edges_1 : SemS :=
  (mFor (mSeqR (mSl (mVar 6) mNoPart (mPart (mC (.int 4))))) (mGC 8)
    b__law_edges_1)
def f__law_edges : SemS :=
  (mSeq (mAsgT (mCall F__law_of (mCons (mVar 0) (mCons (mTup (mCons (mC (.int 7)) (mCons (mC (.int 8)) (mCons (mC (.int 9)) mNil)))) mNil))) (mG 1))
    (mSeq (mAsgT (mLstRg (mR2 (mOp (gD2 subD) (mC (.int 0)) (mVar 1)) (mOp (gD2 addD) (mVar 1) (mC (.int 1))))) (mGC 2))
    (mSeq (mAsgT (mLst (mCons (mCall F__law_of (mCons (mVar 0) (mCons (mTup (mCons (mC (.int 5)) (mCons (mC (.int 6)) mNil))) mNil))) (mCons (mCall F__law_of (mCons (mVar 0) (mCons (mTup (mCons (mC (.int 7)) (mCons (mC (.int 8)) mNil))) mNil))) (mCons (mCall F__law_of (mCons (mVar 0) (mCons (mTup (mCons (mC (.int 9)) (mCons (mC (.int 10)) mNil))) mNil))) mNil)))) (mG 3))
    (mSeq a__law_edges_0
    (mSeq (mAsgT (mLst mNil) (mG 7))
    (mSeq l__law_edges_1
    (mSeq (mAsgT (mCB gTuple (mCons (mSl (mCB gSorted (mCons (mVar 7) mNil)) mNoPart (mPart (mCall F__law_of (mCons (mVar 0) (mCons (mTup (mCons (mC (.int 20)) (mCons (mC (.int 21)) (mCons (mC (.int 20)) (mCons (mC (.int 0)) mNil))))) mNil))))) mNil)) (mG 10))
    (mSeq (mAsgT (mTup (mCons (mVar 1) (mCons (mVar 4) (mCons (mVar 5) (mCons (mVar 6) (mCons (mVar 10) (mCons (mSl (mVar 6) mNoPart (mPart (mC (.int 1)))) (mCons (mSl (mVar 6) (mPart (mNeg (mC (.int 1)))) mNoPart) mNil)))))))) (mG 11))
    (mSeq (mAsgT (mTup (mCons (mVar 1) (mCons (mTup (mCons (mOp (gD2 addD) (mVar 1) (mC (.int 1))) mNil)) (mCons (mSl (mVar 5) mNoPart (mPart (mC (.int 3)))) (mCons (mSl (mVar 6) mNoPart (mPart (mC (.int 3)))) (mCons (mTup mNil) (mCons (mSl (mVar 6) mNoPart (mPart (mC (.int 1)))) (mCons (mSl (mVar 6) mNoPart (mPart (mC (.int 1)))) mNil)))))))) (mG 12))
    (mSeq (mAsgT (mTup (mCons (mVar 1) (mCons (mSl (mVar 4) mNoPart (mPart (mC (.int 2)))) (mCons (mTup (mCons (mOp (gD2 subD) (mOp (gD2 subD) (mC (.int 0)) (mVar 1)) (mC (.int 1))) mNil)) (mCons (mSl (mVar 6) mNoPart (mPart (mC (.int 3)))) (mCons (mTup mNil) (mCons (mSl (mVar 6) mNoPart (mPart (mC (.int 1)))) (mCons (mSl (mVar 6) mNoPart (mPart (mC (.int 1)))) mNil)))))))) (mG 13))
    (mRet (mCall F__law_of (mCons (mVar 0) (mCons (mLst (mCons (mVar 11) (mCons (mVar 11) (mCons (mVar 12) (mCons (mVar 13) (mCons (mOp (gD2 addD) (mOp (gD2 addD) (mSl (mVar 11) mNoPart (mPart (mC (.int 4)))) (mTup (mCons (mRevT (mVar 10)) mNil))) (mSl (mVar 11) (mPart (mC (.int 5))) mNoPart)) (mCons (mOp (gD2 addD) (mSl (mVar 11) mNoPart (mPart (mC (.int 5)))) (mTup (mCons (mTup mNil) (mCons (mSl (mVar 6) mNoPart (mPart (mC (.int 1)))) mNil)))) mNil))))))) mNil))))))))))))))
def F__law_edges : SemF := frzF (runF 16 (f__law_edges))
theorem sc__law_edges : FnScope ["well", "high", "every", "sizes", "steps", "other", "gaps", "kinds", "gap", "step", "barred", "value", "far", "low", "size", "two"] ["well"] (defScope s__law_edges) := ⟨rfl, rfl, rfl, by decide +kernel, rfl, by decide +kernel, by decide +kernel⟩
theorem ok__law_edges (x : Fx K mg base) : DefS P w K mg base (gd K) (3) "_law_edges" s__law_edges ["well"] (F__law_edges) :=
  (def_okS x.d__law_edges x.g__law_edges sc__law_edges (by decide +kernel) (fun _ _ _ _ _ _ us hl => match us, hl with | [_], _ => rfl) (fun cdv A outer s H E hcd hr X hX tk hp cn => by
    subst hX
    have ND := sc__law_edges.nd
    exact (sl_cons (ss_set (i := 1) ND rfl (Or.inl rfl) (se_callS (ok__law_of x) hr (by decide) rfl tk rfl (sa_cons (se_var 0 rfl (Or.inr (Or.inl rfl))) (sa_cons (se_tup (sa_cons se_int (sa_cons se_int (sa_cons se_int sa_nil)))) sa_nil)) (mCons_len (mCons_len (fun _ _ _ _ h => mNil_len h)))) (nc_def cn rfl rfl))
    (sl_cons (ss_setC (i := 2) ND rfl (Or.inr rfl) (se_listRg rfl rfl x.n_list (sr_2 rfl x.n_range (se_sub rfl se_int (se_var 1 rfl (Or.inl rfl))) (se_add rfl (se_var 1 rfl (Or.inl rfl)) se_int))))
    (sl_cons (ss_set (i := 3) ND rfl (Or.inl rfl) (se_lst (sa_cons (se_callS (ok__law_of x) hr (by decide) rfl tk rfl (sa_cons (se_var 0 rfl (Or.inr (Or.inl rfl))) (sa_cons (se_tup (sa_cons se_int (sa_cons se_int sa_nil))) sa_nil)) (mCons_len (mCons_len (fun _ _ _ _ h => mNil_len h)))) (sa_cons (se_callS (ok__law_of x) hr (by decide) rfl tk rfl (sa_cons (se_var 0 rfl (Or.inr (Or.inl rfl))) (sa_cons (se_tup (sa_cons se_int (sa_cons se_int sa_nil))) sa_nil)) (mCons_len (mCons_len (fun _ _ _ _ h => mNil_len h)))) (sa_cons (se_callS (ok__law_of x) hr (by decide) rfl tk rfl (sa_cons (se_var 0 rfl (Or.inr (Or.inl rfl))) (sa_cons (se_tup (sa_cons se_int (sa_cons se_int sa_nil))) sa_nil)) (mCons_len (mCons_len (fun _ _ _ _ h => mNil_len h)))) sa_nil)))) (nc_def cn rfl rfl))
    (sl_cons (ss_asg (se_lc (own := [("size", 14)]) rfl ND (si_seqR rfl (se_var 3 rfl (Or.inl rfl))) (blkOk_by (by kernel_rfl)) (fun s_ H_ C_ cl_ fp_ => (wg_name (i := 14) (by decide) ND rfl (Or.inl rfl))) (fun s_ H_ C_ cl_ fp_ => sts_nil) (fun s_ H_ C_ cl_ fp_ => (se_callTy call_tuple_of cs_tuple rfl x.n_tuple b_tuple (sa_cons (se_callS (ok__law_unlike x) hr (by decide) rfl tk0 rfl (sa_cons (se_var 0 rfl (Or.inr (Or.inl rfl))) (sa_cons (se_var 2 rfl (Or.inr (Or.inl rfl))) (sa_cons (se_var 14 rfl (Or.inl rfl)) sa_nil))) (mCons_len (mCons_len (mCons_len (fun _ _ _ _ h => mNil_len h))))) sa_nil)))) (sg_lst rfl rfl (sgs_cons (sg_name (i := 4) ND rfl (Or.inl rfl) (nc_def cn rfl rfl)) (sgs_cons (sg_name (i := 5) ND rfl (Or.inl rfl) (nc_def cn rfl rfl)) (sgs_cons (sg_name (i := 6) ND rfl (Or.inl rfl) (nc_def cn rfl rfl)) sgs_nil)))))
    (sl_cons (ss_set (i := 7) ND rfl (Or.inl rfl) (se_lst sa_nil) (nc_def cn rfl rfl))
    (sl_cons (ss_for hp rfl (si_seqR rfl (se_sl rfl (se_var 6 rfl (Or.inl rfl)) so_none (so_some se_int))) (sg_cell (i := 8) ND rfl (Or.inr rfl))
    (sl_wipe [8, 9] (sl_one (ss_for hp rfl (si_seqR rfl (se_sl rfl (se_var 4 rfl (Or.inl rfl)) so_none (so_some se_int))) (sg_cell (i := 9) ND rfl (Or.inr rfl))
    (sl_wipe [9] (sl_one (ss_set (i := 7) ND rfl (Or.inl rfl) (se_add rfl (se_var 7 rfl (Or.inl rfl)) (se_lc (own := [("two", 15)]) rfl ND (si_seqR rfl (se_sl rfl (se_var 5 rfl (Or.inl rfl)) so_none (so_some se_int))) (blkOk_by (by kernel_rfl)) (fun s_ H_ C_ cl_ fp_ => (wg_name (i := 15) (by decide) ND rfl (Or.inl rfl))) (fun s_ H_ C_ cl_ fp_ => sts_nil) (fun s_ H_ C_ cl_ fp_ => (se_tup (sa_cons (se_var 8 rfl (Or.inr (Or.inl rfl))) (sa_cons (se_var 9 rfl (Or.inr (Or.inl rfl))) (sa_cons (se_var 15 rfl (Or.inl rfl)) sa_nil))))))) (nc_def cn rfl rfl))))))))
    (sl_cons (ss_set (i := 10) ND rfl (Or.inl rfl) (se_callTy call_tuple_of cs_tuple rfl x.n_tuple b_tuple (sa_cons (se_sl rfl (se_callB (cr_sortD (u65 hr.room)) cs_sorted rfl x.n_sorted b_sorted (sa_cons (se_var 7 rfl (Or.inl rfl)) sa_nil)) so_none (so_some (se_callS (ok__law_of x) hr (by decide) rfl tk rfl (sa_cons (se_var 0 rfl (Or.inr (Or.inl rfl))) (sa_cons (se_tup (sa_cons se_int (sa_cons se_int (sa_cons se_int (sa_cons se_int sa_nil))))) sa_nil)) (mCons_len (mCons_len (fun _ _ _ _ h => mNil_len h)))))) sa_nil)) (nc_def cn rfl rfl))
    (sl_cons (ss_set (i := 11) ND rfl (Or.inl rfl) (se_tup (sa_cons (se_var 1 rfl (Or.inl rfl)) (sa_cons (se_var 4 rfl (Or.inl rfl)) (sa_cons (se_var 5 rfl (Or.inl rfl)) (sa_cons (se_var 6 rfl (Or.inl rfl)) (sa_cons (se_var 10 rfl (Or.inl rfl)) (sa_cons (se_sl rfl (se_var 6 rfl (Or.inl rfl)) so_none (so_some se_int)) (sa_cons (se_sl rfl (se_var 6 rfl (Or.inl rfl)) (so_some (se_neg se_int)) so_none) sa_nil)))))))) (nc_def cn rfl rfl))
    (sl_cons (ss_set (i := 12) ND rfl (Or.inl rfl) (se_tup (sa_cons (se_var 1 rfl (Or.inl rfl)) (sa_cons (se_tup (sa_cons (se_add rfl (se_var 1 rfl (Or.inl rfl)) se_int) sa_nil)) (sa_cons (se_sl rfl (se_var 5 rfl (Or.inl rfl)) so_none (so_some se_int)) (sa_cons (se_sl rfl (se_var 6 rfl (Or.inl rfl)) so_none (so_some se_int)) (sa_cons (se_tup sa_nil) (sa_cons (se_sl rfl (se_var 6 rfl (Or.inl rfl)) so_none (so_some se_int)) (sa_cons (se_sl rfl (se_var 6 rfl (Or.inl rfl)) so_none (so_some se_int)) sa_nil)))))))) (nc_def cn rfl rfl))
    (sl_cons (ss_set (i := 13) ND rfl (Or.inl rfl) (se_tup (sa_cons (se_var 1 rfl (Or.inl rfl)) (sa_cons (se_sl rfl (se_var 4 rfl (Or.inl rfl)) so_none (so_some se_int)) (sa_cons (se_tup (sa_cons (se_sub rfl (se_sub rfl se_int (se_var 1 rfl (Or.inl rfl))) se_int) sa_nil)) (sa_cons (se_sl rfl (se_var 6 rfl (Or.inl rfl)) so_none (so_some se_int)) (sa_cons (se_tup sa_nil) (sa_cons (se_sl rfl (se_var 6 rfl (Or.inl rfl)) so_none (so_some se_int)) (sa_cons (se_sl rfl (se_var 6 rfl (Or.inl rfl)) so_none (so_some se_int)) sa_nil)))))))) (nc_def cn rfl rfl))
    (sl_one (ss_ret (se_callS (ok__law_of x) hr (by decide) rfl tk rfl (sa_cons (se_var 0 rfl (Or.inr (Or.inl rfl))) (sa_cons (se_lst (sa_cons (se_var 11 rfl (Or.inl rfl)) (sa_cons (se_var 11 rfl (Or.inl rfl)) (sa_cons (se_var 12 rfl (Or.inl rfl)) (sa_cons (se_var 13 rfl (Or.inl rfl)) (sa_cons (se_add rfl (se_add rfl (se_sl rfl (se_var 11 rfl (Or.inl rfl)) so_none (so_some se_int)) (se_tup (sa_cons (se_revT rfl (se_var 10 rfl (Or.inl rfl))) sa_nil))) (se_sl rfl (se_var 11 rfl (Or.inl rfl)) (so_some se_int) so_none)) (sa_cons (se_add rfl (se_sl rfl (se_var 11 rfl (Or.inl rfl)) so_none (so_some se_int)) (se_tup (sa_cons (se_tup sa_nil) (sa_cons (se_sl rfl (se_var 6 rfl (Or.inl rfl)) so_none (so_some se_int)) sa_nil)))) sa_nil))))))) sa_nil)) (mCons_len (mCons_len (fun _ _ _ _ h => mNil_len h)))))))))))))))))).frz
def f__law_told (ap : U → SemF) : SemS :=
  (mTry (mRet (mLst (mCons (mC (.str "told")) (mCons (mCallV ap 0 mNil) mNil)))) ((mt_InvalidSchool, some 1, hRet2 "none") :: []))
def F__law_told (ap : U → SemF) : SemF := frzF (runF 2 (f__law_told ap))
theorem sc__law_told : FnScope ["act", "e"] ["act"] (defScope s__law_told) := ⟨rfl, rfl, rfl, by decide +kernel, rfl, by decide +kernel, by decide +kernel⟩
theorem ok__law_told (x : Fx K mg base) {k0 : Nat} (ap : U → SemF) (hk : 0 ≤ k0) (hap : APOk P w K mg base (gd K) k0 ap) : DefS P w K mg base (gd K) (k0 + 0 + 1) "_law_told" s__law_told ["act"] (F__law_told ap) :=
  (def_okS x.d__law_told x.g__law_told sc__law_told (by decide +kernel) (fun _ _ _ _ _ _ us hl => match us, hl with | [_], _ => rfl) (fun cdv A outer s H E hcd hr X hX tk hp cn => by
    subst hX
    have ND := sc__law_told.nd
    exact (sl_one (ss_try ND rfl rfl tk (fun W2 pn2 xe2 tk2 hp2 => (sl_one (ss_ret (se_lst (sa_cons se_str (sa_cons (se_callV0 (i := 0) (hap.mono (by omega)) hr tk2 rfl (Or.inl rfl)) sa_nil)))))) (.as ⟨rfl, by decide, Or.inl x.g_InvalidSchool⟩ rfl rfl (fun a_ oe_ cls_ d_ pn_ hz_ hf_ => pss_ret2 (i := 1) rfl (Or.inl rfl) hz_ hf_ rfl) .nil) (hsr_ret2 (i := 1) (hm_InvalidSchool x) (hx_InvalidSchool x) .nil) (by intro m hm; simp at hm; subst hm <;> intro z <;> cases z))))).frz
def C_2 : List U → SemF := runCE 1 (mCall F_standings (mCons (mVar 0) mNil))
theorem ns_2 : NScope ["value"] [] ["value"] (c_2).scope := nscope_by (by kernel_rfl)
theorem cok_2 (x : Fx K mg base) : COk P w K mg base (gd K) 10 2 0 C_2 :=
  cok_lam (ci := c_2) (N := ["value"]) (ps := []) rfl rfl ns_2 (fun F doc pm ctv us hF hl => by
    obtain ⟨n, q, pa, b, s, cl, c⟩ := F
    have e : pa = (c_2).params := hF
    subst e
    match us, hl with | [], _ => rfl) (fun A outer s H E f c cl hr hcl X hX tk hp cn => by
    subst hX
    have ND := ns_2.nd
    exact (se_callS (ok_standings x) hr (by decide) rfl tk rfl (sa_cons (se_var 0 rfl (Or.inr (Or.inr rfl))) sa_nil) (mCons_len (fun _ _ _ _ h => mNil_len h))))
def C_3 : List U → SemF := runCE 1 (mCall F_standings (mPerm [0] mNil (mCons (mVar 0) mNil)))
theorem ns_3 : NScope ["value"] [] ["value"] (c_3).scope := nscope_by (by kernel_rfl)
theorem cok_3 (x : Fx K mg base) : COk P w K mg base (gd K) 10 3 0 C_3 :=
  cok_lam (ci := c_3) (N := ["value"]) (ps := []) rfl rfl ns_3 (fun F doc pm ctv us hF hl => by
    obtain ⟨n, q, pa, b, s, cl, c⟩ := F
    have e : pa = (c_3).params := hF
    subst e
    match us, hl with | [], _ => rfl) (fun A outer s H E f c cl hr hcl X hX tk hp cn => by
    subst hX
    have ND := ns_3.nd
    exact (se_callKS (ks := ["school"]) (pm := [0]) (ok_standings x) hr (by decide) rfl tk (fun ws hl => match ws, hl with | [_], _ => fun _ _ _ _ _ _ => rfl) (fun l hl => match l, hl with | [_], _ => rfl) (sk_cons (se_var 0 rfl (Or.inr (Or.inr rfl))) sk_nil) (mCons_len (fun _ _ _ _ h => mNil_len h))))
def e__law_right_0 : SemE :=
  (mCall (F__law_bent 12) (mCons (mVar 0) (mCons (mVar 2) mNil)))
def c__law_right_0 : SemE :=
  (mLc (mRg1 (mC (.int 6))) [11] (mG 11) (fun _ st => .ok true st) e__law_right_0)
def e__law_right_1 : SemE :=
  (mTup (mCons (mVar 10) (mCons (mVar 12) mNil)))
def i__law_right_0 : SemT :=
  (mTst (mOp (gV (inD false)) (mOp (gD2 subD) (mVar 12) (mVar 10)) (mOp gIx (mVar 5) (mC (.int 3)))))
def c__law_right_1 : SemE :=
  (mLc (mRg1 (mOp (gD2 addD) (mOp gIx (mVar 5) (mC (.int 0))) (mC (.int 1)))) [12] (mG 12) i__law_right_0 e__law_right_1)
def b__law_right_0 : SemS :=
  (mWipe [10] (mAsgT (mOp (gD2 addD) (mVar 9) c__law_right_1) (mG 9)))
def l__law_right_0 : SemS :=
  (mFor (mRg1 (mOp (gD2 addD) (mOp gIx (mVar 5) (mC (.int 0))) (mC (.int 1)))) (mGC 10)
    b__law_right_0)
def b__law_right_1 : SemS :=
  (mWipe [5, 6, 7, 8, 9, 10] (mSeq (mAsgT (mCall F__law_is_school (mCons (mVar 5) mNil)) (mG 6))
    (mSeq (mIfS (mNotT (mTru (mCall F__law_is (mCons (mLst (mCons (mCall F_is_school (mCons (mVar 5) mNil)) (mCons (mCall F_is_school (mPerm [0] mNil (mCons (mVar 5) mNil))) mNil))) (mCons (mLst (mCons (mVar 6) (mCons (mVar 6) mNil))) mNil))))) (mRet (mC (.bool false))) mNext)
    (mSeq (mAsgT (mRef (mCons (mCallX (F__law_told (apC 2 0 C_2 apNil)) (mCons (mLam 2 [5]) mNil)) mNil)) (mG 7))
    (mSeq (mExpr (mML gAppend (mVar 7) (mCallX (F__law_told (apC 3 0 C_3 apNil)) (mCons (mLam 3 [5]) mNil))))
    (mSeq (mAsgT (mLst (mCons (mC (.str "none")) (mCons (mVar 5) mNil))) (mG 8))
    (mSeq (mIfS (mTru (mVar 6)) (mSeq (mAsgT (mLst mNil) (mG 9))
    (mSeq l__law_right_0
    (mAsgT (mLst (mCons (mC (.str "told")) (mCons (mCB gTuple (mCons (mVar 9) mNil)) mNil))) (mG 8)))) mNext)
    (mIfS (mNotT (mTru (mCall F__law_is (mCons (mVar 7) (mCons (mLst (mCons (mVar 8) (mCons (mVar 8) mNil))) mNil))))) (mRet (mC (.bool false))) mNext))))))))
def l__law_right_1 : SemS :=
  (mFor (mSeqR (mOp (gD2 addD) (mVar 4) c__law_right_0)) (mGC 5)
    b__law_right_1)
def b__law_right_2 : SemS :=
  (mWipe [1, 2, 3, 4, 5, 6, 7, 8, 9, 10] (mSeq (mAsgT (mCall F__law_school (mCons (mVar 0) (mCons (mC (.int 8)) mNil))) (mGC 2))
    (mSeq (mAsgT (mCall (F__law_bent 12) (mCons (mVar 0) (mCons (mCall (F__law_bent 12) (mCons (mVar 0) (mCons (mVar 2) mNil))) mNil))) (mG 3))
    (mSeq (mAsgT (mLst (mCons (mVar 2) (mCons (mCall F__law_edges (mCons (mVar 0) mNil)) (mCons (mCall F__law_edges (mCons (mVar 0) mNil)) (mCons (mVar 3) mNil))))) (mG 4))
    l__law_right_1))))
def l__law_right_2 : SemS :=
  (mFor (mRg1 (mC (.int 6))) (mG 1)
    b__law_right_2)
def f__law_right : SemS :=
  (mSeq l__law_right_2
    (mRet (mC (.bool true))))
def F__law_right : SemF := frzF (runF 13 (f__law_right))
theorem sc__law_right : FnScope ["well", "turn", "school", "twice", "values", "value", "due", "told", "right", "pairs", "note", "lap", "other"] ["well"] (defScope s__law_right) := ⟨rfl, rfl, rfl, by decide +kernel, rfl, by decide +kernel, by decide +kernel⟩
theorem ok__law_right (x : Fx K mg base) : DefS P w K mg base (gd K) (16) "_law_right" s__law_right ["well"] (F__law_right) :=
  (def_okS x.d__law_right x.g__law_right sc__law_right (by decide +kernel) (fun _ _ _ _ _ _ us hl => match us, hl with | [_], _ => rfl) (fun cdv A outer s H E hcd hr X hX tk hp cn => by
    subst hX
    have ND := sc__law_right.nd
    exact (sl_cons (ss_for hp rfl (si_range1 rfl x.n_range se_int) (sg_name (i := 1) ND rfl (Or.inl rfl) (nc_def cn rfl rfl))
    (sl_wipe [1, 2, 3, 4, 5, 6, 7, 8, 9, 10] (sl_cons (ss_setC (i := 2) ND rfl (Or.inr rfl) (se_callS (ok__law_school x) hr (by decide) rfl tk rfl (sa_cons (se_var 0 rfl (Or.inr (Or.inl rfl))) (sa_cons se_int sa_nil)) (mCons_len (mCons_len (fun _ _ _ _ h => mNil_len h)))))
    (sl_cons (ss_set (i := 3) ND rfl (Or.inl rfl) (se_callS (ok__law_bent x 12) hr (by decide) rfl tk rfl (sa_cons (se_var 0 rfl (Or.inr (Or.inl rfl))) (sa_cons (se_callS (ok__law_bent x 12) hr (by decide) rfl tk rfl (sa_cons (se_var 0 rfl (Or.inr (Or.inl rfl))) (sa_cons (se_var 2 rfl (Or.inr (Or.inl rfl))) sa_nil)) (mCons_len (mCons_len (fun _ _ _ _ h => mNil_len h)))) sa_nil)) (mCons_len (mCons_len (fun _ _ _ _ h => mNil_len h)))) (nc_def cn rfl rfl))
    (sl_cons (ss_set (i := 4) ND rfl (Or.inl rfl) (se_lst (sa_cons (se_var 2 rfl (Or.inr (Or.inl rfl))) (sa_cons (se_callS (ok__law_edges x) hr (by decide) rfl tk rfl (sa_cons (se_var 0 rfl (Or.inr (Or.inl rfl))) sa_nil) (mCons_len (fun _ _ _ _ h => mNil_len h))) (sa_cons (se_callS (ok__law_edges x) hr (by decide) rfl tk rfl (sa_cons (se_var 0 rfl (Or.inr (Or.inl rfl))) sa_nil) (mCons_len (fun _ _ _ _ h => mNil_len h))) (sa_cons (se_var 3 rfl (Or.inl rfl)) sa_nil))))) (nc_def cn rfl rfl))
    (sl_one (ss_for hp rfl (si_seqR rfl (se_add rfl (se_var 4 rfl (Or.inl rfl)) (se_lc (own := [("lap", 11)]) rfl ND (si_range1 rfl x.n_range se_int) (blkOk_by (by kernel_rfl)) (fun s_ H_ C_ cl_ fp_ => (wg_name (i := 11) (by decide) ND rfl (Or.inl rfl))) (fun s_ H_ C_ cl_ fp_ => sts_nil) (fun s_ H_ C_ cl_ fp_ => (se_callS (ok__law_bent x 12) hr (by decide) rfl tk0 rfl (sa_cons (se_var 0 rfl (Or.inr (Or.inl rfl))) (sa_cons (se_var 2 rfl (Or.inr (Or.inl rfl))) sa_nil)) (mCons_len (mCons_len (fun _ _ _ _ h => mNil_len h)))))))) (sg_cell (i := 5) ND rfl (Or.inr rfl))
    (sl_wipe [5, 6, 7, 8, 9, 10] (sl_cons (ss_set (i := 6) ND rfl (Or.inl rfl) (se_callS (ok__law_is_school x) hr (by decide) rfl tk rfl (sa_cons (se_var 5 rfl (Or.inr (Or.inl rfl))) sa_nil) (mCons_len (fun _ _ _ _ h => mNil_len h))) (nc_def cn rfl rfl))
    (sl_cons (ss_if (st_not (st_val rfl (se_callS (ok__law_is x) hr (by decide) rfl tk rfl (sa_cons (se_lst (sa_cons (se_callS (ok_is_school x) hr (by decide) rfl tk rfl (sa_cons (se_var 5 rfl (Or.inr (Or.inl rfl))) sa_nil) (mCons_len (fun _ _ _ _ h => mNil_len h))) (sa_cons (se_callKS (ks := ["value"]) (pm := [0]) (ok_is_school x) hr (by decide) rfl tk (fun ws hl => match ws, hl with | [_], _ => fun _ _ _ _ _ _ => rfl) (fun l hl => match l, hl with | [_], _ => rfl) (sk_cons (se_var 5 rfl (Or.inr (Or.inl rfl))) sk_nil) (mCons_len (fun _ _ _ _ h => mNil_len h))) sa_nil))) (sa_cons (se_lst (sa_cons (se_var 6 rfl (Or.inl rfl)) (sa_cons (se_var 6 rfl (Or.inl rfl)) sa_nil))) sa_nil)) (mCons_len (mCons_len (fun _ _ _ _ h => mNil_len h)))))) (sl_one (ss_ret se_bool)) sl_nil)
    (sl_cons (ss_set (i := 7) ND rfl (Or.inl rfl) (se_ref (sa_cons (se_callXS (ok__law_told x (k0 := 10) (apC 2 0 C_2 apNil) (by decide) (apC_ok ((cok_2 x).mono (by decide)) (apNil_ok (gd_fns x)))) hr (by decide) cn rfl rfl (sa_cons (se_lamB (js := [5]) (fr := ["value"]) x.t__law_right hcd tm__law_right (hu__law_right x) rfl rfl rfl (by kernel_rfl) rfl) sa_nil) (mCons_len (fun _ _ _ _ h => mNil_len h))) sa_nil)) (nc_def cn rfl rfl))
    (sl_cons (ss_expr (se_ml PySem.F.slot_list_append PySem.F.type_list_append mt_append ml_append (se_var 7 rfl (Or.inl rfl)) (se_callXS (ok__law_told x (k0 := 10) (apC 3 0 C_3 apNil) (by decide) (apC_ok ((cok_3 x).mono (by decide)) (apNil_ok (gd_fns x)))) hr (by decide) cn rfl rfl (sa_cons (se_lamB (js := [5]) (fr := ["value"]) x.t__law_right hcd tm__law_right (hu__law_right x) rfl rfl rfl (by kernel_rfl) rfl) sa_nil) (mCons_len (fun _ _ _ _ h => mNil_len h)))))
    (sl_cons (ss_set (i := 8) ND rfl (Or.inl rfl) (se_lst (sa_cons se_str (sa_cons (se_var 5 rfl (Or.inr (Or.inl rfl))) sa_nil))) (nc_def cn rfl rfl))
    (sl_cons (ss_if (st_val rfl (se_var 6 rfl (Or.inl rfl))) (sl_cons (ss_set (i := 9) ND rfl (Or.inl rfl) (se_lst sa_nil) (nc_def cn rfl rfl))
    (sl_cons (ss_for hp rfl (si_range1 rfl x.n_range (se_add rfl (se_ix rfl (se_var 5 rfl (Or.inr (Or.inl rfl))) se_int) se_int)) (sg_cell (i := 10) ND rfl (Or.inr rfl))
    (sl_wipe [10] (sl_one (ss_set (i := 9) ND rfl (Or.inl rfl) (se_add rfl (se_var 9 rfl (Or.inl rfl)) (se_lc (own := [("other", 12)]) rfl ND (si_range1 rfl x.n_range (se_add rfl (se_ix rfl (se_var 5 rfl (Or.inr (Or.inl rfl))) se_int) se_int)) (blkOk_by (by kernel_rfl)) (fun s_ H_ C_ cl_ fp_ => (wg_name (i := 12) (by decide) ND rfl (Or.inl rfl))) (fun s_ H_ C_ cl_ fp_ => (sts_one (st_inV rfl hr.room (se_sub rfl (se_var 12 rfl (Or.inl rfl)) (se_var 10 rfl (Or.inr (Or.inl rfl)))) (se_ix rfl (se_var 5 rfl (Or.inr (Or.inl rfl))) se_int)))) (fun s_ H_ C_ cl_ fp_ => (se_tup (sa_cons (se_var 10 rfl (Or.inr (Or.inl rfl))) (sa_cons (se_var 12 rfl (Or.inl rfl)) sa_nil)))))) (nc_def cn rfl rfl)))))
    (sl_one (ss_set (i := 8) ND rfl (Or.inl rfl) (se_lst (sa_cons se_str (sa_cons (se_callTy call_tuple_of cs_tuple rfl x.n_tuple b_tuple (sa_cons (se_var 9 rfl (Or.inl rfl)) sa_nil)) sa_nil))) (nc_def cn rfl rfl))))) sl_nil)
    (sl_one (ss_if (st_not (st_val rfl (se_callS (ok__law_is x) hr (by decide) rfl tk rfl (sa_cons (se_var 7 rfl (Or.inl rfl)) (sa_cons (se_lst (sa_cons (se_var 8 rfl (Or.inl rfl)) (sa_cons (se_var 8 rfl (Or.inl rfl)) sa_nil))) sa_nil)) (mCons_len (mCons_len (fun _ _ _ _ h => mNil_len h)))))) (sl_one (ss_ret se_bool)) sl_nil))))))))))))))))
    (sl_one (ss_ret se_bool))))).frz
def e_law_0 : SemE :=
  (mCall F__law_right (mCons (mCall F__law_well (mCons (mVar 0) (mCons (mVar 1) mNil))) mNil))
def c_law_0 : SemE :=
  (mLc (mRg1 (mCB gMax2 (mCons (mC (.int 1)) (mCons (mCB gMin2 (mCons (mCB gLen (mCons (mVar 0) mNil)) (mCons (mC (.int 3)) mNil))) mNil)))) [1] (mG 1) (fun _ st => .ok true st) e_law_0)
def f_law : SemS :=
  (mRet (mCB gAllL (mCons c_law_0 mNil)))
def F_law : SemF := frzF (runF 2 (f_law))
theorem sc_law : FnScope ["script", "lap"] ["script"] (defScope s_law) := ⟨rfl, rfl, rfl, by decide +kernel, rfl, by decide +kernel, by decide +kernel⟩
theorem ok_law (x : Fx K mg base) : DefS P w K mg base (gd K) (17) "law" s_law ["script"] (F_law) :=
  (def_okS x.d_law x.g_law sc_law (by decide +kernel) (fun _ _ _ _ _ _ us hl => match us, hl with | [_], _ => rfl) (fun cdv A outer s H E hcd hr X hX tk hp cn => by
    subst hX
    have ND := sc_law.nd
    exact (sl_one (ss_ret (se_callB (cr_all rfl) cs_all rfl x.n_all b_all (sa_cons (se_lc (own := [("lap", 1)]) rfl ND (si_range1 rfl x.n_range (se_callB (call_max2 rfl) cs_max2 rfl x.n_max b_max (sa_cons se_int (sa_cons (se_callB (call_min2 rfl) cs_min2 rfl x.n_min b_min (sa_cons (se_callB call_len cs_len rfl x.n_len b_len (sa_cons (se_var 0 rfl (Or.inr (Or.inl rfl))) sa_nil)) (sa_cons se_int sa_nil))) sa_nil)))) (blkOk_by (by kernel_rfl)) (fun s_ H_ C_ cl_ fp_ => (wg_name (i := 1) (by decide) ND rfl (Or.inl rfl))) (fun s_ H_ C_ cl_ fp_ => sts_nil) (fun s_ H_ C_ cl_ fp_ => (se_callS (ok__law_right x) hr (by decide) rfl tk0 rfl (sa_cons (se_callS (ok__law_well x) hr (by decide) rfl tk0 rfl (sa_cons (se_var 0 rfl (Or.inr (Or.inl rfl))) (sa_cons (se_var 1 rfl (Or.inl rfl)) sa_nil)) (mCons_len (mCons_len (fun _ _ _ _ h => mNil_len h)))) sa_nil) (mCons_len (fun _ _ _ _ h => mNil_len h))))) sa_nil)))))).frz
end
end K02
set_option Elab.async false
set_option linter.all false
set_option maxRecDepth 100000
set_option maxHeartbeats 1000000
namespace K02
open PySem TT
variable {st : Sto}
theorem is_whole_eq (hs : Fl st) {x : D} (hn : noDct x = true) : F_is_whole [.d x] st = .ok (.d (.bool (isWh x))) st := by
  refine run_rt hs ?_
  show f_is_whole [some (.d x)] st = _
  unfold f_is_whole
  cases x <;> simp [noDct, isT, tyNm, isWh] at hn ⊢
theorem is_number_eq (hs : Fl st) {x : D} {lo hi : Int} (hn : noDct x = true) : F_is_number [.d x, .d (.int lo), .d (.int hi)] st = .ok (.d (.bool (inR lo hi x))) st := by
  refine run_rt hs ?_
  show f_is_number [some (.d x), some (.d (.int lo)), some (.d (.int hi))] st = _
  unfold f_is_number
  cases x with
  | int i =>
    by_cases h : i < lo
    · have h2 : ¬ lo ≤ i := by omega
      simp [hs, is_whole_eq hs hn, isWh, inR, h, h2]
    · have h2 : lo ≤ i := by omega
      simp [hs, is_whole_eq hs hn, isWh, inR, h, h2]
  | _ => simp [hs, is_whole_eq hs hn, isWh, inR]
theorem is_number_none (hs : Fl st) {x : D} (hn : noDct x = true) : F_is_number [.d x, .d .none, .d .none] st = .ok (.d (.bool (isWh x))) st := by
  refine run_rt hs ?_
  show f_is_number [some (.d x), some (.d .none), some (.d .none)] st = _
  unfold f_is_number
  cases e : isWh x <;> simp [hs, is_whole_eq hs hn, e]
theorem is_tuple_of_eq (hs : Fl st) {x : D} {n : Nat} (hn : noDct x = true) : F_is_tuple_of [.d x, .d (.int n)] st = .ok (.d (.bool (isTup n x))) st := by
  refine run_rt hs ?_
  show f_is_tuple_of [some (.d x), some (.d (.int n))] st = _
  unfold f_is_tuple_of
  cases x with
  | tuple l =>
    simp [noDct, isT, tyNm, isTup, eqInt]
    omega
  | dict l => cases hn
  | _ => simp [noDct, isT, tyNm, isTup]
theorem is_ascending_eq (hs : Fl st) (l : List Int) : F_is_ascending [.d (intT l)] st = .ok (.d (.bool (ascI l))) st := by
  refine run_rt hs ?_
  show f_is_ascending [some (.d (intT l)), none, none] st = _
  have c : c_is_ascending_0 [some (.d (intT l)), none, none] st = .ok (.d (.list ((List.zipWith (fun a b : Int => decide (a < b)) l (l.drop 1)).map PyData.bool))) st := by
    have e : zipD (l.map .int) ((l.drop 1).map .int) = (List.zip l (l.drop 1)).map fun p => .tuple [.int p.1, .int p.2] := by
      unfold zipD List.zip
      rw [List.zipWith_map, List.map_zipWith]
    unfold c_is_ascending_0
    refine (mLc_m (l := zipD (l.map .int) ((l.drop 1).map .int)) hs (fun d => match d with
      | .tuple [.int a, .int b] => .bool (decide (a < b))
      | d => d) (chk := yes) ?_ rfl rfl ?_).trans ?_
    · simp [-List.map_map, -List.drop_one, -List.map_drop]
    · rw [e]
      intro d hd
      obtain ⟨p, _, rfl⟩ := List.mem_map.mp hd
      exact ⟨_, rfl, rfl⟩
    · rw [e, List.map_map]
      unfold List.zip
      rw [List.map_zipWith, List.map_zipWith]
      rfl
  unfold f_is_ascending
  rw [mRet_e, all_e c]
  rfl
/-- the loop over the items, with the answer p of the closure -/
theorem wrong_loop (hs : Fl st) {ap : U → SemF} {c : U} {most : Option Int} {p : List D → D → Bool} {l : List D} (hc : isFun c = true) (hp : ∀ pre x, x ∈ l → (∀ z ∈ pre, z ∈ l ∧ ∃ q, p q z = true) → applyV ap c [.d x, .d (.tuple pre)] st = .ok (.d (.bool (p pre x))) st) :
    ∀ (r pre : List D), l = pre ++ r → (∀ z ∈ pre, ∃ q, p q z = true) → forL (t_wrong_at_0 ap) (b_wrong_at_0 ap) yes ((enumD r pre.length).map U.d) [some (.d (.tuple l)), some (.d (optI most)), some c, none, none] st =
      match wrGo most p pre r with
      | [] => .nx [some (.d (.tuple l)), some (.d (optI most)), some c, none, none] st
      | k => .rt (.d (.list k)) st
  | [], pre, _, _ => forL_nil rfl
  | x :: r, pre, e, hz => by
    have ht : pre.length ≤ l.length := by rw [e, List.length_append]; omega
    have hx : x ∈ l := by rw [e]; simp
    have e2 : cutL l none (some (pre.length : Int)) = pre := by rw [cutL_take, e]; simp
    have step : turn (t_wrong_at_0 ap) (b_wrong_at_0 ap) (.d (.tuple [.int pre.length, x])) [some (.d (.tuple l)), some (.d (optI most)), some c, none, none] st =
        if overN most pre.length = true ∨ p pre x = false then .rt (.d (.list [.int pre.length])) st else .nx [some (.d (.tuple l)), some (.d (optI most)), some c, none, none] st := by
      have q : mCallV ap 2 (mCons (mVar 4) (mCons (mSl (mVar 0) mNoPart (mPart (mVar 3))) mNil)) [some (.d (.tuple l)), some (.d (optI most)), some c, some (.d (.int pre.length)), some (.d x)] st = .ok (.d (.bool (p pre x))) st := by
        unfold mCallV
        simp [hc, e2, hp pre x hx (fun z hz' => ⟨by rw [e]; simp [hz'], hz z hz'⟩)]
      have ht : t_wrong_at_0 ap (.d (.tuple [.int pre.length, x])) [some (.d (.tuple l)), some (.d (optI most)), some c, none, none] st = .nx [some (.d (.tuple l)), some (.d (optI most)), some c, some (.d (.int pre.length)), some (.d x)] st := rfl
      rw [turn_e, ht, only_nx, then_nx]
      unfold b_wrong_at_0
      cases most with
      | none =>
        dsimp only [optI] at q ⊢
        cases hq : p pre x <;> simp [q, hq, overN, -mCons_e] <;> simp [q, hq]
      | some m =>
        dsimp only [optI] at q ⊢
        by_cases hm : m ≤ (pre.length : Int) <;> cases hq : p pre x <;> simp [q, hq, hm, overN, -mCons_e] <;> simp [q, hq]
    rw [show enumD (x :: r) pre.length = .tuple [.int pre.length, x] :: enumD r (pre.length + 1) from rfl, List.map_cons, forL_cons rfl, step]
    by_cases h : overN most pre.length = true ∨ p pre x = false
    · rw [if_pos h, wrGo, if_pos h]
    · rw [if_neg h, wrGo, if_neg h]
      have ih := wrong_loop (most := most) hs hc hp r (pre ++ [x]) (by rw [e]; simp) (fun z hz' => by
        rcases List.mem_append.mp hz' with q | q
        · exact hz z q
        · have : z = x := by simpa using q
          rw [this]
          refine ⟨pre, ?_⟩
          cases e : p pre x
          · exact absurd (.inr e) h
          · rfl)
      rw [List.length_append] at ih
      exact ih
theorem wrong_at_eq (hs : Fl st) {ap : U → SemF} {c : U} {most : Option Int} {p : List D → D → Bool} {v : D} (hv : noDct v = true) (hc : isFun c = true) (hp : ∀ l, v = .tuple l → ∀ pre x, x ∈ l → (∀ z ∈ pre, z ∈ l ∧ ∃ q, p q z = true) → applyV ap c [.d x, .d (.tuple pre)] st = .ok (.d (.bool (p pre x))) st) :
    F_wrong_at ap [.d v, .d (optI most), c] st = .ok (.d (.list (wrAt most p v))) st := by
  refine run_rt hs ?_
  show f_wrong_at ap [some (.d v), some (.d (optI most)), some c, none, none] st = _
  unfold f_wrong_at
  cases v with
  | tuple l =>
    have e := wrong_loop (most := most) hs hc (hp l rfl) l [] rfl (fun _ z => nomatch z)
    have e2 : l_wrong_at_0 ap [some (.d (.tuple l)), some (.d (optI most)), some c, none, none] st = match wrGo most p [] l with
      | [] => .nx [some (.d (.tuple l)), some (.d (optI most)), some c, none, none] st
      | k => .rt (.d (.list k)) st := by
      unfold l_wrong_at_0
      rw [mFor_e, mEnum_e, v0, bind_ok, stayt]
      dsimp only
      rw [enumL_d, toS_ok]
      exact e
    simp [noDct, isT, tyNm, e2, wrAt]
    cases wrGo most p [] l <;> simp
  | dict l => cases hv
  | _ => simp [noDct, isT, tyNm, wrAt]
theorem wrong_from_one_eq (hs : Fl st) {ap : U → SemF} {c : U} {most : Option Int} {p : List D → D → Bool} {k : Nat} {v : D} (hv : Pl k v) (hk : k ≤ 60) (hc : isFun c = true) (hoc : hasOwn c = false) (hp : ∀ l, v = .tuple l → ∀ pre x, x ∈ l → (∀ z ∈ pre, z ∈ l ∧ ∃ q, p q z = true) → applyV ap c [.d x, .d (.tuple pre)] st = .ok (.d (.bool (p pre x))) st) :
    F_wrong_from_one ap [.d v, .d (optI most), c] st = .ok (.d (.list (wrOne most p v))) st := by
  refine run_rt hs ?_
  show f_wrong_from_one ap [some (.d v), some (.d (optI most)), some c] st = _
  unfold f_wrong_from_one
  have w := wrong_at_eq (most := most) hs hv.noDct hc hp
  cases v with
  | tuple l =>
    have q : eqD (.tuple l) (.tuple []) = some (.bool l.isEmpty) := by
      rw [eqD_pl hv (Pl.tup (k := 0) (l := []) (fun _ z => nomatch z)) (by omega) (by decide), eqv_tt_nil]
    cases l with
    | nil => simp [noDct, isT, tyNm, q, wrOne]
    | cons a l => simp [noDct, isT, tyNm, q, wrOne, hs, hoc, w]
  | dict l => have := hv.noDct; cases this
  | _ => simp [noDct, isT, tyNm, wrOne, hs, hoc, w]
end K02
set_option Elab.async false
set_option linter.all false
set_option maxRecDepth 100000
set_option maxHeartbeats 1000000
namespace K02
open PySem TT
variable {st : Sto}
theorem C_0_eq (hs : Fl st) {high : Int} {x y : D} (hn : noDct x = true) : C_0 [.d (.int high)] [.d x, .d y] st = .ok (.d (.bool (inR (0 - high) high x))) st := by
  refine run_CE hs ?_
  show mCall _ _ [some (.d x), some (.d y), some (.d (.int high))] st = _
  simp [hs, is_number_eq hs hn]
theorem are_numbers_eq (hs : Fl st) {k : Nat} {v : D} (hv : Pl k v) (hk : k ≤ 60) (most : Nat) (high : Int) : F_are_numbers [.d v, .d (.int most), .d (.int high)] st = .ok (.d (.bool (areNums most high v))) st := by
  refine run_rt hs ?_
  show f_are_numbers [some (.d v), some (.d (.int most)), some (.d (.int high))] st = _
  have w : F_wrong_from_one (apC 0 2 C_0 apNil) [.d v, .d (.int most), .clo false 0 [.d (.int high)]] st = .ok (.d (.list (wrOne (some (most : Int)) (fun _ x => inR (0 - high) high x) v))) st := by
    refine wrong_from_one_eq (most := some (most : Int)) hs hv hk rfl rfl fun l hl pre x hx _ => ?_
    rw [applyV_clo hs (by simp) (by simp) (by simp), C_0_eq hs]
    cases k with
    | zero =>
      have h := hv.dp
      rw [hl, PyData.depth] at h
      omega
    | succ k => rw [hl] at hv; exact (hv.tup_mem x hx).noDct
  have lm : mLam 0 [2] [some (.d v), some (.d (.int most)), some (.d (.int high))] st = .ok (.clo true 0 [.d (.int high)]) st := rfl
  unfold f_are_numbers
  by_cases h : wrOne (some (most : Int)) (fun _ x => inR (0 - high) high x) v = []
  · rw [h] at w
    obtain ⟨ns, rfl, h0, hl, hr⟩ := wrOne_nums.mp h
    have e : areNums most high (intT ns) = ascI ns := by
      rw [Bool.eq_iff_iff, areNums_true]
      constructor
      · rintro ⟨ms, e, _, _, _, h⟩
        have : ns = ms := by
          have := congrArg numsD e
          rw [numsD_intT, numsD_intT] at this
          exact Option.some.inj this
        rw [this]; exact h
      · intro ha
        exact ⟨ns, rfl, h0, hl, hr, ha⟩
    simp [hs, lm, w, eq_nil_pl, is_ascending_eq hs, e]
  · have e : areNums most high v = false := by
      rw [Bool.eq_false_iff]
      intro z
      obtain ⟨ns, rfl, h0, hl, hr, _⟩ := areNums_true.mp z
      exact h (wrOne_nums.mpr ⟨ns, rfl, h0, hl, hr⟩)
    simp [hs, lm, w, eq_nil_pl wrOne_pl, e, List.isEmpty_iff, h, -Int.zero_sub]
theorem whole_all (hs : Fl st) {l : List D} (hn : ∀ d ∈ l, noDct d = true) {c : SemE} {en : Nv} (hc : c en st = .ok (.d (.list (l.map fun d => .bool (isWh d)))) st) : mCB gAllL (mCons c mNil) en st = .ok (.d (.bool (l.all isWh))) st := by
  have e : (l.map fun d => PyData.bool (isWh d)) = (l.map isWh).map PyData.bool := by rw [List.map_map]; rfl
  rw [e] at hc
  rw [all_e hc, List.all_map]
  rfl
theorem are_some_of_eq (hs : Fl st) {k : Nat} {v : D} (hv : Pl k v) (hk : k ≤ 60) (a : List Int) : F_are_some_of [.d (intT a), .d v] st = .ok (.d (.bool (areSome a v))) st := by
  refine run_rt hs ?_
  show f_are_some_of [some (.d (intT a)), some (.d v), none] st = _
  unfold f_are_some_of
  cases v with
  | tuple l =>
    have hn : ∀ d ∈ l, noDct d = true := fun d hd => by
      cases k with
      | zero => have h := hv.dp; rw [PyData.depth] at h; omega
      | succ k => exact (hv.tup_mem d hd).noDct
    have q : eqD (.tuple l) (.tuple []) = some (.bool l.isEmpty) := by
      rw [eqD_pl hv (Pl.tup (k := 0) (l := []) (fun _ z => nomatch z)) (by omega) (by decide), eqv_tt_nil]
    have c0 : c_are_some_of_0 [some (.d (intT a)), some (.d (.tuple l)), none] st = .ok (.d (.list (l.map fun d => .bool (isWh d)))) st := by
      unfold c_are_some_of_0
      refine mLc_m (l := l) (chk := yes) hs (fun d => .bool (isWh d)) (by simp) rfl rfl fun d hd => ⟨_, rfl, ?_⟩
      unfold e_are_some_of_0
      simp [hs, is_number_none hs (hn d hd)]
    have a0 := whole_all hs hn c0
    cases l with
    | nil => simp [noDct, isT, tyNm, q, areSome, numsD, intsOf]
    | cons x l =>
      by_cases h : (x :: l).all isWh = true
      · obtain ⟨ns, e⟩ := all_int (l := x :: l) fun d hd => List.all_eq_true.mp h d hd
        have c1 : c_are_some_of_1 [some (.d (intT a)), some (.d (intT ns)), none] st = .ok (.d (.list ((ns.map fun i => decide (i ∈ a)).map PyData.bool))) st := by
          unfold c_are_some_of_1
          refine (mLc_m (l := ns.map .int) (chk := yes) hs (fun d => match d with
            | .int i => .bool (decide (i ∈ a))
            | d => d) (by simp [-List.map_map]) rfl rfl fun d hd => ?_).trans (by rw [List.map_map, List.map_map]; rfl)
          obtain ⟨i, _, rfl⟩ := List.mem_map.mp hd
          refine ⟨_, rfl, ?_⟩
          unfold e_are_some_of_1
          simp
        rw [e] at a0 q h ⊢
        rw [show PyData.tuple (ns.map .int) = intT ns from rfl] at a0 q ⊢
        have n0 : ns ≠ [] := by intro z; rw [z] at e; cases e
        have i0 : (ns.map PyData.int).isEmpty = false := by cases ns <;> simp at n0 ⊢
        have i1 : ns.isEmpty = false := by cases ns <;> simp at n0 ⊢
        have a1 := all_e c1
        rw [h] at a0
        have e2 : areSome a (intT ns) = (ascI ns && (ns.map fun i => decide (i ∈ a)).all id) := by
          unfold areSome
          rw [numsD_intT]
          dsimp only
          rw [i1, List.all_map]
          rfl
        cases hA : ascI ns <;> simp [i1, a0, a1, is_ascending_eq hs, hs, e2, hA, -List.map_map, -mCB_e]
      · have h' : (x :: l).all isWh = false := by simpa using h
        rw [h'] at a0
        have e2 : areSome a (.tuple (x :: l)) = false := by
          rw [Bool.eq_false_iff]
          intro z
          obtain ⟨ns, e, _, _, _⟩ := areSome_true.mp z
          apply h
          have e := (PyData.tuple.inj e)
          rw [e]
          simp [isWh]
        simp [q, a0, e2, noDct, -mCB_e, -List.all_cons]
  | dict l => have := hv.noDct; cases this
  | _ => simp [noDct, isT, tyNm, areSome, numsD]
end K02
set_option Elab.async false
set_option linter.all false
set_option maxRecDepth 100000
set_option maxHeartbeats 1000000
namespace K02
open PySem TT
variable {st : Sto}
theorem Pl.mem {k : Nat} {l : List D} (h : Pl k (.tuple l)) : ∀ d ∈ l, Pl k d := fun d hd => by
  cases k with
  | zero => have h := h.dp; rw [PyData.depth] at h; omega
  | succ k => exact (h.tup_mem d hd).mono (by omega)
theorem is_kind_of_eq (hs : Fl st) {k : Nat} {v : D} (hv : Pl k v) (a b c : List Int) : F_is_kind_of [.d (intT a), .d (intT b), .d (intT c), .d v] st = .ok (.d (.bool (isKind a b c v))) st := by
  refine run_rt hs ?_
  show f_is_kind_of [some (.d (intT a)), some (.d (intT b)), some (.d (intT c)), some (.d v), none] st = _
  unfold f_is_kind_of
  have t := is_tuple_of_eq (n := 3) hs hv.noDct
  simp only [show ((3 : Nat) : Int) = 3 from rfl] at t
  by_cases h : isTup 3 v = true
  · rw [h] at t
    obtain ⟨x, y, z, rfl⟩ : ∃ x y z, v = .tuple [x, y, z] := by
      cases v with
      | tuple l =>
        have : l.length = 3 := by simpa [isTup] using h
        match l, this with
        | [x, y, z], _ => exact ⟨x, y, z, rfl⟩
      | _ => cases h
    have hn : ∀ d ∈ [x, y, z], noDct d = true := fun d hd => (Pl.mem hv d hd).noDct
    have c0 : c_is_kind_of_0 [some (.d (intT a)), some (.d (intT b)), some (.d (intT c)), some (.d (.tuple [x, y, z])), none] st = .ok (.d (.list ([x, y, z].map fun d => .bool (isWh d)))) st := by
      unfold c_is_kind_of_0
      refine mLc_m (l := [x, y, z]) (chk := yes) hs (fun d => .bool (isWh d)) (by simp [-List.map_cons]) rfl rfl fun d hd => ⟨_, rfl, ?_⟩
      unfold e_is_kind_of_0
      simp [hs, is_number_none hs (hn d hd)]
    have a0 := whole_all hs hn c0
    by_cases hw : [x, y, z].all isWh = true
    · rw [hw] at a0
      simp only [List.all_cons, List.all_nil, Bool.and_true, Bool.and_eq_true] at hw
      cases x <;> first | (cases hw.1; done) | skip
      cases y <;> first | (cases hw.2.1; done) | skip
      cases z <;> first | (cases hw.2.2; done) | skip
      rename_i x y z
      by_cases h1 : x ∈ a <;> by_cases h2 : y ∈ b <;> simp [hs, t, a0, isKind, h1, h2, -mCB_e]
    · have hw' : [x, y, z].all isWh = false := by simpa using hw
      rw [hw'] at a0
      have e : isKind a b c (.tuple [x, y, z]) = false := by
        rw [Bool.eq_false_iff]
        intro q
        obtain ⟨k, e, _⟩ := isKind_true.mp q
        have e := PyData.tuple.inj e
        apply hw
        rw [e]
        rfl
      simp [hs, t, a0, e, -mCB_e]
  · have h' : isTup 3 v = false := by simpa using h
    rw [h'] at t
    have e : isKind a b c v = false := by
      rw [Bool.eq_false_iff]
      intro q
      obtain ⟨k, e, _⟩ := isKind_true.mp q
      apply h
      rw [e]
      rfl
    simp [hs, t, e]
theorem C_1_eq (hs : Fl st) {k : Nat} {x : D} {pre : List D} {s s2 iv : List Int} (hx : Pl k x) (hp : ∀ z ∈ pre, ∃ q, barOk iv s s2 q z = true) : C_1 [.d (intT s), .d (intT s2), .d (intT iv)] [.d x, .d (.tuple pre)] st = .ok (.d (.bool (barOk iv s s2 pre x))) st := by
  refine run_C hs ?_
  show mRet _ [some (.d x), some (.d (.tuple pre)), some (.d (intT s)), some (.d (intT s2)), some (.d (intT iv))] st = _
  have kq := is_kind_of_eq hs hx iv s s2
  by_cases h : isKind iv s s2 x = true
  · rw [h] at kq
    obtain ⟨kx, rfl, _⟩ := isKind_true.mp h
    have hk : ∀ z ∈ pre, ∃ c : Int × Int × Int, z = kd c := fun z hz => by
      obtain ⟨q, hq⟩ := hp z hz
      obtain ⟨c, e, _⟩ := isKind_true.mp (Bool.and_eq_true_iff.mp hq).1
      exact ⟨c, e⟩
    have ep : eqD (.tuple pre) (.tuple []) = some (.bool pre.isEmpty) := by
      rw [eqD_pl (k := 2) (k' := 1) (Pl.tup fun z hz => by
        obtain ⟨c, e⟩ := hk z hz
        rw [e]; exact Pl.intT 0 _) (Pl.tup (k := 0) (l := []) fun _ z => nomatch z) (by decide) (by decide), eqv_tt_nil]
    have e : barOk iv s s2 pre (kd kx) = lastLt pre (kd kx) := by
      unfold barOk; rw [h]; rfl
    rcases List.eq_nil_or_concat pre with rfl | ⟨q, y, rfl⟩
    · simp [hs, kq, ep, e, lastLt]
    · rw [List.concat_eq_append] at ep e ⊢
      obtain ⟨c, rfl⟩ := hk y (by simp)
      have e2 : lastLt (q ++ [kd c]) (kd kx) = HT.lexLt (kL c) (kL kx) := by
        unfold lastLt
        rw [List.getLast?_append]
        rfl
      have e3 : ltD (kd c) (kd kx) = some (.bool (HT.lexLt (kL c) (kL kx))) := ltInts _ _
      simp [hs, kq, ep, e, e2, e3]
  · have h' : isKind iv s s2 x = false := by simpa using h
    rw [h'] at kq
    have e : barOk iv s s2 pre x = false := by unfold barOk; rw [h']; rfl
    simp [hs, kq, e]
theorem are_bars_eq (hs : Fl st) {k : Nat} {v d0 d4 d5 d6 : D} {s s2 iv : List Int} (hv : Pl k v) (hk : k ≤ 60) : F_are_bars [.d (.tuple [d0, intT s, intT s2, intT iv, d4, d5, d6]), .d v] st = .ok (.d (.bool (areBars iv s s2 v))) st := by
  refine run_rt hs ?_
  have w : F_wrong_at (apC 1 2 C_1 apNil) [.d v, .d (.int 20), .clo false 1 [.d (intT s), .d (intT s2), .d (intT iv)]] st = .ok (.d (.list (wrAt (some 20) (barOk iv s s2) v))) st := by
    refine wrong_at_eq (most := some 20) hs hv.noDct rfl fun l hl pre x hx hz => ?_
    rw [applyV_clo hs (by simp) (by simp) (by simp)]
    rw [hl] at hv
    exact C_1_eq hs (Pl.mem hv x hx) fun z hz' => (hz z hz').2
  show f_are_bars [some (.d (.tuple [d0, intT s, intT s2, intT iv, d4, d5, d6])), some (.d v), none, none, none, none, none] st = _
  unfold f_are_bars
  have e : (decide (wrAt (some 20) (barOk iv s s2) v = [])) = (wrAt (some 20) (barOk iv s s2) v).isEmpty := by
    cases wrAt (some 20) (barOk iv s s2) v <;> rfl
  have a : a_are_bars_0 [some (.d (.tuple [d0, intT s, intT s2, intT iv, d4, d5, d6])), some (.d v), none, none, none, none, none] st =
      .nx [some (.d (.tuple [d0, intT s, intT s2, intT iv, d4, d5, d6])), some (.d v), some (.d d6), some (.d (intT s)), some (.d (intT s2)), some (.d (intT iv)), none] st := by
    unfold a_are_bars_0
    rw [mAsgT_e, v0, toS_ok, asg_tup (by simp)]
    simp [hs]
  rw [mSeq_e, a, then_nx]
  have nd : mNdef 1 [3, 4, 5] 6 [some (.d (.tuple [d0, intT s, intT s2, intT iv, d4, d5, d6])), some (.d v), some (.d d6), some (.d (intT s)), some (.d (intT s2)), some (.d (intT iv)), none] st =
      .nx [some (.d (.tuple [d0, intT s, intT s2, intT iv, d4, d5, d6])), some (.d v), some (.d d6), some (.d (intT s)), some (.d (intT s2)), some (.d (intT iv)), some (.clo true 1 [.d (intT s), .d (intT s2), .d (intT iv)])] st := rfl
  rw [mSeq_e, nd, then_nx]
  simp [hs, w, eq_nil_pl wrAt_pl, areBars, e]
theorem is_school_form_eq (hs : Fl st) {k : Nat} {v : D} (hv : Pl k v) (hk : k ≤ 60) : F_is_school_form [.d v] st = .ok (.d (.bool (isSchool v))) st := by
  refine run_rt hs ?_
  show f_is_school_form [some (.d v), none, none, none, none, none, none, none] st = _
  unfold f_is_school_form
  have t := is_tuple_of_eq (n := 7) hs hv.noDct
  simp only [show ((7 : Nat) : Int) = 7 from rfl] at t
  by_cases h : isTup 7 v = true
  case neg =>
    have h' : isTup 7 v = false := by simpa using h
    rw [h'] at t
    have e : isSchool v = false := by
      unfold isSchool
      split
      · exact absurd rfl h
      · rfl
    simp [hs, t, e]
  rw [h] at t
  obtain ⟨x0, x1, x2, x3, x4, x5, x6, rfl⟩ : ∃ x0 x1 x2 x3 x4 x5 x6, v = .tuple [x0, x1, x2, x3, x4, x5, x6] := by
    cases v with
    | tuple l =>
      have : l.length = 7 := by simpa [isTup] using h
      match l, this with
      | [x0, x1, x2, x3, x4, x5, x6], _ => exact ⟨x0, x1, x2, x3, x4, x5, x6, rfl⟩
    | _ => cases h
  have m := Pl.mem hv
  have m0 := m x0 (by simp)
  have m1 := m x1 (by simp)
  have m2 := m x2 (by simp)
  have m3 := m x3 (by simp)
  have m4 := m x4 (by simp)
  have m5 := m x5 (by simp)
  have m6 := m x6 (by simp)
  have n0 := is_number_eq (lo := 1) (hi := 8) hs m0.noDct
  have a : a_is_school_form_0 [some (.d (.tuple [x0, x1, x2, x3, x4, x5, x6])), none, none, none, none, none, none, none] st = .nx [some (.d (.tuple [x0, x1, x2, x3, x4, x5, x6])), some (.d x0), some (.d x1), some (.d x2), some (.d x3), some (.d x4), some (.d x5), some (.d x6)] st := by
    unfold a_is_school_form_0
    rw [mAsgT_e, v0, toS_ok, asg_tup (by simp)]
    simp [hs]
  by_cases h0 : inR 1 8 x0 = true
  case neg =>
    have h' : inR 1 8 x0 = false := by simpa using h0
    rw [h'] at n0
    have e : isSchool (.tuple [x0, x1, x2, x3, x4, x5, x6]) = false := by
      cases x0 with
      | int i =>
        have h' : inRI 1 8 i = false := h'
        simp [isSchool, h']
      | _ => rfl
    simp [hs, t, n0, e]
  rw [h0] at n0
  obtain ⟨i, rfl⟩ : ∃ i, x0 = .int i := by cases x0 <;> first | exact ⟨_, rfl⟩ | cases h0
  have q1 := are_numbers_eq hs m1 hk 5 i
  have q2 := are_numbers_eq hs m2 hk 7 i
  have q3 := are_numbers_eq hs m3 hk 9 i
  simp only [show ((5 : Nat) : Int) = 5 from rfl, show ((7 : Nat) : Int) = 7 from rfl, show ((9 : Nat) : Int) = 9 from rfl] at q1 q2 q3
  have h0' : inRI 1 8 i = true := h0
  cases e1 : areNums 5 i x1
  · rw [e1] at q1
    simp [hs, t, n0, a, q1, isSchool, e1]
  rw [e1] at q1
  cases e2 : areNums 7 i x2
  · rw [e2] at q2
    simp [hs, t, n0, a, q1, q2, isSchool, e2]
  rw [e2] at q2
  cases e3 : areNums 9 i x3
  · rw [e3] at q3
    simp [hs, t, n0, a, q1, q2, q3, isSchool, e3]
  rw [e3] at q3
  obtain ⟨s1, rfl, _⟩ := areNums_true.mp e1
  obtain ⟨s2, rfl, _⟩ := areNums_true.mp e2
  obtain ⟨s3, rfl, _⟩ := areNums_true.mp e3
  have q4 := are_bars_eq (d0 := .int i) (d4 := x4) (d5 := x5) (d6 := x6) (s := s1) (s2 := s2) (iv := s3) hs m4 hk
  have q5 := are_some_of_eq hs m5 hk s3
  have q6 := are_some_of_eq hs m6 hk s3
  have e : isSchool (.tuple [.int i, intT s1, intT s2, intT s3, x4, x5, x6]) = (areBars s3 s1 s2 x4 && areSome s3 x5 && areSome s3 x6) := by
    simp [isSchool, h0', e1, e2, e3, numsD_intT]
  rw [e]
  cases e4 : areBars s3 s1 s2 x4
  · rw [e4] at q4
    simp [hs, t, n0, a, q1, q2, q3, q4]
  rw [e4] at q4
  cases e5 : areSome s3 x5 <;> rw [e5] at q5 <;> simp [hs, t, n0, a, q1, q2, q3, q4, q5, q6]
end K02
set_option Elab.async false
set_option linter.all false
set_option maxRecDepth 100000
set_option maxHeartbeats 1000000
namespace K02
open PySem TT
variable {st : Sto}
theorem well_eq (hs : Fl st) (ns : List Int) (lap : Nat) (hl : lap < 1000) : ∃ x y z : Int, F__law_well [.d (.list (ns.map .int)), .d (.int lap)] st = .ok (.ref st.length) (st ++ [wl x y z]) := by
  obtain ⟨E0, hE0⟩ : ∃ E0 : Int → Option U → Nv, E0 = fun a o => [some (.d (.list (ns.map .int))), some (.d (.int lap)), some (.d (.int a)), none, o] := ⟨_, rfl⟩
  have turn1 : ∀ (a i : Int), ∃ a' : Int, turn (mG 3) b__law_well_0 (.d (.int i)) [some (.d (.list (ns.map .int))), some (.d (.int lap)), some (.d (.int a)), none, none] st = .nx [some (.d (.list (ns.map .int))), some (.d (.int lap)), some (.d (.int a')), none, none] st := fun a i => by
    refine ⟨(a * 47521 + i % 2147483549 + 41) % 2147483629, ?_⟩
    unfold b__law_well_0
    simp
  have loop : ∀ (l : List Int) (a : Int), ∃ a' : Int, forL (mG 3) b__law_well_0 yes ((l.map PyData.int).map U.d) [some (.d (.list (ns.map .int))), some (.d (.int lap)), some (.d (.int a)), none, none] st = .nx [some (.d (.list (ns.map .int))), some (.d (.int lap)), some (.d (.int a')), none, none] st := by
    intro l
    induction l with
    | nil => exact fun a => ⟨a, forL_nil rfl⟩
    | cons i l ih =>
      intro a
      obtain ⟨a1, e1⟩ := turn1 a i
      obtain ⟨a2, e2⟩ := ih a1
      exact ⟨a2, by rw [List.map_cons, List.map_cons, forL_cons rfl, e1]; exact e2⟩
  obtain ⟨a1, e1⟩ := loop (ns.take 9) (1512018 + 5231 * (lap : Int))
  have l0 : l__law_well_0 [some (.d (.list (ns.map .int))), some (.d (.int lap)), some (.d (.int (1512018 + 5231 * (lap : Int)))), none, none] st = .nx [some (.d (.list (ns.map .int))), some (.d (.int lap)), some (.d (.int a1)), none, none] st := by
    unfold l__law_well_0
    have c : cutL (ns.map PyData.int) none (some 9) = (ns.take 9).map PyData.int := by
      rw [show (9 : Int) = ((9 : Nat) : Int) from rfl, cutL_take, List.map_take]
    simp only [mFor_e, mSeqR_e, mSl_e, v0, mNoPart_e, mPart_e, mC_e, bind_ok, gSl_lst, c, iterR_lst, toS_ok]
    exact e1
  obtain ⟨own, e2⟩ : ∃ own : Int, mIf (mTst (mOp (gD2 ltD) (mVar 1) (mCB gLen (mCons (mVar 0) mNil)))) (mCB gInt (mCons (mOp gIx (mVar 0) (mVar 1)) mNil)) (mC (.int 0)) [some (.d (.list (ns.map .int))), some (.d (.int lap)), some (.d (.int a1)), none, none] st = .ok (.d (.int own)) st := by
    by_cases h : lap < ns.length
    · refine ⟨ns[lap], ?_⟩
      have ix := gIxL_nat (st := st) (l := ns.map PyData.int) (j := lap) (r := .int ns[lap]) (by rw [List.getElem?_map, List.getElem?_eq_getElem h]; rfl)
      have h' : (lap : Int) < ns.length := by omega
      simp [h, ix]
    · refine ⟨0, ?_⟩
      simp [h]
  obtain ⟨b, hb⟩ : ∃ b : Int, b = (a1 * 61 + own % 2147483549 * 16007 + 17) % 2147483629 := ⟨_, rfl⟩
  have pw : powD (.int 10) (.int 15) = some (.int 1000000000000000) := by
    show (if (0 : Int) ≤ 15 ∧ (15 : Int) ≤ 1000000 ∧ (10 : Int).natAbs < 2 ^ 64 then some (PyData.int ((10 : Int) ^ (15 : Int).toNat)) else none) = _
    rw [if_pos ⟨by decide, by decide, by decide⟩]
    rfl
  obtain ⟨k, e3⟩ : ∃ k : Int, mIf (mOrT (mTst (mOp (gD2 ltD) (mVar 4) (mC (.int 0)))) (mTst (mOp (gD2 geD) (mVar 4) (mOp (gD2 powD) (mC (.int 10)) (mC (.int 15)))))) (mCB gAbs (mCons (mVar 4) mNil)) (mC (.int 0)) [some (.d (.list (ns.map .int))), some (.d (.int lap)), some (.d (.int b)), none, some (.d (.int own))] st = .ok (.d (.int k)) st := by
    by_cases h1 : own < 0
    · exact ⟨-own, by simp [h1]⟩
    · by_cases h2 : (1000000000000000 : Int) ≤ own
      · exact ⟨own, by simp [h1, h2, pw]⟩
      · exact ⟨0, by simp [h1, h2, pw]⟩
  refine ⟨k, b, 0, ?_⟩
  have fl : Fl (st ++ [wl k b 0]) := hs.snoc [.int k, .int b, .int 0]
  have fin : f__law_well [some (.d (.list (ns.map .int))), some (.d (.int lap)), none, none, none] st = .rt (.ref st.length) (st ++ [wl k b 0]) := by
    unfold f__law_well
    rw [mSeq_e, mAsgT_e]
    simp only [mOp_e, mC_e, v0, vS, bind_ok, gD2_e, mul_l (i := 5231) (j := (lap : Int)) (by decide), add_int, toS_ok, mG_e, only_nx, then_nx, List.set_cons_succ, List.set_cons_zero]
    rw [mSeq_e, l0, then_nx, mSeq_e, mAsgT_e, e2]
    simp only [toS_ok, mG_e, only_nx, then_nx, List.set_cons_succ, List.set_cons_zero]
    rw [mSeq_e, mAsgT_e]
    simp only [mOp_e, mC_e, v0, vS, bind_ok, mCB_e, mCons_e, mNil_e, gInt_e, gD2_e, mul_r (i := a1) (j := 61) (by decide), mod_e (i := own) (j := 2147483549) (by decide), mul_r (i := own % 2147483549) (j := 16007) (by decide), add_int, mod_e (i := _) (j := 2147483629) (by decide), toS_ok, mG_e, only_nx, then_nx, List.set_cons_succ, List.set_cons_zero]
    rw [← hb, mRet_e, mRef_e, mCons_e, e3]
    simp [wl]
  exact run_raw (g := f__law_well) fl fin
end K02
set_option Elab.async false
set_option linter.all false
set_option maxRecDepth 100000
set_option maxHeartbeats 1000000
namespace K02
open PySem TT
variable {st : Sto} {n : Nat}
theorem draw_eq {lim : Int} (h : GW st n) (h1 : 1 ≤ lim) (h2 : lim < 1000000) : ∃ (r : Int) (st' : Sto), F__law_draw [.ref n, .d (.int lim)] st = .ok (.d (.int r)) st' ∧ 0 ≤ r ∧ r < lim ∧ Dr n st st' := by
  obtain ⟨x, y, z, e⟩ := h.at_
  have dm := divmod_e (st := st) (i := x) (j := lim) ⟨by omega, by omega⟩
  by_cases hx : 0 < x
  · have w : isWl (wl (x / lim) y z) := ⟨_, _, _, rfl⟩
    refine ⟨x % lim, st.set n (wl (x / lim) y z), ?_, Int.emod_nonneg _ (by omega), Int.emod_lt_of_pos _ (by omega), _, w, rfl⟩
    refine run_set (h.set w).fl (List.length_set ..) ?_
    show f__law_draw [some (.ref n), some (.d (.int lim)), none, none] st = _
    unfold f__law_draw a__law_draw_0
    simp [wl0 e, hx, dm, asg_tup, wls0 e]
  · obtain ⟨s1, hs1⟩ : ∃ s1 : Sto, s1 = st.set n (wl x y (z + 1)) := ⟨_, rfl⟩
    obtain ⟨m, hm⟩ : ∃ m : Int, m = (y * 40009 + 15013 * (z + 1)) % 2147483629 := ⟨_, rfl⟩
    obtain ⟨v, hv⟩ : ∃ v : Int, v = (m * (m % 5003 + 20011) + (z + 1)) % 2147483629 := ⟨_, rfl⟩
    obtain ⟨s2, hs2⟩ : ∃ s2 : Sto, s2 = s1.set n (wl x v (z + 1)) := ⟨_, rfl⟩
    have g1 : GW s1 n := by rw [hs1]; exact h.set ⟨_, _, _, rfl⟩
    have g2 : GW s2 n := by rw [hs2]; exact g1.set ⟨_, _, _, rfl⟩
    have e1 : s1[n]? = some (wl x y (z + 1)) := by rw [hs1, List.getElem?_set_self h.lt]
    have e2 : s2[n]? = some (wl x v (z + 1)) := by rw [hs2, List.getElem?_set_self g1.lt]
    have d2 : Dr n st s2 := Dr.trans ⟨_, ⟨_, _, _, rfl⟩, hs1⟩ ⟨_, ⟨_, _, _, rfl⟩, hs2⟩
    have w2 : ∀ en, gSetL (.ref n) (.d (.int 2)) (.d (.int (z + 1))) en st = .nx en s1 := fun en => by rw [wls2 e, hs1]
    have w1 : ∀ en, gSetL (.ref n) (.d (.int 1)) (.d (.int v)) en s1 = .nx en s2 := fun en => by rw [wls1 e1, hs2]
    have m0 : 0 ≤ m ∧ m < 2147483629 := by rw [hm]; exact ⟨Int.emod_nonneg _ (by decide), Int.emod_lt_of_pos _ (by decide)⟩
    have q1 : 0 ≤ m % 5003 ∧ m % 5003 < 5003 := ⟨Int.emod_nonneg _ (by decide), Int.emod_lt_of_pos _ (by decide)⟩
    refine ⟨v / 1031 % lim, s2, ?_, Int.emod_nonneg _ (by omega), Int.emod_lt_of_pos _ (by omega), d2⟩
    refine run_set g2.fl d2.len ?_
    show f__law_draw [some (.ref n), some (.d (.int lim)), none, none] st = _
    unfold f__law_draw
    have mm : mulI (.int m) (.int (m % 5003 + 20011)) = some (.int (m * (m % 5003 + 20011))) := mul_r ⟨by omega, by omega⟩
    simp only [mSeq_e, mIfS_e, mTst_e, mOp_e, v0, vS, mC_e, bind_ok, wl0 e, gD2_e, gt_int, decide_eq_false hx, toS_ok, Bool.false_eq_true, if_false, mNext_e, then_nx, mAsgT_e, wl2 e, add_int, mGSub_e, w2, only_nx,
      mCB_e, mCons_e, mNil_e, wl1 e1, wl2 e1, gInt_e, mul_r (i := y) (j := 40009) (by decide), mul_l (i := 15013) (j := z + 1) (by decide), mod_e (i := _) (j := 2147483629) (by decide), mG_e, List.set_cons_succ, List.set_cons_zero]
    rw [← hm]
    simp only [mSeq_e, mAsgT_e, mCB_e, mCons_e, mNil_e, mOp_e, v0, vS, mC_e, bind_ok, gInt_e, gD2_e, mod_e (i := m) (j := 5003) (by decide), add_int, mm, wl2 e1, mod_e (i := _) (j := 2147483629) (by decide), toS_ok, mGSub_e]
    rw [← hv, w1]
    simp [wl1 e2, fdiv_e (i := v) (j := 1031) (by decide) (by decide +kernel), mod_e (i := v / 1031) (j := lim) (by omega)]
theorem of_tup {l : List D} (h : GW st n) (h0 : l ≠ []) (hl : l.length < 1000000) : ∃ x st', F__law_of [.ref n, .d (.tuple l)] st = .ok (.d x) st' ∧ x ∈ l ∧ Dr n st st' := by
  have hp : 0 < l.length := List.length_pos_iff.mpr h0
  obtain ⟨r, st', e, r0, r1, d⟩ := draw_eq (lim := l.length) h (by omega) (by omega)
  obtain ⟨k, rfl⟩ := Int.eq_ofNat_of_zero_le r0
  have hk : k < l.length := by omega
  have ix := gIx_nat (st := st') (l := l) (j := k) (List.getElem?_eq_getElem hk)
  refine ⟨l[k], st', ?_, List.getElem_mem hk, d⟩
  refine run_set (d.gw h).fl d.len ?_
  show f__law_of [some (.ref n), some (.d (.tuple l))] st = _
  unfold f__law_of
  simp [h.fl, e, ix]
theorem of_lst {l : List D} (h : GW st n) (h0 : l ≠ []) (hl : l.length < 1000000) : ∃ x st', F__law_of [.ref n, .d (.list l)] st = .ok (.d x) st' ∧ x ∈ l ∧ Dr n st st' := by
  have hp : 0 < l.length := List.length_pos_iff.mpr h0
  obtain ⟨r, st', e, r0, r1, d⟩ := draw_eq (lim := l.length) h (by omega) (by omega)
  obtain ⟨k, rfl⟩ := Int.eq_ofNat_of_zero_le r0
  have hk : k < l.length := by omega
  have ix := gIxL_nat (st := st') (l := l) (j := k) (List.getElem?_eq_getElem hk)
  refine ⟨l[k], st', ?_, List.getElem_mem hk, d⟩
  refine run_set (d.gw h).fl d.len ?_
  show f__law_of [some (.ref n), some (.d (.list l))] st = _
  unfold f__law_of
  simp [h.fl, e, ix]
end K02
set_option Elab.async false
set_option linter.all false
set_option maxRecDepth 100000
set_option maxHeartbeats 1000000
namespace K02
open PySem TT
variable {st : Sto} {n : Nat}
theorem unlike_eq {l : List D} {many : Nat} (h : GW st n) (hm : many ≤ l.length) (hm0 : 1 ≤ many) (hl : l.length < 1000000) : ∃ l' st', F__law_unlike [.ref n, .d (.list l), .d (.int many)] st = .ok (.d (.list l')) st' ∧ l'.Sublist l ∧ l'.length = many ∧ Dr n st st' := by
  have inv := for_inv (g := mG 4) (bd := b__law_unlike_0) (chk := yes) (fun i en s => en = [some (.ref n), some (.d (.list l)), some (.d (.int many)), some (.ref st.length), none] ∧ ∃ l' s1, s = s1 ++ [.lst (l'.map U.d)] ∧ Dr n st s1 ∧ l'.Sublist l ∧ l'.length + i = l.length)
    (rgU 0 (l.length - many)) 0 [some (.ref n), some (.d (.list l)), some (.d (.int many)), some (.ref st.length), none] (st ++ [.lst (l.map U.d)]) (fun _ _ _ _ => rfl) (fun k u en s hu ⟨he, l', s1, hs, d1, hsub, hlen⟩ => by
      subst he hs
      rw [rgU_e, List.getElem?_map, List.getElem?_map] at hu
      obtain ⟨v, hv, rfl⟩ := Option.map_eq_some_iff.mp hu
      obtain ⟨z, hz, rfl⟩ := Option.map_eq_some_iff.mp hv
      have hk : k < (l.length - many : Int).toNat := by
        have := (List.getElem?_eq_some_iff.mp hz).1
        rw [intR_length] at this
        omega
      have g1 := d1.gw h
      have g2 := g1.snoc l'
      have hle := hsub.length_le
      have hpos : 0 < l'.length := by omega
      obtain ⟨r, s2, e, r0, r1, d2⟩ := draw_eq (lim := l'.length) g2 (by omega) (by omega)
      obtain ⟨s3, rfl, d3⟩ := d2.app g1.lt
      obtain ⟨j, rfl⟩ := Int.eq_ofNat_of_zero_le r0
      have hj : j < l'.length := by omega
      have hl3 : s3.length = st.length := by rw [d3.len, d1.len]
      have hl1 : s1.length = st.length := d1.len
      have pp := popAt_e (st := s3) hj (by omega)
      rw [hl3] at pp
      have il : isLst (s1 ++ [.lst (l'.map U.d)]) (.ref st.length) = true := isLst_ref (l := l'.map U.d) (by rw [← hl1]; exact last_at)
      have gl : gLen [.ref st.length] (s1 ++ [.lst (l'.map U.d)]) = .ok (.d (.int l'.length)) (s1 ++ [.lst (l'.map U.d)]) := by
        rw [gLen_ref (l := l'.map U.d) (by rw [← hl1]; exact last_at), List.length_map]
      refine ⟨_, s3 ++ [.lst ((l'.eraseIdx j).map U.d)], ?_, rfl, l'.eraseIdx j, s3, rfl, d1.trans d3, (List.eraseIdx_sublist _ _).trans hsub, ?_⟩
      · rw [turn_e, mG_e, only_nx, then_nx]
        unfold b__law_unlike_0
        simp [g2.fl, il, gl, e, pp]
      · rw [List.length_eraseIdx, if_pos hj]; omega) ⟨rfl, l, st, rfl, Dr.refl h, List.Sublist.refl _, by omega⟩
  obtain ⟨en', s', e, he, l', s1, hs, d1, hsub, hlen⟩ := inv
  subst he hs
  rw [rgU_e, List.length_map, List.length_map, intR_length] at hlen
  refine ⟨l', s1, ?_, hsub, by omega, d1⟩
  refine run_refS (l := l') (d1.gw h).fl d1.len ?_
  show f__law_unlike [some (.ref n), some (.d (.list l)), some (.d (.int many)), none, none] st = _
  unfold f__law_unlike l__law_unlike_0
  have rg : rgOk 0 ((l.length : Int) - many) := rgOk_e (by omega)
  simp [rg, e, d1.len]
/-- drawn numbers near 0 -/
theorem near_eq {high most : Int} (h : GW st n) (h1 : 1 ≤ high) (h8 : high ≤ 9) (hm1 : 1 ≤ most) (hm : most ≤ 100) : ∃ ns st', F__law_near [.ref n, .d (.int high), .d (.int most)] st = .ok (.d (intT ns)) st' ∧ ns ≠ [] ∧ ns.length ≤ most.toNat ∧ (∀ i ∈ ns, 0 - high ≤ i ∧ i ≤ high) ∧ ns.Pairwise (· < ·) ∧ Dr n st st' := by
  obtain ⟨b, s1, e1, hb, d1⟩ := of_tup (l := [.int 1, .int 2, .int 2, .int 8]) h (by simp) (by simp)
  obtain ⟨bi, rfl, hb1⟩ : ∃ i : Int, b = .int i ∧ 1 ≤ i := by
    simp only [List.mem_cons, List.not_mem_nil, or_false] at hb
    rcases hb with rfl | rfl | rfl | rfl <;> exact ⟨_, rfl, by decide⟩
  have g1 := d1.gw h
  obtain ⟨ss, hss⟩ : ∃ ss : List Int, ss = (intR (0 - high) (high + 1)).filter fun i => decide ((if i < 0 then -i else i) ≤ bi) := ⟨_, rfl⟩
  have c0 : c__law_near_0 [some (.ref n), some (.d (.int high)), some (.d (.int most)), some (.d (.int bi)), none, none, none] s1 = .ok (.d (.list (ss.map .int))) s1 := by
    unfold c__law_near_0
    refine (mLc_d (l := (intR (0 - high) (high + 1)).map .int) (chk := yes) g1.fl (fun d => match d with
      | .int i => decide ((if i < 0 then -i else i) ≤ bi)
      | _ => false) id (by simp [rgOk_e (lo := -high) (hi := high + 1) (by omega), rgU_e, -List.map_map]) rfl rfl fun d hd => ?_).trans ?_
    · obtain ⟨i, _, rfl⟩ := List.mem_map.mp hd
      refine ⟨_, rfl, ?_, fun _ => ?_⟩
      · unfold i__law_near_0
        simp
      · unfold e__law_near_0
        simp
    · rw [List.map_id, List.filter_map, hss]
      rfl
  have hsl : ss.length ≤ 19 := by
    rw [hss]
    have := List.length_filter_le (fun i => decide ((if i < 0 then -i else i) ≤ bi)) (intR (0 - high) (high + 1))
    rw [intR_length] at this
    omega
  have hs0 : 0 < ss.length := by
    rw [hss]
    refine List.length_pos_iff.mpr fun z => ?_
    have : (0 : Int) ∈ (intR (0 - high) (high + 1)).filter fun i => decide ((if i < 0 then -i else i) ≤ bi) := by
      rw [List.mem_filter]
      refine ⟨mem_intR.mpr (by omega), by simp; omega⟩
    rw [z] at this
    cases this
  obtain ⟨many, hmany⟩ : ∃ m : Int, m = if (ss.length : Int) < most then (ss.length : Int) else most := ⟨_, rfl⟩
  have hmb : 1 ≤ many ∧ many ≤ ss.length ∧ many ≤ most := by rw [hmany]; split <;> omega
  obtain ⟨r1, s2, e2, a1, a2, d2⟩ := draw_eq (lim := many) g1 (by omega) (by omega)
  obtain ⟨r2, s3, e3, b1, b2, d3⟩ := draw_eq (lim := many) (d2.gw g1) (by omega) (by omega)
  have g3 := d3.gw (d2.gw g1)
  obtain ⟨r, hr⟩ : ∃ r : Int, r = if r2 > r1 then r2 else r1 := ⟨_, rfl⟩
  have hrb : 0 ≤ r ∧ r < many := by rw [hr]; split <;> omega
  obtain ⟨k, rfl⟩ := Int.eq_ofNat_of_zero_le hrb.1
  obtain ⟨l', s4, e4, hsub, hlen, d4⟩ := unlike_eq (l := ss.map .int) (many := k + 1) g3 (by rw [List.length_map]; omega) (by omega) (by rw [List.length_map]; omega)
  obtain ⟨ns, hns, rfl⟩ : ∃ ns : List Int, ns.Sublist ss ∧ ns.map PyData.int = l' := by
    obtain ⟨ns, h1, h2⟩ := List.sublist_map_iff.mp hsub
    exact ⟨ns, h1, h2.symm⟩
  rw [List.length_map] at hlen
  have sb : ss.Pairwise (· < ·) := by
    rw [hss]
    refine List.Pairwise.filter _ ?_
    unfold intR
    rw [List.pairwise_map]
    exact List.Pairwise.imp (fun {a b} h => by omega) List.pairwise_lt_range
  refine ⟨ns, s4, ?_, ?_, by omega, fun i hi => ?_, sb.sublist hns, d1.trans (d2.trans (d3.trans d4))⟩
  · refine run_set (d4.gw g3).fl (by rw [d4.len, d3.len, d2.len, d1.len]) ?_
    show f__law_near [some (.ref n), some (.d (.int high)), some (.d (.int most)), none, none, none, none] st = _
    unfold f__law_near
    have e4' : F__law_unlike [.ref n, .d (.list (ss.map .int)), .d (.int (1 + (k : Int)))] s3 = .ok (.d (.list (ns.map .int))) s4 := by
      rw [show (1 + (k : Int)) = ((k + 1 : Nat) : Int) from by omega]
      exact e4
    have mx : gMax2 [.d (.int r1), .d (.int r2)] s3 = .ok (.d (.int (k : Int))) s3 := by rw [gMax2_e, hr]
    have l1 : gLen [.d (.list (ss.map .int))] s1 = .ok (.d (.int ss.length)) s1 := by rw [gLen_lst, List.length_map]
    have mn : gMin2 [.d (.int most), .d (.int ss.length)] s1 = .ok (.d (.int many)) s1 := by rw [gMin2_e, hmany]
    have tp : mTup (mCons (mC (.int 1)) (mCons (mC (.int 2)) (mCons (mC (.int 2)) (mCons (mC (.int 8)) mNil)))) [some (.ref n), some (.d (.int high)), some (.d (.int most)), none, none, none, none] st = .ok (.d (.tuple [.int 1, .int 2, .int 2, .int 8])) st := by simp
    have tl : gTuple [.d (.list (ns.map .int))] s4 = .ok (.d (intT ns)) s4 := gTuple_lst
    simp [h.fl, g1.fl, (d2.gw g1).fl, g3.fl, tp, e1, c0, l1, mn, mx, e2, e3, e4', tl, -mTup_e, -gMax2_e, -gMin2_e, -List.map_map]
  · intro z
    rw [z] at hlen
    simp at hlen
  · have := hns.subset hi
    rw [hss, List.mem_filter, mem_intR] at this
    omega
end K02
set_option Elab.async false
set_option linter.all false
set_option maxRecDepth 100000
set_option maxHeartbeats 1000000
namespace K02
open PySem TT
variable {st : Sto} {n : Nat}
theorem of_int {l : List Int} (h : GW st n) (h0 : l ≠ []) (hl : l.length < 1000000) : ∃ i st', F__law_of [.ref n, .d (intT l)] st = .ok (.d (.int i)) st' ∧ i ∈ l ∧ Dr n st st' := by
  obtain ⟨x, st', e, hx, d⟩ := of_tup (l := l.map .int) h (by simpa using h0) (by rw [List.length_map]; exact hl)
  obtain ⟨i, hi, rfl⟩ := List.mem_map.mp hx
  exact ⟨i, st', e, hi, d⟩
theorem bars_turn {most : D} {high : Int} {steps other gaps : List Int} (h1 : steps ≠ [] ∧ steps.length ≤ 100) (h2 : other ≠ [] ∧ other.length ≤ 100) (h3 : gaps ≠ [] ∧ gaps.length ≤ 100) {s1 : Sto} (g : GW s1 n) (u : U) (ks : List (Int × Int × Int)) (hk : ks.length ≤ 1000) :
    ∃ ks' s2, turn (mG 7) b__law_school_0 u [some (.ref n), some (.d most), some (.d (.int high)), some (.d (intT steps)), some (.d (intT other)), some (.d (intT gaps)), some (.ref s1.length), none, none, none, none] (s1 ++ [.lst ((ks.map kd).map U.d)]) =
      .nx [some (.ref n), some (.d most), some (.d (.int high)), some (.d (intT steps)), some (.d (intT other)), some (.d (intT gaps)), some (.ref s1.length), none, none, none, none] (s2 ++ [.lst ((ks'.map kd).map U.d)]) ∧ Dr n s1 s2 ∧ (ks' = ks ∨ ∃ k, k ∉ ks ∧ k.1 ∈ gaps ∧ k.2.1 ∈ steps ∧ k.2.2 ∈ other ∧ ks' = ks ++ [k]) := by
  have g0 := g.snoc (ks.map kd)
  obtain ⟨x, t1, e1, hx, d1⟩ := of_int (l := gaps) g0 h3.1 (by omega)
  obtain ⟨y, t2, e2, hy, d2⟩ := of_int (l := steps) (d1.gw g0) h1.1 (by omega)
  obtain ⟨z, t3, e3, hz, d3⟩ := of_int (l := other) (d2.gw (d1.gw g0)) h2.1 (by omega)
  have g3 := d3.gw (d2.gw (d1.gw g0))
  obtain ⟨s2, rfl, d⟩ := (d1.trans (d2.trans d3)).app g.lt
  have tu : mkTup [.d (.int x), .d (.int y), .d (.int z)] = .d (kd (x, y, z)) := rfl
  have nin := gV_ref (st := s2 ++ [.lst ((ks.map kd).map U.d)]) (m := s1.length) (a := kd (x, y, z)) (by rw [← d.len]; exact last_at) (notInKdsL (x, y, z) ks) rfl
  have il : isLst (s2 ++ [.lst ((ks.map kd).map U.d)]) (.ref s1.length) = true := isLst_ref (l := (ks.map kd).map U.d) (by rw [← d.len]; exact last_at)
  have ap := append_e (st := s2) (acc := ks.map kd) (x := kd (x, y, z)) (by rw [List.length_map]; omega)
  rw [d.len] at ap
  by_cases hin : (x, y, z) ∈ ks
  · refine ⟨ks, s2, ?_, d, .inl rfl⟩
    rw [turn_e, mG_e, only_nx, then_nx]
    unfold b__law_school_0
    simp [g0.fl, (d1.gw g0).fl, (d2.gw (d1.gw g0)).fl, e1, e2, e3, tu, nin, hin, -mkTup_e, -List.map_map]
  · refine ⟨ks ++ [(x, y, z)], s2, ?_, d, .inr ⟨_, hin, hx, hy, hz, rfl⟩⟩
    rw [turn_e, mG_e, only_nx, then_nx]
    unfold b__law_school_0
    rw [List.map_append, List.map_cons, List.map_nil]
    simp [g0.fl, (d1.gw g0).fl, (d2.gw (d1.gw g0)).fl, e1, e2, e3, tu, nin, hin, il, ap, -mkTup_e, -List.map_map, -List.map_append]
theorem ends_turn {most : D} {high : Int} {steps other gaps : List Int} {m : Nat} (h3 : gaps ≠ [] ∧ gaps.length ≤ 100) {s1 : Sto} (g : GW s1 n) (u : U) (es : List (List Int)) (hk : es.length ≤ 1000) :
    ∃ e s2, turn (mG 7) b__law_school_1 u [some (.ref n), some (.d most), some (.d (.int high)), some (.d (intT steps)), some (.d (intT other)), some (.d (intT gaps)), some (.ref m), none, none, some (.ref s1.length), none] (s1 ++ [.lst ((es.map intT).map U.d)]) =
      .nx [some (.ref n), some (.d most), some (.d (.int high)), some (.d (intT steps)), some (.d (intT other)), some (.d (intT gaps)), some (.ref m), none, none, some (.ref s1.length), none] (s2 ++ [.lst (((es ++ [e]).map intT).map U.d)]) ∧ Dr n s1 s2 ∧ e ≠ [] ∧ e.Sublist gaps := by
  have g0 := g.snoc (es.map intT)
  have hp : 0 < gaps.length := List.length_pos_iff.mpr h3.1
  obtain ⟨r1, t1, e1, a1, a2, d1⟩ := draw_eq (lim := gaps.length) g0 (by omega) (by omega)
  obtain ⟨r2, t2, e2, b1, b2, d2⟩ := draw_eq (lim := gaps.length) (d1.gw g0) (by omega) (by omega)
  have g2 := d2.gw (d1.gw g0)
  obtain ⟨r, hr⟩ : ∃ r : Int, r = if r2 > r1 then r2 else r1 := ⟨_, rfl⟩
  have hrb : 0 ≤ r ∧ r < gaps.length := by rw [hr]; split <;> omega
  obtain ⟨k, rfl⟩ := Int.eq_ofNat_of_zero_le hrb.1
  obtain ⟨l', t3, e3, hsub, hlen, d3⟩ := unlike_eq (l := gaps.map .int) (many := k + 1) g2 (by rw [List.length_map]; omega) (by omega) (by rw [List.length_map]; omega)
  obtain ⟨ns, hns, rfl⟩ : ∃ ns : List Int, ns.Sublist gaps ∧ ns.map PyData.int = l' := by
    obtain ⟨ns, h1, h2⟩ := List.sublist_map_iff.mp hsub
    exact ⟨ns, h1, h2.symm⟩
  rw [List.length_map] at hlen
  obtain ⟨s2, rfl, d⟩ := (d1.trans (d2.trans d3)).app g.lt
  have mx : gMax2 [.d (.int r1), .d (.int r2)] t2 = .ok (.d (.int (k : Int))) t2 := by rw [gMax2_e, hr]
  have e3' : F__law_unlike [.ref n, .d (.list (gaps.map .int)), .d (.int (1 + (k : Int)))] t2 = .ok (.d (.list (ns.map .int))) (s2 ++ [.lst ((es.map intT).map U.d)]) := by
    rw [show (1 + (k : Int)) = ((k + 1 : Nat) : Int) from by omega]
    exact e3
  have tl : ∀ st, gTuple [.d (.list (ns.map .int))] st = .ok (.d (intT ns)) st := fun st => gTuple_lst
  have il : isLst (s1 ++ [.lst ((es.map intT).map U.d)]) (.ref s1.length) = true := isLst_ref (l := (es.map intT).map U.d) last_at
  have il2 : isLst t2 (.ref s1.length) = true := by
    obtain ⟨z, rfl, dz⟩ := (d1.trans d2).app g.lt
    exact isLst_ref (l := (es.map intT).map U.d) (by rw [← dz.len]; exact last_at)
  have ap := append_e (st := s2) (acc := es.map intT) (x := intT ns) (by rw [List.length_map]; omega)
  rw [d.len] at ap
  refine ⟨ns, s2, ?_, d, fun z => by rw [z] at hlen; simp at hlen, hns⟩
  rw [turn_e, mG_e, only_nx, then_nx]
  unfold b__law_school_1
  rw [List.map_append, List.map_cons, List.map_nil]
  simp [g0.fl, (d1.gw g0).fl, g2.fl, e1, e2, mx, e3', tl, il, il2, ap, -gMax2_e, -List.map_map, -List.map_append]
theorem school_eq {most : Int} (h : GW st n) (hm1 : 1 ≤ most) (hm : most ≤ 8) : ∃ (S : School) (st' : Sto), F__law_school [.ref n, .d (.int most)] st = .ok (.d S.d) st' ∧ S.Ok ∧ S.high ≤ most ∧ Dr n st st' := by
  obtain ⟨r, s1, e1, r0, r1, d1⟩ := draw_eq (lim := most) h (by omega) (by omega)
  have g1 := d1.gw h
  obtain ⟨a, s2, e2, a0, al, ar, ap, d2⟩ := near_eq (high := 1 + r) (most := 5) g1 (by omega) (by omega) (by decide) (by decide)
  have g2 := d2.gw g1
  obtain ⟨b, s3, e3, b0, bl, br, bp, d3⟩ := near_eq (high := 1 + r) (most := 7) g2 (by omega) (by omega) (by decide) (by decide)
  have g3 := d3.gw g2
  obtain ⟨c, s4, e4, c0, cl, cr, cp, d4⟩ := near_eq (high := 1 + r) (most := 9) g3 (by omega) (by omega) (by decide) (by decide)
  have g4 := d4.gw g3
  have al : a.length ≤ 5 := al
  have bl : b.length ≤ 7 := bl
  have cl : c.length ≤ 9 := cl
  have l4 : s4.length = st.length := by rw [d4.len, d3.len, d2.len, d1.len]
  -- the bars
  have g40 := g4.snoc []
  obtain ⟨x, s5, e5, hx, d5⟩ := of_tup (l := [.int 1, .int 4, .int 12, .int 21]) g40 (by simp) (by simp)
  obtain ⟨xi, rfl, hx1⟩ : ∃ i : Int, x = .int i ∧ 1 ≤ i ∧ i ≤ 21 := by
    simp only [List.mem_cons, List.not_mem_nil, or_false] at hx
    rcases hx with rfl | rfl | rfl | rfl <;> exact ⟨_, rfl, by decide⟩
  have g5 := d5.gw g40
  obtain ⟨t, s6, e6, t0, t1, d6⟩ := draw_eq (lim := xi) g5 (by omega) (by omega)
  obtain ⟨s7, rfl, d7⟩ := (d5.trans d6).app g4.lt
  have l7 : s7.length = st.length := by rw [d7.len, l4]
  have g7 := d7.gw g4
  obtain ⟨en', s', eB, he, ks, s8, hs8, d8, nd, kl, kmem⟩ := for_inv (g := mG 7) (bd := b__law_school_0) (chk := yes) (fun i en s => en = [some (.ref n), some (.d (.int most)), some (.d (.int (1 + r))), some (.d (intT a)), some (.d (intT b)), some (.d (intT c)), some (.ref st.length), none, none, none, none] ∧
      ∃ ks s1, s = s1 ++ [.lst ((ks.map kd).map U.d)] ∧ Dr n s7 s1 ∧ ks.Nodup ∧ ks.length ≤ i ∧ ∀ k ∈ ks, k.1 ∈ c ∧ k.2.1 ∈ a ∧ k.2.2 ∈ b)
    (rgU 0 t) 0 [some (.ref n), some (.d (.int most)), some (.d (.int (1 + r))), some (.d (intT a)), some (.d (intT b)), some (.d (intT c)), some (.ref st.length), none, none, none, none] (s7 ++ [.lst []]) (fun _ _ _ _ => rfl) (fun k u en s hu ⟨he, ks, s1, hs, dd, nd, kl, km⟩ => by
      subst he hs
      have hk : k < 21 := by
        have := (List.getElem?_eq_some_iff.mp hu).1
        rw [rgU_e, List.length_map, List.length_map, intR_length] at this
        omega
      obtain ⟨ks', s2, e, dd2, q⟩ := bars_turn (n := n) (most := .int most) (high := 1 + r) ⟨a0, by omega⟩ ⟨b0, by omega⟩ ⟨c0, by omega⟩ (dd.gw g7) u ks (by omega)
      rw [show s1.length = st.length from by rw [dd.len, l7]] at e
      refine ⟨_, _, e, rfl, ks', s2, rfl, dd.trans dd2, ?_⟩
      rcases q with rfl | ⟨k', h1, h2, h3, h4, rfl⟩
      · exact ⟨nd, by omega, km⟩
      · refine ⟨?_, by rw [List.length_append]; simp; omega, fun z hz => ?_⟩
        · rw [List.nodup_append]
          refine ⟨nd, by simp, fun z hz w hw => ?_⟩
          have : w = k' := by simpa using hw
          rw [this]
          intro e
          rw [e] at hz
          exact h1 hz
        · rcases List.mem_append.mp hz with z1 | z1
          · exact km z z1
          · have : z = k' := by simpa using z1
            rw [this]
            exact ⟨h2, h3, h4⟩) ⟨rfl, [], s7, rfl, Dr.refl g7, List.nodup_nil, Nat.le_refl _, fun _ z => nomatch z⟩
  subst he hs8
  have kl : ks.length ≤ 20 := by
    rw [rgU_e, List.length_map, List.length_map, intR_length] at kl
    omega
  have g8 := d8.gw g7
  have l8 : s8.length = st.length := by rw [d8.len, l7]
  -- the ends
  have g9 := g8.snoc (ks.map kd)
  have l9 : (s8 ++ [.lst ((ks.map kd).map U.d)] : Sto).length = st.length + 1 := by rw [List.length_append, l8]; rfl
  obtain ⟨en'', s'', eE, he, es, s9, hs9, d9, el, em⟩ := for_inv (g := mG 7) (bd := b__law_school_1) (chk := yes) (fun i en s => en = [some (.ref n), some (.d (.int most)), some (.d (.int (1 + r))), some (.d (intT a)), some (.d (intT b)), some (.d (intT c)), some (.ref st.length), none, none, some (.ref (st.length + 1)), none] ∧
      ∃ es s1, s = s1 ++ [.lst ((es.map intT).map U.d)] ∧ Dr n (s8 ++ [.lst ((ks.map kd).map U.d)]) s1 ∧ es.length = i ∧ ∀ e ∈ es, e ≠ [] ∧ e.Sublist c)
    (rgU 0 2) 0 [some (.ref n), some (.d (.int most)), some (.d (.int (1 + r))), some (.d (intT a)), some (.d (intT b)), some (.d (intT c)), some (.ref st.length), none, none, some (.ref (st.length + 1)), none] (s8 ++ [.lst ((ks.map kd).map U.d)] ++ [.lst []]) (fun _ _ _ _ => rfl) (fun k u en s hu ⟨he, es, s1, hs, dd, el, em⟩ => by
      subst he hs
      have hk : k < 2 := by
        have := (List.getElem?_eq_some_iff.mp hu).1
        rw [rgU_e, List.length_map, List.length_map, intR_length] at this
        omega
      obtain ⟨e, s2, ee, dd2, q1, q2⟩ := ends_turn (n := n) (most := .int most) (high := 1 + r) (steps := a) (other := b) (m := st.length) ⟨c0, by omega⟩ (dd.gw g9) u es (by omega)
      rw [show s1.length = st.length + 1 from by rw [dd.len, l9]] at ee
      refine ⟨_, _, ee, rfl, es ++ [e], s2, rfl, dd.trans dd2, by rw [List.length_append]; simp; omega, fun z hz => ?_⟩
      rcases List.mem_append.mp hz with z1 | z1
      · exact em z z1
      · have : z = e := by simpa using z1
        rw [this]
        exact ⟨q1, q2⟩) ⟨rfl, [], _, rfl, Dr.refl g9, rfl, fun _ z => nomatch z⟩
  subst he hs9
  obtain ⟨f1, f2, rfl⟩ : ∃ f1 f2, es = [f1, f2] := by
    have : es.length = 2 := by rw [el]; rfl
    match es, this with
    | [f1, f2], _ => exact ⟨f1, f2, rfl⟩
  obtain ⟨s10, rfl, d10⟩ := d9.app g8.lt
  have g10 := d10.gw g8
  have l10 : s10.length = st.length := by rw [d10.len, l8]
  obtain ⟨ks', k1, k2, k3⟩ := sortD_kds ks nd
  have D10 : Dr n st s10 := d1.trans (d2.trans (d3.trans (d4.trans (d7.trans (d8.trans d10)))))
  refine ⟨⟨1 + r, a, b, c, ks', f1, f2⟩, s10, ?_, ⟨by show 1 ≤ 1 + r; omega, by show 1 + r ≤ 8; omega, numsOk.mpr ⟨a0, al, ar, ap⟩, numsOk.mpr ⟨b0, bl, br, bp⟩, numsOk.mpr ⟨c0, cl, cr, cp⟩, barsOk.mpr ⟨by rw [k2.length_eq]; exact kl, fun k hk => kmem k (k2.mem_iff.mp hk), k3⟩,
    someOk.mpr ⟨(em f1 (by simp)).1, cp.sublist (em f1 (by simp)).2, fun i hi => (em f1 (by simp)).2.subset hi⟩, someOk.mpr ⟨(em f2 (by simp)).1, cp.sublist (em f2 (by simp)).2, fun i hi => (em f2 (by simp)).2.subset hi⟩⟩, by show 1 + r ≤ most; omega, D10⟩
  refine run_setX (x := [.lst ((ks.map kd).map U.d), .lst (([f1, f2].map intT).map U.d)]) g10.fl (by
    have := (g10.snoc (ks.map kd)).fl.snoc ([f1, f2].map intT)
    rw [List.append_assoc] at this
    exact this) l10 ?_
  show f__law_school [some (.ref n), some (.d (.int most)), none, none, none, none, none, none, none, none, none] st = _
  unfold f__law_school
  have L0 : l__law_school_0 [some (.ref n), some (.d (.int most)), some (.d (.int (1 + r))), some (.d (intT a)), some (.d (intT b)), some (.d (intT c)), some (.ref st.length), none, none, none, none] (s4 ++ [.lst []]) = .nx [some (.ref n), some (.d (.int most)), some (.d (.int (1 + r))), some (.d (intT a)), some (.d (intT b)), some (.d (intT c)), some (.ref st.length), none, none, none, none] (s8 ++ [.lst ((ks.map kd).map U.d)]) := by
    unfold l__law_school_0
    have e5' : F__law_of [.ref n, .d (.tuple [.int 1, .int 4, .int 12, .int 21])] (s4 ++ [.lst []]) = .ok (.d (.int xi)) s5 := e5
    have rg : rgOk 0 t := rgOk_e (by omega)
    have tp : mTup (mCons (mC (.int 1)) (mCons (mC (.int 4)) (mCons (mC (.int 12)) (mCons (mC (.int 21)) mNil)))) [some (.ref n), some (.d (.int most)), some (.d (.int (1 + r))), some (.d (intT a)), some (.d (intT b)), some (.d (intT c)), some (.ref st.length), none, none, none, none] (s4 ++ [.lst []]) = .ok (.d (.tuple [.int 1, .int 4, .int 12, .int 21])) (s4 ++ [.lst []]) := by simp
    have f4 : Fl (s4 ++ [.lst []]) := g40.fl
    simp [f4, g5.fl, tp, e5', e6, rg, eB, -mTup_e, -List.map_map]
  have L1 : l__law_school_1 [some (.ref n), some (.d (.int most)), some (.d (.int (1 + r))), some (.d (intT a)), some (.d (intT b)), some (.d (intT c)), some (.ref st.length), none, none, some (.ref (st.length + 1)), none] (s8 ++ [.lst ((ks.map kd).map U.d)] ++ [.lst []]) = .nx [some (.ref n), some (.d (.int most)), some (.d (.int (1 + r))), some (.d (intT a)), some (.d (intT b)), some (.d (intT c)), some (.ref st.length), none, none, some (.ref (st.length + 1)), none] (s10 ++ [.lst ((ks.map kd).map U.d)] ++ [.lst (([f1, f2].map intT).map U.d)]) := by
    unfold l__law_school_1
    have rg : rgOk 0 2 := rgOk_e (by omega)
    simp only [mFor_e, mRg1_e, mC_e, bind_ok, if_pos rg, toS_ok]
    exact eE
  have N : mPar3 3 4 5 (mCons (mCall F__law_near (mCons (mVar 0) (mCons (mVar 2) (mCons (mC (.int 5)) mNil)))) (mCons (mCall F__law_near (mCons (mVar 0) (mCons (mVar 2) (mCons (mC (.int 7)) mNil)))) (mCons (mCall F__law_near (mCons (mVar 0) (mCons (mVar 2) (mCons (mC (.int 9)) mNil)))) mNil))) [some (.ref n), some (.d (.int most)), some (.d (.int (1 + r))), none, none, none, none, none, none, none, none] s1 = .nx [some (.ref n), some (.d (.int most)), some (.d (.int (1 + r))), some (.d (intT a)), some (.d (intT b)), some (.d (intT c)), none, none, none, none, none] s4 := by
    unfold mPar3
    simp [g1.fl, g2.fl, g3.fl, e2, e3, e4]
  have S0 : gSorted [.ref st.length] (s10 ++ [.lst ((ks.map kd).map U.d)] ++ [.lst (([f1, f2].map intT).map U.d)]) = .ok (.d (.list (ks'.map kd))) (s10 ++ [.lst ((ks.map kd).map U.d)] ++ [.lst (([f1, f2].map intT).map U.d)]) := by
    rw [gSorted_ref (l := ks.map kd) (by rw [List.append_assoc, List.getElem?_append_right (by omega), l10, Nat.sub_self]; rfl) (sortOk_kds ks), k1]
  have X : (s10 ++ [.lst ((ks.map kd).map U.d)] ++ [.lst (([f1, f2].map intT).map U.d)] : Sto)[st.length + 1]? = some (.lst (([f1, f2].map intT).map U.d)) := by
    rw [List.append_assoc, List.getElem?_append_right (by omega), l10, Nat.add_sub_cancel_left]
    rfl
  have X0 : gIx (.ref (st.length + 1)) (.d (.int 0)) (s10 ++ [.lst ((ks.map kd).map U.d)] ++ [.lst (([f1, f2].map intT).map U.d)]) = .ok (.d (intT f1)) _ := ref_ix (j := 0) X rfl
  have X1 : gIx (.ref (st.length + 1)) (.d (.int 1)) (s10 ++ [.lst ((ks.map kd).map U.d)] ++ [.lst (([f1, f2].map intT).map U.d)]) = .ok (.d (intT f2)) _ := ref_ix (j := 1) X rfl
  rw [mSeq_e, mAsgT_e]
  simp only [mOp_e, mC_e, bind_ok, mCall_e, mCons_e, mNil_e, v0, vS, h.fl.own, own_cons, own_d, own_ref, own_nil, Bool.or_false, and_self, if_true, e1, gD2_e, add_int, toS_ok, mG_e, only_nx, then_nx, List.set_cons_succ, List.set_cons_zero, mSeq_e, N, mAsgT_e, mRef_e, List.length_nil, le_size, Nat.zero_le]
  rw [l4, L0]
  simp only [then_nx, mSeq_e, mAsgT_e, mRef_e, mNil_e, bind_ok, List.length_nil, le_size, Nat.zero_le, if_true, toS_ok, mG_e, only_nx, List.set_cons_succ, List.set_cons_zero]
  rw [l9, L1]
  simp only [then_nx, mRet_e, mTup_e, mCons_e, v0, vS, bind_ok, mCB_e, mNil_e, S0, gTuple_lst, mOp_e, mC_e, X0, X1, List.length_cons, List.length_nil]
  rw [if_pos (by rw [sizeLine_eq]; decide), toS_ok, List.append_assoc]
  rfl
end K02
set_option Elab.async false
set_option linter.all false
set_option maxRecDepth 100000
set_option maxHeartbeats 1000000
namespace K02
open PySem TT
variable {st : Sto}
theorem is_school_eq (hs : Fl st) {k : Nat} {v : D} (hv : Pl k v) (hk : k ≤ 60) : F_is_school [.d v] st = .ok (.d (.bool (isSchool v))) st := by
  have q := is_school_form_eq hs hv hk
  refine run_rt hs ?_
  show f_is_school [some (.d v)] st = _
  unfold f_is_school
  simp [hs, q]
theorem check_school_eq (hs : Fl st) {k : Nat} {v : D} (hv : Pl k v) (hk : k ≤ 60) : F_check_school [.d v] st = if isSchool v = true then .ok (.d .none) st else .exn "InvalidSchool" (some (.d v)) st := by
  have q := is_school_form_eq hs hv hk
  cases h : isSchool v
  · rw [h] at q
    refine run_exn (e := [some (.d v)]) hs ?_
    show f_check_school [some (.d v)] st = _
    unfold f_check_school
    simp [hs, q]
  · rw [h] at q
    refine run_nx (e := [some (.d v)]) hs ?_
    show f_check_school [some (.d v)] st = _
    unfold f_check_school
    simp [hs, q]
variable {S : School}
theorem notes_of_eq (hs : Fl st) (ok : S.Ok) : F_notes_of [.d S.d] st = .ok (.d (.list (S.notes.map .int))) st := by
  refine run_rt hs ?_
  show f_notes_of [some (.d S.d)] st = _
  have ix : gIx (.d S.d) (.d (.int 0)) st = .ok (.d (.int S.high)) st := by unfold School.d; simp
  have := ok.h1
  have := ok.h8
  unfold f_notes_of
  simp [ix, rgOk_e (lo := 0) (hi := S.high + 1) (by omega), rgD_e, School.notes]
theorem standings_of_eq (hs : Fl st) (ok : S.Ok) : F_standings_of [.d S.d] st = .ok (.d (.list (S.stands.map pr))) st := by
  refine run_rt hs ?_
  show f_standings_of [some (.d S.d), none, none] st = _
  have h1 := ok.h1
  have h8 := ok.h8
  have nl : (S.notes.map PyData.int).length ≤ 9 := by
    rw [List.length_map]; unfold School.notes; rw [intR_length]; omega
  have c : c_standings_of_0 [some (.d S.d), none, none] st = .ok (.d (.list (S.stands.map pr))) st := by
    unfold c_standings_of_0
    refine (mLc2_d (l := S.notes.map .int) (chk := yes) hs (fun _ => true) (fun _ => S.notes.map .int) (fun d e => match d, e with
      | .int a, .int b => decide (b - a ∈ S.gaps)
      | _, _ => false) (fun d e => .tuple [d, e]) 9 (by omega) (by simp [hs, notes_of_eq hs ok, -List.map_map]) rfl rfl fun d hd => ⟨nl, _, rfl, rfl, fun _ => ⟨yes, rfl, by simp [hs, notes_of_eq hs ok, -List.map_map], fun e he => ?_⟩⟩).trans ?_
    · obtain ⟨a, _, rfl⟩ := List.mem_map.mp hd
      obtain ⟨b, _, rfl⟩ := List.mem_map.mp he
      refine ⟨_, rfl, ?_, fun _ => ?_⟩
      · have ix : gIx (.d S.d) (.d (.int 3)) st = .ok (.d (intT S.gaps)) st := by unfold School.d; simp
        unfold i_standings_of_0
        simp [ix]
      · unfold e_standings_of_0
        simp
    · rw [List.filter_eq_self.mpr fun _ _ => rfl]
      unfold School.stands
      rw [List.flatMap_map, List.map_flatMap]
      simp only [List.filter_map, List.map_map]
      rfl
  unfold f_standings_of
  rw [mRet_e, c]
  rfl
theorem tuple_e (l : List D) : gTuple [.d (.list l)] st = .ok (.d (.tuple l)) st := gTuple_lst
theorem standings_eq (hs : Fl st) (ok : S.Ok) : F_standings [.d S.d] st = .ok (.d (.tuple (S.stands.map pr))) st := by
  refine run_rt hs ?_
  show f_standings [some (.d S.d)] st = _
  have c := check_school_eq hs S.pl (by decide)
  rw [ok.is, if_pos rfl] at c
  unfold f_standings
  simp [hs, c, standings_of_eq hs ok, tuple_e, -List.map_map]
theorem standings_no (hs : Fl st) {k : Nat} {v : D} (hv : Pl k v) (hk : k ≤ 60) (h : isSchool v = false) : F_standings [.d v] st = .exn "InvalidSchool" (some (.d v)) st := by
  refine run_exn (e := [some (.d v)]) hs ?_
  show f_standings [some (.d v)] st = _
  have c := check_school_eq hs hv hk
  rw [h, if_neg (by decide)] at c
  unfold f_standings
  simp [hs, c]
theorem told_eq {ap : U → SemF} (hs : Fl st) {k : Nat} {caps : List U} {r : D} (h : applyV ap (.clo false k caps) [] st = .ok (.d r) st) : F__law_told ap [.clo false k caps] st = .ok (.d (.list [.str "told", r])) st := by
  refine run_rt hs ?_
  show f__law_told ap [some (.clo false k caps), none] st = _
  unfold f__law_told mTry
  simp [mCallV, h]
theorem told_no {ap : U → SemF} (hs : Fl st) {k : Nat} {caps : List U} {v : D} (h : applyV ap (.clo false k caps) [] st = .exn "InvalidSchool" (some (.d v)) st) : F__law_told ap [.clo false k caps] st = .ok (.d (.list [.str "none", v])) st := by
  refine run_rt hs ?_
  show f__law_told ap [some (.clo false k caps), none] st = _
  unfold f__law_told
  rw [mTry_exn (s := st) (c := "InvalidSchool") (u := some (.d v)) (e := [some (.clo false k caps), none]) (by simp [mCallV, h])]
  have e : mt_InvalidSchool "InvalidSchool" = some true := if_pos rfl
  unfold runHs
  rw [e]
  rfl
theorem ap_2 (hs : Fl st) {v : D} {r : Res U} (h : F_standings [.d v] st = r) (hr : (∃ x, r = .ok (.d x) st) ∨ ∃ c x, r = .exn c (some (.d x)) st) : applyV (apC 2 0 C_2 apNil) (.clo false 2 [.d v]) [] st = r := by
  rw [applyV_clo hs (by simp) (by simp) (by simp)]
  have e : mCall F_standings (mCons (mVar 0) mNil) [some (.d v)] st = r := by simp [hs, h]
  rcases hr with ⟨x, rfl⟩ | ⟨c, x, rfl⟩
  · exact run_CE hs e
  · exact run_CEx hs e
theorem ap_3 (hs : Fl st) {v : D} {r : Res U} (h : F_standings [.d v] st = r) (hr : (∃ x, r = .ok (.d x) st) ∨ ∃ c x, r = .exn c (some (.d x)) st) : applyV (apC 3 0 C_3 apNil) (.clo false 3 [.d v]) [] st = r := by
  rw [applyV_clo hs (by simp) (by simp) (by simp)]
  have p : permL [0] [U.d v] = [.d v] := rfl
  have e : mCall F_standings (mPerm [0] mNil (mCons (mVar 0) mNil)) [some (.d v)] st = r := by simp [hs, h, p]
  rcases hr with ⟨x, rfl⟩ | ⟨c, x, rfl⟩
  · exact run_CE hs e
  · exact run_CEx hs e
theorem law_is_refl (hs : Fl st) {l : List D} {n k : Nat} (h : Nice (.list l) n k) (hn : n ≤ 1000000) (hk : k < 100) : F__law_is [.d (.list l), .d (.list l)] st = .ok (.d (.bool true)) st := by
  refine run_rt hs ?_
  show f__law_is [some (.d (.list l)), some (.d (.list l))] st = _
  unfold f__law_is
  simp [repr_lst h hn hk, eqS_refl]
theorem law_is_ref (hs : Fl st) {l : List D} {n k m : Nat} (e : st[m]? = some (.lst (l.map U.d))) (h : Nice (.list l) n k) (hn : n ≤ 1000000) (hk : k < 100) : F__law_is [.ref m, .d (.list l)] st = .ok (.d (.bool true)) st := by
  refine run_rt hs ?_
  show f__law_is [some (.ref m), some (.d (.list l))] st = _
  unfold f__law_is
  simp [repr_lst h hn hk, eqS_refl, reprV_ref e]
end K02
set_option Elab.async false
set_option linter.all false
set_option maxRecDepth 100000
set_option maxHeartbeats 1000000
namespace K02
open PySem TT
variable {st : Sto}
theorem law_is_number_eq (hs : Fl st) {x : D} {lo hi : Int} (hn : noDct x = true) : F__law_is_number [.d x, .d (.int lo), .d (.int hi)] st = .ok (.d (.bool (inR lo hi x))) st := by
  refine run_rt hs ?_
  show f__law_is_number [some (.d x), some (.d (.int lo)), some (.d (.int hi))] st = _
  unfold f__law_is_number
  cases x with
  | int i =>
    by_cases h : lo ≤ i
    · simp [isT, tyNm, noDct, inR, h]
    · simp [isT, tyNm, noDct, inR, h]
  | dict l => cases hn
  | _ => simp [isT, tyNm, noDct, inR]
theorem ones_e {en : Nv} {c : SemE} {v : D} {l : List D} {b : D → Bool} (h : c en st = .ok (.d (.list ((l.filter fun d => !b d).map fun _ => PyData.int 1))) st) (en' : Nv) :
    mOp (gV eqD) c (mLst mNil) en st = .ok (.d (.bool (l.all b))) st ∧ mTst (mOp (gV neD) c (mLst mNil)) en st = .ok (!l.all b) st := by
  have pl : ∀ d ∈ ((l.filter fun d => !b d).map fun _ => PyData.int 1), Pl 0 d := fun d hd => by
    obtain ⟨_, _, rfl⟩ := List.mem_map.mp hd
    exact Pl.int 0 1
  have e : ((l.filter fun d => !b d).map fun _ => PyData.int 1).isEmpty = l.all b := by
    rw [Bool.eq_iff_iff, List.isEmpty_iff, List.map_eq_nil_iff, List.filter_eq_nil_iff, List.all_eq_true]
    simp
  constructor
  · rw [mOp_e, h]
    simp [eq_nil_pl pl, e, -List.map_map, -List.isEmpty_map]
  · rw [mTst_e, mOp_e, h]
    simp [ne_nil_pl pl, e, -List.map_map, -List.isEmpty_map]
theorem law_are_numbers_eq (hs : Fl st) {k : Nat} {v : D} {most : Nat} {high : Int} (hv : Pl k v) (hm : most < 60) : F__law_are_numbers [.d v, .d (.int most), .d (.int high)] st = .ok (.d (.bool (areNums most high v))) st := by
  refine run_rt hs ?_
  show f__law_are_numbers [some (.d v), some (.d (.int most)), some (.d (.int high)), none] st = _
  unfold f__law_are_numbers
  have nd := hv.noDct
  cases v with
  | tuple l =>
    have hn : ∀ d ∈ l, noDct d = true := fun d hd => (Pl.mem hv d hd).noDct
    by_cases h1 : 1 ≤ (l.length : Int) ∧ (l.length : Int) ≤ most
    case neg =>
      have e : areNums most high (.tuple l) = false := by
        cases q : areNums most high (.tuple l)
        · rfl
        · obtain ⟨ns, e, n0, nl, _⟩ := areNums_true.mp q
          have e := PyData.tuple.inj e
          rw [e, List.length_map] at h1
          have : 0 < ns.length := List.length_pos_iff.mpr n0
          omega
      by_cases h2 : 1 ≤ (l.length : Int)
      · have h3 : ¬ (l.length : Int) ≤ most := fun z => h1 ⟨h2, z⟩
        simp [noDct, h2, h3, e]
      · simp [noDct, h2, e]
    case pos =>
      have c : c__law_are_numbers_0 [some (.d (.tuple l)), some (.d (.int most)), some (.d (.int high)), none] st = .ok (.d (.list ((l.filter fun d => !inR (0 - high) high d).map fun _ => PyData.int 1))) st := by
        unfold c__law_are_numbers_0
        refine mLc_d (l := l) (chk := yes) hs (fun d => !inR (0 - high) high d) (fun _ => .int 1) (by simp) rfl rfl fun d hd => ⟨_, rfl, ?_, fun _ => rfl⟩
        have q := law_is_number_eq (lo := 0 - high) (hi := high) hs (hn d hd)
        unfold i__law_are_numbers_0
        simp at q ⊢
        simp [hs, q]
      have o := (ones_e (v := .none) c []).1
      have t : mTst (mChainU (gV leD) (gV leD) (mC (.int 1)) (mCB gLen (mCons (mVar 0) mNil)) (mVar 1)) [some (.d (.tuple l)), some (.d (.int most)), some (.d (.int high)), none] st = .ok true st := by
        simp [h1.1, h1.2]
      simp only [mSeq_e, mIfS_e, mOrT_e, mNotT_e, mTru_e, mIs_e, v0, bind_ok, nd, if_true, isT_tup, truU_bool, Bool.not_true, Bool.false_eq_true, if_false, t, toS_ok, mNext_e, then_nx, mRet_e, mAndV_e, o]
      by_cases h2 : l.all (inR (0 - high) high) = true
      · rw [h2]
        obtain ⟨ns, rfl⟩ := all_int (l := l) fun d hd => inR_wh (List.all_eq_true.mp h2 d hd)
        rw [List.length_map] at h1
        have g : gList [.d (.tuple (ns.map .int))] st = .ok (.d (.list (ns.map .int))) st := gList_tup
        simp only [onB_d, if_true, mOp_e, mCB_e, mCons_e, v0, bind_ok, mNil_e, sset_ints (st := st) (ns := ns) (by omega), g, gV_e, setI_eqD, toS_ok]
        congr 3
        unfold areNums
        rw [show numsD (.tuple (ns.map .int)) = some ns from numsD_intT ns]
        have e1 : ns.all (inRI (0 - high) high) = true := by
          rw [List.all_map] at h2
          exact h2
        have e2 : ns.isEmpty = false := by
          cases ns with
          | nil => simp at h1
          | cons a r => rfl
        have e3 : ns.length ≤ most := by omega
        dsimp only
        rw [e1, e2, decide_eq_true e3]
        simp
      · have h2' : l.all (inR (0 - high) high) = false := by simpa using h2
        rw [h2']
        simp only [onB_d, Bool.false_eq_true, if_false, toS_ok]
        congr 3
        cases q : areNums most high (.tuple l)
        · rfl
        · obtain ⟨ns, e, n0, nl, nr, _⟩ := areNums_true.mp q
          have e := PyData.tuple.inj e
          rw [e] at h2
          refine absurd (List.all_eq_true.mpr fun d hd => ?_) h2
          obtain ⟨i, hi, rfl⟩ := List.mem_map.mp hd
          exact nr i hi
  | dict l => cases nd
  | _ => simp [isT, tyNm, noDct, areNums, numsD]
theorem law_is_school_eq (hs : Fl st) {k : Nat} {v : D} (hv : Pl k v) (hk : k ≤ 60) : F__law_is_school [.d v] st = .ok (.d (.bool (isSchool v))) st := by
  refine run_rt hs ?_
  show f__law_is_school [some (.d v), none, none, none, none] st = _
  unfold f__law_is_school
  have nd := hv.noDct
  by_cases h7 : isTup 7 v = true
  case neg =>
    have e : isSchool v = false := by
      unfold isSchool
      split
      · exact absurd rfl h7
      · rfl
    cases v with
    | tuple l =>
      have h7' : ¬ (l.length : Int) = 7 := fun z => h7 (by
        show decide (l.length = 7) = true
        rw [decide_eq_true_eq]
        omega)
      have ne : neD (.int l.length) (.int 7) = some (.bool true) := by rw [neInt]; simp [h7']
      simp [noDct, e, ne]
    | dict l => cases nd
    | _ => simp [isT, tyNm, noDct, e]
  obtain ⟨x0, x1, x2, x3, x4, x5, x6, rfl⟩ : ∃ x0 x1 x2 x3 x4 x5 x6, v = .tuple [x0, x1, x2, x3, x4, x5, x6] := by
    cases v with
    | tuple l =>
      have : l.length = 7 := by simpa [isTup] using h7
      match l, this with
      | [x0, x1, x2, x3, x4, x5, x6], _ => exact ⟨x0, x1, x2, x3, x4, x5, x6, rfl⟩
    | _ => cases h7
  have m := Pl.mem hv
  have m0 := m x0 (by simp)
  have m1 := m x1 (by simp)
  have m2 := m x2 (by simp)
  have m3 := m x3 (by simp)
  have m4 := m x4 (by simp)
  have m5 := m x5 (by simp)
  have m6 := m x6 (by simp)
  have n0 := law_is_number_eq (lo := 1) (hi := 8) hs m0.noDct
  have n7 : neD (.int 7) (.int 7) = some (.bool false) := by rw [neInt]; simp
  by_cases h0 : inR 1 8 x0 = true
  case neg =>
    have h0' : inR 1 8 x0 = false := by simpa using h0
    have e : isSchool (.tuple [x0, x1, x2, x3, x4, x5, x6]) = false := by
      cases x0 with
      | int i =>
        have : inRI 1 8 i = false := h0'
        simp [isSchool, this]
      | _ => rfl
    rw [h0'] at n0
    simp [noDct, n0, hs, n7, e]
  rw [h0] at n0
  obtain ⟨high, rfl⟩ : ∃ i, x0 = .int i := by cases x0 <;> first | exact ⟨_, rfl⟩ | cases h0
  have h0 : inRI 1 8 high = true := h0
  obtain ⟨V, hV⟩ : ∃ V : D, V = .tuple [.int high, x1, x2, x3, x4, x5, x6] := ⟨_, rfl⟩
  -- the five parts
  obtain ⟨P, hP⟩ : ∃ P : D → Bool, P = fun d => match d with
    | .tuple [x, .int j] => !areNums j.toNat high x
    | _ => true := ⟨_, rfl⟩
  obtain ⟨zs, hzs⟩ : ∃ zs : List D, zs = [.tuple [x1, .int 5], .tuple [x2, .int 7], .tuple [x3, .int 9], .tuple [x5, .int 9], .tuple [x6, .int 9]] := ⟨_, rfl⟩
  have e0 : ∀ st, gIx (.d V) (.d (.int 0)) st = .ok (.d (.int high)) st := fun st => by rw [hV]; simp
  have e3 : ∀ st, gIx (.d V) (.d (.int 3)) st = .ok (.d x3) st := fun st => by rw [hV]; simp
  have e4 : ∀ st, gIx (.d V) (.d (.int 4)) st = .ok (.d x4) st := fun st => by rw [hV]; simp
  have e1 : ∀ st, gIx (.d V) (.d (.int 1)) st = .ok (.d x1) st := fun st => by rw [hV]; simp
  have e2 : ∀ st, gIx (.d V) (.d (.int 2)) st = .ok (.d x2) st := fun st => by rw [hV]; simp
  have s1 : ∀ st, gSl (.d V) (some 1) (some 4) st = .ok (.d (.tuple [x1, x2, x3])) st := fun st => by rw [hV, gSl_tup]; rfl
  have s5 : ∀ st, gSl (.d V) (some 5) none st = .ok (.d (.tuple [x5, x6])) st := fun st => by rw [hV, gSl_tup]; rfl
  have l0 : l__law_is_school_0 [some (.d V), none, none, none, none] st = (match zs.find? P with
      | some _ => .rt (.d (.bool false)) st
      | none => .nx [some (.d V), none, none, none, none] st) := by
    have ff := for_find (g := t__law_is_school_0) (bd := b__law_is_school_0) (en := [some (.d V), none, none, none, none]) (st := st) (chk := yes) P (fun _ => .d (.bool false)) rfl zs fun d hd => by
      have one : ∀ (x : D) (j : Nat), j < 60 → Pl (k - 1) x → turn t__law_is_school_0 b__law_is_school_0 (.d (.tuple [x, .int j])) [some (.d V), none, none, none, none] st = if (!areNums j high x) = true then .rt (.d (.bool false)) st else .nx [some (.d V), none, none, none, none] st := fun x j hj hx => by
        have q := law_are_numbers_eq (high := high) hs hx hj
        rw [turn_e]
        unfold t__law_is_school_0 b__law_is_school_0
        rw [asg_tup (by simp)]
        cases ha : areNums j high x
        · rw [ha] at q
          simp [hs, q, e0]
        · rw [ha] at q
          simp [hs, q, e0]
      have mm : ∀ x ∈ [PyData.int high, x1, x2, x3, x4, x5, x6], Pl (k - 1) x := fun x hx => by
        cases k with
        | zero => exact absurd (hv.dp) (by simp [PyData.depth])
        | succ k => exact Pl.tup_mem hv x hx
      rw [hzs] at hd
      rw [hP]
      simp only [List.mem_cons, List.not_mem_nil, or_false] at hd
      rcases hd with rfl | rfl | rfl | rfl | rfl
      · exact one x1 5 (by decide) (mm x1 (by simp))
      · exact one x2 7 (by decide) (mm x2 (by simp))
      · exact one x3 9 (by decide) (mm x3 (by simp))
      · exact one x5 9 (by decide) (mm x5 (by simp))
      · exact one x6 9 (by decide) (mm x6 (by simp))
    unfold l__law_is_school_0
    have ad : addD (.tuple [x1, x2, x3]) (.tuple [x5, x6]) = some (.tuple [x1, x2, x3, x5, x6]) := add_tt (by simp)
    have tu : mTup (mCons (mC (.int 5)) (mCons (mC (.int 7)) (mCons (mC (.int 9)) (mCons (mC (.int 9)) (mCons (mC (.int 9)) mNil))))) [some (.d V), none, none, none, none] st = .ok (.d (.tuple [.int 5, .int 7, .int 9, .int 9, .int 9])) st := by simp
    simp only [mFor_e, mZip_e, mOp_e, mSl_e, v0, bind_ok, mPart_e, mC_e, mNoPart_e, s1, s5, gD2_e, ad, tu, stayt, kind_tup, if_true, toS_ok, zipL_d]
    rw [show zipD [x1, x2, x3, x5, x6] [.int 5, .int 7, .int 9, .int 9, .int 9] = zs from by rw [hzs]; rfl]
    exact ff
  have hd : ∀ tail, (mIfS (mOrT (mNotT (mTru (mIs "tuple" (mVar 0)))) (mOrT (mTst (mOp (gV neD) (mCB gLen (mCons (mVar 0) mNil)) (mC (.int 7)))) (mNotT (mTru (mCall F__law_is_number (mCons (mOp gIx (mVar 0) (mC (.int 0))) (mCons (mC (.int 1)) (mCons (mC (.int 8)) mNil)))))))) (mRet (mC (.bool false))) mNext [some (.d V), none, none, none, none] st).then tail = tail [some (.d V), none, none, none, none] st := fun tail => by
    have l7 : gLen [.d V] st = .ok (.d (.int 7)) st := by rw [hV, gLen_tup]; rfl
    have nv : noDct V = true := by rw [hV]; rfl
    have tv : isT "tuple" V = true := by rw [hV]; exact isT_tup
    simp [nv, tv, l7, n7, n0, hs, e0]
  rw [← hV, mSeq_e, hd, mSeq_e, l0]
  cases hf : zs.find? P with
  | some d =>
    have e : isSchool V = false := by
      cases q : isSchool V
      · rfl
      · obtain ⟨S, ok, e⟩ := isSchool_S q
        rw [e] at hV
        have hV := PyData.tuple.inj hV
        simp only [List.cons.injEq, and_true] at hV
        obtain ⟨g0, g1, g2, g3, g4, g5, g6⟩ := hV
        have g0 := PyData.int.inj g0
        have : zs.find? P = none := by
          rw [List.find?_eq_none]
          intro d hd
          rw [hzs] at hd
          rw [hP]
          simp only [List.mem_cons, List.not_mem_nil, or_false] at hd
          rcases hd with rfl | rfl | rfl | rfl | rfl
          · show ¬ (!areNums 5 high x1) = true
            rw [← g0, ← g1, ok.steps]; decide
          · show ¬ (!areNums 7 high x2) = true
            rw [← g0, ← g2, ok.other]; decide
          · show ¬ (!areNums 9 high x3) = true
            rw [← g0, ← g3, ok.gaps]; decide
          · show ¬ (!areNums 9 high x5) = true
            rw [← g0, ← g5, some_nums ok.gaps ok.beg]; decide
          · show ¬ (!areNums 9 high x6) = true
            rw [← g0, ← g6, some_nums ok.gaps ok.fin]; decide
        rw [this] at hf
        cases hf
    rw [e]
    rfl
  | none =>
    rw [List.find?_eq_none] at hf
    have an : ∀ (x : D) (j : Nat), PyData.tuple [x, .int j] ∈ zs → areNums j high x = true := fun x j hx => by
      have := hf _ hx
      rw [hP] at this
      have this : ¬ (!areNums j high x) = true := this
      simpa using this
    have a1 := an x1 5 (by rw [hzs]; simp)
    have a2 := an x2 7 (by rw [hzs]; simp)
    have a3 := an x3 9 (by rw [hzs]; simp)
    have a5 := an x5 9 (by rw [hzs]; simp)
    have a6 := an x6 9 (by rw [hzs]; simp)
    obtain ⟨a, rfl, _⟩ := areNums_true.mp a1
    obtain ⟨b, rfl, _⟩ := areNums_true.mp a2
    obtain ⟨c, rfl, _⟩ := areNums_true.mp a3
    obtain ⟨f1, rfl, _⟩ := areNums_true.mp a5
    obtain ⟨f2, rfl, _⟩ := areNums_true.mp a6
    rw [then_nx]
    obtain ⟨fn1, _, _, fp1⟩ := numsOk.mp a5
    obtain ⟨fn2, _, _, fp2⟩ := numsOk.mp a6
    obtain ⟨_, _, ar, _⟩ := numsOk.mp a1
    obtain ⟨_, _, br, _⟩ := numsOk.mp a2
    obtain ⟨_, _, cr, _⟩ := numsOk.mp a3
    have hi8 : high ≤ 8 := by
      unfold inRI at h0
      simp only [Bool.and_eq_true, decide_eq_true_eq] at h0
      exact h0.2
    have som : ∀ f : List Int, f ≠ [] → f.Pairwise (· < ·) → areSome c (intT f) = f.all fun i => decide (i ∈ c) := fun f h1 h2 => by
      unfold areSome
      rw [numsD_intT]
      dsimp only
      rw [(ascI_iff f).mpr h2]
      cases f with
      | nil => exact absurd rfl h1
      | cons x r => rfl
    have eS : isSchool V = (areBars c a b x4 && (f1.all fun i => decide (i ∈ c)) && f2.all fun i => decide (i ∈ c)) := by
      rw [hV]
      unfold isSchool
      dsimp only
      rw [h0, a1, a2, a3, numsD_intT, numsD_intT, numsD_intT, Option.getD_some, Option.getD_some, Option.getD_some, som f1 fn1 fp1, som f2 fn2 fp2]
      simp
    -- the ends
    obtain ⟨P1, hP1⟩ : ∃ P1 : D → Bool, P1 = fun d => match numsD d with
      | some ns => !(ns.all fun i => decide (i ∈ c))
      | none => true := ⟨_, rfl⟩
    have pf : ∀ f : List Int, P1 (intT f) = !(f.all fun i => decide (i ∈ c)) := fun f => by
      rw [hP1]
      dsimp only
      rw [numsD_intT]
    have one1 : ∀ f : List Int, turn (mG 1) b__law_is_school_1 (.d (intT f)) [some (.d V), none, none, none, none] st = if P1 (intT f) = true then .rt (.d (.bool false)) st else .nx [some (.d V), none, none, none, none] st := fun f => by
      have c0 : c__law_is_school_0 [some (.d V), some (.d (intT f)), none, none, none] st = .ok (.d (.list (((f.map PyData.int).filter fun d => !(match d with
        | .int i => decide (i ∈ c)
        | _ => false)).map fun _ => PyData.int 1))) st := by
        unfold c__law_is_school_0
        refine mLc_d (l := f.map PyData.int) (chk := yes) hs (fun d => !(match d with
          | .int i => decide (i ∈ c)
          | _ => false)) (fun _ => .int 1) (by simp) rfl rfl fun d hd => ?_
        obtain ⟨i, _, rfl⟩ := List.mem_map.mp hd
        refine ⟨_, rfl, ?_, fun _ => rfl⟩
        unfold i__law_is_school_0
        simp [e3]
      have o := (ones_e (v := .none) c0 []).2
      have q : ((f.map PyData.int).all fun d => match d with
        | .int i => decide (i ∈ c)
        | _ => false) = f.all fun i => decide (i ∈ c) := by rw [List.all_map]; rfl
      rw [q] at o
      rw [pf, turn_e, mG_e, only_nx, then_nx]
      unfold b__law_is_school_1
      dsimp only [List.set_cons_succ, List.set_cons_zero]
      rw [mWipe_e, mIfS_e, o, toS_ok]
      cases f.all fun i => decide (i ∈ c) <;> rfl
    have l1 : l__law_is_school_1 [some (.d V), none, none, none, none] st = (match [intT f1, intT f2].find? P1 with
        | some _ => .rt (.d (.bool false)) st
        | none => .nx [some (.d V), none, none, none, none] st) := by
      have ff := for_find (g := mG 1) (bd := b__law_is_school_1) (en := [some (.d V), none, none, none, none]) (st := st) (chk := yes) P1 (fun _ => .d (.bool false)) rfl [intT f1, intT f2] fun d hd => by
        simp only [List.mem_cons, List.not_mem_nil, or_false] at hd
        rcases hd with rfl | rfl
        · exact one1 f1
        · exact one1 f2
      unfold l__law_is_school_1
      simp only [mFor_e, mSeqR_e, mSl_e, v0, bind_ok, mPart_e, mC_e, mNoPart_e, s5, iterR_tup, toS_ok]
      exact ff
    rw [mSeq_e, l1]
    cases hf1 : [intT f1, intT f2].find? P1 with
    | some d =>
      have : P1 (intT f1) = true ∨ P1 (intT f2) = true := by
        have h1 := List.find?_some hf1
        have h2 := List.mem_of_find?_eq_some hf1
        simp only [List.mem_cons, List.not_mem_nil, or_false] at h2
        rcases h2 with rfl | rfl
        · exact .inl h1
        · exact .inr h1
      rw [pf, pf] at this
      rw [eS]
      rcases this with h | h
      · rw [Bool.not_eq_true'] at h
        rw [h]; simp
      · rw [Bool.not_eq_true'] at h
        rw [h]; simp
    | none =>
    rw [List.find?_eq_none] at hf1
    have g1 : (f1.all fun i => decide (i ∈ c)) = true := by
      have := hf1 (intT f1) (by simp)
      rw [pf] at this
      simpa using this
    have g2 : (f2.all fun i => decide (i ∈ c)) = true := by
      have := hf1 (intT f2) (by simp)
      rw [pf] at this
      simpa using this
    rw [eS, g1, g2, Bool.and_true, Bool.and_true, then_nx, mSeq_e]
    -- the bars
    have notup : (∀ l, x4 ≠ .tuple l) → areBars c a b x4 = false := fun h => by
      cases q : areBars c a b x4
      · rfl
      · obtain ⟨ks, e, _⟩ := wrBars.mp q
        exact absurd e (h _)
    have nd4 := m4.noDct
    cases x4 with
    | dict l => cases nd4
    | tuple bl =>
      by_cases h20 : bl.length ≤ 20
      case neg =>
        have : areBars c a b (.tuple bl) = false := by
          cases q : areBars c a b (.tuple bl)
          · rfl
          · obtain ⟨ks, e, hl, _⟩ := wrBars.mp q
            have e := PyData.tuple.inj e
            rw [e, List.length_map] at h20
            exact absurd hl h20
        have h20' : (20 : Int) < bl.length := by omega
        simp [e4, noDct, h20', this]
      have h20' : ¬ (20 : Int) < bl.length := by omega
      have hc : mIfS (mOrT (mNotT (mTru (mIs "tuple" (mOp gIx (mVar 0) (mC (.int 4)))))) (mTst (mOp (gD2 gtD) (mCB gLen (mCons (mOp gIx (mVar 0) (mC (.int 4))) mNil)) (mC (.int 20))))) (mRet (mC (.bool false))) mNext [some (.d V), none, none, none, none] st = .nx [some (.d V), none, none, none, none] st := by
        simp [e4, noDct, h20']
      rw [hc, then_nx, mSeq_e]
      have l2 : l__law_is_school_2 [some (.d V), none, none, none, none] st = (match bl.find? (fun d => !isKind c a b d) with
          | some _ => .rt (.d (.bool false)) st
          | none => .nx [some (.d V), none, none, none, none] st) := by
        have ff := for_find (g := mG 3) (bd := b__law_is_school_2) (en := [some (.d V), none, none, none, none]) (st := st) (chk := yes) (fun d => !isKind c a b d) (fun _ => .d (.bool false)) rfl bl fun d hd => by
          have pd := Pl.mem m4 d hd
          have ndd := pd.noDct
          rw [turn_e, mG_e, only_nx, then_nx]
          unfold b__law_is_school_2
          dsimp only [List.set_cons_succ, List.set_cons_zero]
          by_cases h3 : isTup 3 d = true
          case neg =>
            have e : isKind c a b d = false := by
              cases q : isKind c a b d
              · rfl
              · obtain ⟨kk, e, _⟩ := isKind_true.mp q
                rw [e] at h3
                exact absurd rfl h3
            rw [e]
            cases d with
            | tuple l =>
              have h3' : ¬ (l.length : Int) = 3 := fun z => h3 (by
                show decide (l.length = 3) = true
                rw [decide_eq_true_eq]
                omega)
              have ne : neD (.int l.length) (.int 3) = some (.bool true) := by rw [neInt]; simp [h3']
              simp [noDct, ne]
            | dict l => cases ndd
            | _ => simp [isT, tyNm, noDct]
          obtain ⟨y0, y1, y2, rfl⟩ : ∃ y0 y1 y2, d = .tuple [y0, y1, y2] := by
            cases d with
            | tuple l =>
              have : l.length = 3 := by simpa [isTup] using h3
              match l, this with
              | [y0, y1, y2], _ => exact ⟨y0, y1, y2, rfl⟩
            | _ => cases h3
          have hn : ∀ d ∈ [y0, y1, y2], noDct d = true := fun d hd => (Pl.mem pd d hd).noDct
          have n3 : neD (.int 3) (.int 3) = some (.bool false) := by rw [neInt]; simp
          have c1 : c__law_is_school_1 [some (.d V), none, none, some (.d (.tuple [y0, y1, y2])), none] st = .ok (.d (.list (([y0, y1, y2].filter fun d => !inR (-8) 8 d).map fun _ => PyData.int 1))) st := by
            unfold c__law_is_school_1
            refine mLc_d (l := [y0, y1, y2]) (chk := yes) hs (fun d => !inR (-8) 8 d) (fun _ => .int 1) (by simp) rfl rfl fun d hd => ⟨_, rfl, ?_, fun _ => rfl⟩
            have q := law_is_number_eq (lo := -8) (hi := 8) hs (hn d hd)
            unfold i__law_is_school_1
            simp [hs, q]
          have o := (ones_e (v := .none) c1 []).2
          have hfirst : ∀ tail, (mIfS (mOrT (mNotT (mTru (mIs "tuple" (mVar 3)))) (mTst (mOp (gV neD) (mCB gLen (mCons (mVar 3) mNil)) (mC (.int 3))))) (mRet (mC (.bool false))) mNext [some (.d V), none, none, some (.d (.tuple [y0, y1, y2])), none] st).then tail = tail [some (.d V), none, none, some (.d (.tuple [y0, y1, y2])), none] st := fun tail => by
            simp [noDct, n3]
          rw [mWipe_e, mSeq_e, hfirst, mSeq_e, mIfS_e, o, toS_ok]
          by_cases hr : [y0, y1, y2].all (inR (-8) 8) = true
          · rw [hr]
            have w : ∀ d ∈ [y0, y1, y2], isWh d = true := fun d hd => inR_wh (List.all_eq_true.mp hr d hd)
            obtain ⟨i0, rfl⟩ : ∃ i, y0 = .int i := by
              have := w y0 (by simp)
              cases y0 <;> first | exact ⟨_, rfl⟩ | cases this
            obtain ⟨i1, rfl⟩ : ∃ i, y1 = .int i := by
              have := w y1 (by simp)
              cases y1 <;> first | exact ⟨_, rfl⟩ | cases this
            obtain ⟨i2, rfl⟩ : ∃ i, y2 = .int i := by
              have := w y2 (by simp)
              cases y2 <;> first | exact ⟨_, rfl⟩ | cases this
            have ik : isKind c a b (.tuple [.int i0, .int i1, .int i2]) = (decide (i0 ∈ c) && (decide (i1 ∈ a) && decide (i2 ∈ b))) := rfl
            rw [ik]
            by_cases q0 : i0 ∈ c <;> by_cases q1 : i1 ∈ a <;> by_cases q2 : i2 ∈ b <;> simp [e1, e2, e3, q0, q1, q2]
          · have hr' : [y0, y1, y2].all (inR (-8) 8) = false := by simpa using hr
            rw [hr']
            have e : isKind c a b (.tuple [y0, y1, y2]) = false := by
              cases q : isKind c a b (.tuple [y0, y1, y2])
              · rfl
              · obtain ⟨⟨i0, i1, i2⟩, e, k0, k1, k2⟩ := isKind_true.mp q
                have e := PyData.tuple.inj e
                rw [e] at hr
                have := cr i0 k0
                have := ar i1 k1
                have := br i2 k2
                refine absurd ?_ hr
                show (inRI (-8) 8 i0 && (inRI (-8) 8 i1 && (inRI (-8) 8 i2 && true))) = true
                unfold inRI
                simp
                omega
            rw [e]
            rfl
        unfold l__law_is_school_2
        simp only [mFor_e, mSeqR_e, mOp_e, v0, bind_ok, mC_e, e4, iterR_tup, toS_ok]
        exact ff
      rw [l2]
      cases hk2 : bl.find? (fun d => !isKind c a b d) with
      | some d =>
        have h1 := List.find?_some hk2
        have h2 := List.mem_of_find?_eq_some hk2
        have : areBars c a b (.tuple bl) = false := by
          cases q : areBars c a b (.tuple bl)
          · rfl
          · obtain ⟨ks, e, _, km, _⟩ := wrBars.mp q
            have e := PyData.tuple.inj e
            rw [e] at h2
            obtain ⟨kk, hkk, rfl⟩ := List.mem_map.mp h2
            have : isKind c a b (kd kk) = true := isKind_true.mpr ⟨kk, rfl, km kk hkk⟩
            rw [this] at h1
            cases h1
        rw [this]
        rfl
      | none =>
        rw [List.find?_eq_none] at hk2
        obtain ⟨ks, rfl, km⟩ := all_kind (a := c) (b := a) (c := b) (l := bl) fun d hd => by simpa using hk2 d hd
        rw [List.length_map] at h20
        rw [then_nx, mRet_e]
        have gl : gList [.d (.tuple (ks.map kd))] st = .ok (.d (.list (ks.map kd))) st := gList_tup
        have eb : areBars c a b (.tuple (ks.map kd)) = decide (ks.Pairwise fun x y => HT.lexLt (kL x) (kL y) = true) := by
          rw [Bool.eq_iff_iff, barsOk, decide_eq_true_eq]
          exact ⟨fun h => h.2.2, fun h => ⟨h20, km, h⟩⟩
        rw [eb]
        by_cases hk0 : ks = []
        · subst hk0
          have g0 : gSortedSet [.d (.tuple [])] st = .ok (.d (.list [])) st := (sset_ints (ns := []) (by simp)).trans (by rw [show setI [] = [] from by simp [setI, dd]]; rfl)
          simp [e4, g0, eq_nil_pl (l := []) (fun _ z => nomatch z)]
        · have kk : ks.map kd = (ks.map kL).map tI := by rw [List.map_map]; rfl
          have g0 : gSortedSet [.d (.tuple (ks.map kd))] st = .ok (.d (.list (setR (ks.map kL)))) st := by
            rw [kk]
            exact sset_rows (by rw [List.length_map]; omega) (fun k hk => by
              obtain ⟨z, _, rfl⟩ := List.mem_map.mp hk
              simp [kL]) (by simpa using hk0)
          have q : eqD (.list (setR (ks.map kL))) (.list (ks.map kd)) = some (.bool (decide (ks.Pairwise fun x y => HT.lexLt (kL x) (kL y) = true))) := by
            rw [kk, setR_asc]
            congr 2
            rw [decide_eq_decide, List.pairwise_map]
          simp only [mOp_e, mCB_e, mCons_e, v0, mC_e, bind_ok, mNil_e, e4, g0, gl, gV_e, q, toS_ok]
    | _ =>
      rw [notup (fun l z => by cases z)]
      simp [e4, isT, tyNm, noDct]
end K02
set_option Elab.async false
set_option linter.all false
set_option maxRecDepth 100000
set_option maxHeartbeats 1000000
namespace K02
open PySem TT
variable {st : Sto} {n : Nat}
def someL : List D := [.none, .bool true, .bool false, .int 0, .int 1, .int (-1), .int 2, .int 9, .int (-9), .int 1000000000000000000000000000000, .str "", .tuple [], .tuple [.int 0], .tuple [.int 0, .int 0, .int 0], .list []]
theorem someL_ok : ∀ d ∈ someL, Sx 1 d ∧ Ln d ≤ 40 := by
  have i0 : Sx 0 (.int 0) := (nice_int (by decide)).sx
  have q : ∀ d ∈ someL, (d.canLay0 && d.showable && !d.hasDict && decide (d.depth ≤ 1) && decide (Ln d ≤ 40)) = true := by
    have : (someL.all fun d => d.canLay0 && d.showable && !d.hasDict && decide (d.depth ≤ 1) && decide (Ln d ≤ 40)) = true := by decide +kernel
    exact List.all_eq_true.mp this
  intro d hd
  have := q d hd
  simp only [Bool.and_eq_true, decide_eq_true_eq, Bool.not_eq_true'] at this
  exact ⟨⟨this.1.1.1.1, this.1.1.1.2, this.1.1.2, this.1.2⟩, this.2⟩
theorem pw30 : powD (.int 10) (.int 30) = some (.int 1000000000000000000000000000000) := by
  show (if (0 : Int) ≤ 30 ∧ (30 : Int) ≤ 1000000 ∧ (10 : Int).natAbs < 2 ^ 64 then some (PyData.int ((10 : Int) ^ (30 : Int).toNat)) else none) = _
  rw [if_pos ⟨by decide, by decide, by decide⟩]
  rfl
def moreL (l : List D) (i : Nat) : List D := [.tuple (l.take i ++ l.drop (i + 1)), .tuple (l ++ cutL l (some (-1)) none), .list l, .tuple l.reverse, .tuple [.tuple l], .tuple (l.drop i ++ l.take i)]
theorem moreL_ok {k : Nat} {l : List D} (h : Sx (k + 1) (.tuple l)) (i : Nat) : ∀ d ∈ moreL l i, Sx (k + 2) d ∧ Ln d ≤ 2 * Ln (.tuple l) + 50 := by
  have hm := h.mem
  have b := Ln_tup l
  have tk : Sm (l.take i) ≤ Sm l := Sm_sub (List.take_sublist _ _)
  have dr : Sm (l.drop i) ≤ Sm l := Sm_sub (List.drop_sublist _ _)
  have dr1 : Sm (l.drop (i + 1)) ≤ Sm l := Sm_sub (List.drop_sublist _ _)
  have ct : Sm (cutL l (some (-1)) none) ≤ Sm l := Sm_sub (cutL_sub _ _ _)
  have rv : Sm l.reverse = Sm l := Sm_perm (List.reverse_perm l)
  have mt : ∀ m : List D, (∀ d ∈ m, d ∈ l) → Sx (k + 2) (.tuple m) := fun m q => (Sx.tup fun d hd => hm d (q d hd)).mono (Nat.le_succ _)
  have two : ∀ m : List D, Sm m ≤ 2 * Sm l → Ln (.tuple m) ≤ 2 * Ln (.tuple l) + 50 := fun m q => by have := Ln_tup m; omega
  intro d hd
  unfold moreL at hd
  simp only [List.mem_cons, List.not_mem_nil, or_false] at hd
  rcases hd with rfl | rfl | rfl | rfl | rfl | rfl
  · refine ⟨mt _ fun d hd => ?_, two _ (by rw [Sm_app]; omega)⟩
    rcases List.mem_append.mp hd with q | q
    · exact List.mem_of_mem_take q
    · exact List.mem_of_mem_drop q
  · refine ⟨mt _ fun d hd => ?_, two _ (by rw [Sm_app]; omega)⟩
    rcases List.mem_append.mp hd with q | q
    · exact q
    · exact (cutL_sub _ _ _).subset q
  · exact ⟨(Sx.lst hm).mono (Nat.le_succ _), by have := Ln_lst l; omega⟩
  · exact ⟨mt _ fun d hd => List.mem_reverse.mp hd, two _ (by rw [rv]; omega)⟩
  · refine ⟨Sx.tup fun d hd => ?_, ?_⟩
    · rw [List.mem_singleton] at hd
      rw [hd]
      exact h
    · have := Ln_tup [PyData.tuple l]
      rw [Sm_cons, Sm_nil] at this
      omega
  · refine ⟨mt _ fun d hd => ?_, two _ (by rw [Sm_app]; omega)⟩
    rcases List.mem_append.mp hd with q | q
    · exact List.mem_of_mem_drop q
    · exact List.mem_of_mem_take q
theorem bent_step {rec : SemF} {k : Nat} {v : D} (g : GW st n) (hv : Sx k v) (hk : k ≤ 20) (hl : Ln v ≤ 100000) (hr : ∀ l, v = .tuple l → ∀ w ∈ l, ∀ st, GW st n → ∃ r st', rec [.ref n, .d w] st = .ok (.d r) st' ∧ Sx k r ∧ Ln r ≤ 2 * Ln w + 50 + 10 * (k - 1) ∧ Dr n st st') :
    ∃ r st', frzF (runF 6 (f__law_bent rec)) [.ref n, .d v] st = .ok (.d r) st' ∧ Sx (k + 1) r ∧ Ln r ≤ 2 * Ln v + 50 + 10 * k ∧ Dr n st st' := by
  have nd := hv.pl.noDct
  have of_ : ∀ s, GW s n → ∃ x s', F__law_of [.ref n, .d (.tuple someL)] s = .ok (.d x) s' ∧ x ∈ someL ∧ Dr n s s' := fun s hs => of_tup hs (by simp [someL]) (by simp [someL])
  have fin : ∀ x ∈ someL, Sx (k + 1) x ∧ Ln x ≤ 2 * Ln v + 50 + 10 * k := fun x hx => ⟨(someL_ok x hx).1.mono (by omega), by have := (someL_ok x hx).2; omega⟩
  have t0 : mAsgT (mTup (mCons (mC .none) (mCons (mC (.bool true)) (mCons (mC (.bool false)) (mCons (mC (.int 0)) (mCons (mC (.int 1)) (mCons (mNeg (mC (.int 1))) (mCons (mC (.int 2)) (mCons (mC (.int 9)) (mCons (mNeg (mC (.int 9))) (mCons (mOp (gD2 powD) (mC (.int 10)) (mC (.int 30))) (mCons (mC (.str "")) (mCons (mTup mNil) (mCons (mTup (mCons (mC (.int 0)) mNil)) (mCons (mTup (mCons (mC (.int 0)) (mCons (mC (.int 0)) (mCons (mC (.int 0)) mNil)))) (mCons (mLst mNil) mNil)))))))))))))))) (mG 2) [some (.ref n), some (.d v), none, none, none, none] st = .nx [some (.ref n), some (.d v), some (.d (.tuple someL)), none, none, none] st := by
    rw [mAsgT_e, show (mTup (mCons (mC .none) (mCons (mC (.bool true)) (mCons (mC (.bool false)) (mCons (mC (.int 0)) (mCons (mC (.int 1)) (mCons (mNeg (mC (.int 1))) (mCons (mC (.int 2)) (mCons (mC (.int 9)) (mCons (mNeg (mC (.int 9))) (mCons (mOp (gD2 powD) (mC (.int 10)) (mC (.int 30))) (mCons (mC (.str "")) (mCons (mTup mNil) (mCons (mTup (mCons (mC (.int 0)) mNil)) (mCons (mTup (mCons (mC (.int 0)) (mCons (mC (.int 0)) (mCons (mC (.int 0)) mNil)))) (mCons (mLst mNil) mNil)))))))))))))))) [some (.ref n), some (.d v), none, none, none, none] st = .ok (.d (.tuple someL)) st from by simp [pw30, someL]]
    rfl
  have rt : ∀ s s2 x, GW s n → GW s2 n → F__law_of [.ref n, .d (.tuple someL)] s = .ok (.d x) s2 → mRet (mCall F__law_of (mCons (mVar 0) (mCons (mVar 2) mNil))) [some (.ref n), some (.d v), some (.d (.tuple someL)), none, none, none] s = .rt (.d x) s2 := fun s s2 x hs h2 e => by
    simp [hs.fl, e]
  by_cases hA : isT "tuple" v = true
  case neg =>
    obtain ⟨x, s, e, hx, d⟩ := of_ st g
    refine ⟨x, s, run_set (d.gw g).fl d.len ?_, (fin x hx).1, (fin x hx).2, d⟩
    show f__law_bent rec [some (.ref n), some (.d v), none, none, none, none] st = _
    unfold f__law_bent
    have hA' : isT "tuple" v = false := by simpa using hA
    have i1 : (mIfS (mOrT (mNotT (mTru (mIs "tuple" (mVar 1)))) (mOrT (mTst (mOp (gV eqD) (mVar 1) (mTup mNil))) (mTst (mOp (gV eqD) (mCall F__law_draw (mCons (mVar 0) (mCons (mC (.int 5)) mNil))) (mC (.int 0)))))) (mRet (mCall F__law_of (mCons (mVar 0) (mCons (mVar 2) mNil)))) mNext) [some (.ref n), some (.d v), some (.d (.tuple someL)), none, none, none] st = .rt (.d x) s := by
      rw [mIfS_e, mOrT_e, mNotT_e, mTru_e, mIs_e]
      simp only [v0, vS, bind_ok, nd, if_true, hA', truU_bool, Bool.not_false, toS_ok]
      exact rt st s x g (d.gw g) e
    rw [mSeq_e, t0, then_nx, mSeq_e, i1]
    rfl
  obtain ⟨l, rfl⟩ : ∃ l, v = .tuple l := by
    cases v with
    | tuple l => exact ⟨l, rfl⟩
    | _ => simp [isT, tyNm] at hA
  have eq0 : eqD (.tuple l) (.tuple []) = some (.bool l.isEmpty) := by
    rw [eqD_pl hv.pl (Pl.tup (k := 0) (l := []) (fun _ z => nomatch z)) (by omega) (by decide), eqv_tt_nil]
  by_cases h0 : l = []
  case pos =>
    subst h0
    obtain ⟨x, s, e, hx, d⟩ := of_ st g
    refine ⟨x, s, run_set (d.gw g).fl d.len ?_, (fin x hx).1, (fin x hx).2, d⟩
    show f__law_bent rec [some (.ref n), some (.d (.tuple [])), none, none, none, none] st = _
    unfold f__law_bent
    have i1 : (mIfS (mOrT (mNotT (mTru (mIs "tuple" (mVar 1)))) (mOrT (mTst (mOp (gV eqD) (mVar 1) (mTup mNil))) (mTst (mOp (gV eqD) (mCall F__law_draw (mCons (mVar 0) (mCons (mC (.int 5)) mNil))) (mC (.int 0)))))) (mRet (mCall F__law_of (mCons (mVar 0) (mCons (mVar 2) mNil)))) mNext) [some (.ref n), some (.d (.tuple [])), some (.d (.tuple someL)), none, none, none] st = .rt (.d x) s := by
      rw [mIfS_e, mOrT_e, mNotT_e, mTru_e, mIs_e]
      have tu : mTup mNil [some (.ref n), some (.d (.tuple [])), some (.d (.tuple someL)), none, none, none] st = .ok (.d (.tuple [])) st := by simp
      simp only [v0, vS, bind_ok, nd, if_true, hA, truU_bool, Bool.not_true, Bool.false_eq_true, if_false, mOrT_e, mTst_e, mOp_e, tu, gV_e, eq0, List.isEmpty_nil, toS_ok]
      exact rt st s x g (d.gw g) e
    rw [mSeq_e, t0, then_nx, mSeq_e, i1]
    rfl
  obtain ⟨j, rfl⟩ := hv.mem0 h0
  have eE : l.isEmpty = false := by cases l with
    | nil => exact absurd rfl h0
    | cons a l => rfl
  have hlen : l.length ≤ 100000 := by have := Sm_len l; have := (Ln_tup l).2; omega
  have hpos : 0 < l.length := List.length_pos_iff.mpr h0
  obtain ⟨r1, s1, e1, r10, r11, d1⟩ := draw_eq (lim := 5) g (by decide) (by decide)
  have g1 := d1.gw g
  have cond : mOrT (mNotT (mTru (mIs "tuple" (mVar 1)))) (mOrT (mTst (mOp (gV eqD) (mVar 1) (mTup mNil))) (mTst (mOp (gV eqD) (mCall F__law_draw (mCons (mVar 0) (mCons (mC (.int 5)) mNil))) (mC (.int 0))))) [some (.ref n), some (.d (.tuple l)), some (.d (.tuple someL)), none, none, none] st = .ok (decide (r1 = 0)) s1 := by
    have tu : mTup mNil [some (.ref n), some (.d (.tuple l)), some (.d (.tuple someL)), none, none, none] st = .ok (.d (.tuple [])) st := by simp
    rw [mOrT_e, mNotT_e, mTru_e, mIs_e]
    simp only [v0, vS, bind_ok, nd, if_true, hA, truU_bool, Bool.not_true, Bool.false_eq_true, if_false, mOrT_e, mTst_e, mOp_e, tu, gV_e, eq0, eE]
    simp [g.fl, e1, eqInt]
  by_cases hr0 : r1 = 0
  case pos =>
    obtain ⟨x, s, e, hx, d⟩ := of_ s1 g1
    refine ⟨x, s, run_set (d.gw g1).fl (by rw [d.len, d1.len]) ?_, (fin x hx).1, (fin x hx).2, d1.trans d⟩
    show f__law_bent rec [some (.ref n), some (.d (.tuple l)), none, none, none, none] st = _
    unfold f__law_bent
    have i1 : (mIfS (mOrT (mNotT (mTru (mIs "tuple" (mVar 1)))) (mOrT (mTst (mOp (gV eqD) (mVar 1) (mTup mNil))) (mTst (mOp (gV eqD) (mCall F__law_draw (mCons (mVar 0) (mCons (mC (.int 5)) mNil))) (mC (.int 0)))))) (mRet (mCall F__law_of (mCons (mVar 0) (mCons (mVar 2) mNil)))) mNext) [some (.ref n), some (.d (.tuple l)), some (.d (.tuple someL)), none, none, none] st = .rt (.d x) s := by
      rw [mIfS_e, cond, toS_ok, if_pos (by simpa using hr0)]
      exact rt s1 s x g1 (d.gw g1) e
    rw [mSeq_e, t0, then_nx, mSeq_e, i1]
    rfl
  have i1 : (mIfS (mOrT (mNotT (mTru (mIs "tuple" (mVar 1)))) (mOrT (mTst (mOp (gV eqD) (mVar 1) (mTup mNil))) (mTst (mOp (gV eqD) (mCall F__law_draw (mCons (mVar 0) (mCons (mC (.int 5)) mNil))) (mC (.int 0)))))) (mRet (mCall F__law_of (mCons (mVar 0) (mCons (mVar 2) mNil)))) mNext) [some (.ref n), some (.d (.tuple l)), some (.d (.tuple someL)), none, none, none] st = .nx [some (.ref n), some (.d (.tuple l)), some (.d (.tuple someL)), none, none, none] s1 := by
    rw [mIfS_e, cond, toS_ok, if_neg (by simpa using hr0)]
    rfl
  obtain ⟨r2, s2, e2, r20, r21, d2⟩ := draw_eq (lim := l.length) g1 (by omega) (by omega)
  have g2 := d2.gw g1
  obtain ⟨r3, s3, e3, r30, r31, d3⟩ := draw_eq (lim := 9) g2 (by decide) (by decide)
  have g3 := d3.gw g2
  have d13 := d1.trans (d2.trans d3)
  obtain ⟨i, rfl⟩ := Int.eq_ofNat_of_zero_le r20
  have hi : i < l.length := by omega
  have pr : (mPar2 3 4 (mCons (mCall F__law_draw (mCons (mVar 0) (mCons (mCB gLen (mCons (mVar 1) mNil)) mNil))) (mCons (mCall F__law_draw (mCons (mVar 0) (mCons (mC (.int 9)) mNil))) mNil))) [some (.ref n), some (.d (.tuple l)), some (.d (.tuple someL)), none, none, none] s1 = .nx [some (.ref n), some (.d (.tuple l)), some (.d (.tuple someL)), some (.d (.int i)), some (.d (.int r3)), none] s3 := by
    unfold mPar2
    simp [g1.fl, g2.fl, g3.fl, e2, e3]
  have ct : cutL l none (some (i : Int)) = l.take i := cutL_take l i
  have cd : cutL l (some ((i : Int) + 1)) none = l.drop (i + 1) := cutL_drop l (i + 1)
  have cd0 : cutL l (some (i : Int)) none = l.drop i := cutL_drop l i
  have lt1 : (l.take i).length ≤ l.length := by rw [List.length_take]; omega
  have ld1 : (l.drop (i + 1)).length ≤ l.length := by rw [List.length_drop]; omega
  have ld0 : (l.drop i).length ≤ l.length := by rw [List.length_drop]; omega
  by_cases hw : r3 < 5
  case pos =>
    have ix : ∀ st, gIx (.d (.tuple l)) (.d (.int (i : Int))) st = .ok (.d l[i]) st := fun st => gIx_nat (List.getElem?_eq_getElem hi)
    obtain ⟨r, s4, e4, hx, hn, d4⟩ := hr l rfl l[i] (List.getElem_mem hi) s3 g3
    have g4 := d4.gw g3
    refine ⟨.tuple (l.take i ++ [r] ++ l.drop (i + 1)), s4, run_set g4.fl (by rw [d4.len, d13.len]) ?_, Sx.tup fun d hd => ?_, ?_, d13.trans d4⟩
    · show f__law_bent rec [some (.ref n), some (.d (.tuple l)), none, none, none, none] st = _
      unfold f__law_bent
      have i2 : (mIfS (mTst (mOp (gD2 ltD) (mVar 4) (mC (.int 5)))) (mRet (mOp (gD2 addD) (mOp (gD2 addD) (mSl (mVar 1) mNoPart (mPart (mVar 3))) (mTup (mCons (mCall rec (mCons (mVar 0) (mCons (mOp gIx (mVar 1) (mVar 3)) mNil))) mNil))) (mSl (mVar 1) (mPart (mOp (gD2 addD) (mVar 3) (mC (.int 1)))) mNoPart))) mNext) [some (.ref n), some (.d (.tuple l)), some (.d (.tuple someL)), some (.d (.int i)), some (.d (.int r3)), none] s3 = .rt (.d (.tuple (l.take i ++ [r] ++ l.drop (i + 1)))) s4 := by
        have a1 : addD (.tuple (l.take i)) (.tuple [r]) = some (.tuple (l.take i ++ [r])) := add_tt (by rw [List.length_singleton]; omega)
        have a2 : addD (.tuple (l.take i ++ [r])) (.tuple (l.drop (i + 1))) = some (.tuple (l.take i ++ [r] ++ l.drop (i + 1))) := add_tt (by rw [List.length_append, List.length_singleton]; omega)
        simp [hw, ct, cd, ix, g3.fl, e4, a1, a2, -List.append_assoc]
      rw [mSeq_e, t0, then_nx, mSeq_e, i1, then_nx, mSeq_e, pr, then_nx, mSeq_e, i2]
      rfl
    · simp only [List.mem_append, List.mem_singleton] at hd
      rcases hd with (q | q) | q
      · exact (hv.mem d (List.mem_of_mem_take q)).mono (Nat.le_succ _)
      · rw [q]; exact hx
      · exact (hv.mem d (List.mem_of_mem_drop q)).mono (Nat.le_succ _)
    · have b1 := Ln_tup (l.take i ++ [r] ++ l.drop (i + 1))
      have b2 := Ln_tup l
      have sp : Sm l = Sm (l.take i) + (Ln l[i] + 2) + Sm (l.drop (i + 1)) := by
        have e : l.take i ++ l[i] :: l.drop (i + 1) = l := by rw [List.getElem_cons_drop, List.take_append_drop]
        have e2 := congrArg Sm e
        rw [Sm_app, Sm_cons] at e2
        omega
      simp only [Sm_app, Sm_cons, Sm_nil] at b1
      have : j + 1 - 1 = j := rfl
      rw [this] at hn
      omega
  case neg =>
    have mo : ∀ d ∈ moreL l i, _ := moreL_ok hv i
    obtain ⟨x, s4, e4, hx, d4⟩ := of_lst (l := moreL l i) g3 (by simp [moreL]) (by simp [moreL])
    have g4 := d4.gw g3
    refine ⟨x, s4, run_set g4.fl (by rw [d4.len, d13.len]) ?_, (mo x hx).1, by have := (mo x hx).2; omega, d13.trans d4⟩
    show f__law_bent rec [some (.ref n), some (.d (.tuple l)), none, none, none, none] st = _
    unfold f__law_bent
    have i2 : (mIfS (mTst (mOp (gD2 ltD) (mVar 4) (mC (.int 5)))) (mRet (mOp (gD2 addD) (mOp (gD2 addD) (mSl (mVar 1) mNoPart (mPart (mVar 3))) (mTup (mCons (mCall rec (mCons (mVar 0) (mCons (mOp gIx (mVar 1) (mVar 3)) mNil))) mNil))) (mSl (mVar 1) (mPart (mOp (gD2 addD) (mVar 3) (mC (.int 1)))) mNoPart))) mNext) [some (.ref n), some (.d (.tuple l)), some (.d (.tuple someL)), some (.d (.int i)), some (.d (.int r3)), none] s3 = .nx [some (.ref n), some (.d (.tuple l)), some (.d (.tuple someL)), some (.d (.int i)), some (.d (.int r3)), none] s3 := by
      simp [hw]
    obtain ⟨m5, hm5⟩ : ∃ m5 : List D, m5 = [.tuple (l.take i ++ l.drop (i + 1)), .tuple (l ++ cutL l (some (-1)) none), .list l, .tuple l.reverse, .tuple [.tuple l]] := ⟨_, rfl⟩
    have i3 : (mAsgT (mLst (mCons (mOp (gD2 addD) (mSl (mVar 1) mNoPart (mPart (mVar 3))) (mSl (mVar 1) (mPart (mOp (gD2 addD) (mVar 3) (mC (.int 1)))) mNoPart)) (mCons (mOp (gD2 addD) (mVar 1) (mSl (mVar 1) (mPart (mNeg (mC (.int 1)))) mNoPart)) (mCons (mCB gList (mCons (mVar 1) mNil)) (mCons (mRevT (mVar 1)) (mCons (mTup (mCons (mVar 1) mNil)) mNil)))))) (mG 5)) [some (.ref n), some (.d (.tuple l)), some (.d (.tuple someL)), some (.d (.int i)), some (.d (.int r3)), none] s3 = .nx [some (.ref n), some (.d (.tuple l)), some (.d (.tuple someL)), some (.d (.int i)), some (.d (.int r3)), some (.d (.list m5))] s3 := by
      have a1 : addD (.tuple (l.take i)) (.tuple (l.drop (i + 1))) = some (.tuple (l.take i ++ l.drop (i + 1))) := add_tt (by omega)
      have lc := (cutL_sub l (some (-1)) none).length_le
      have a2 : addD (.tuple l) (.tuple (cutL l (some (-1)) none)) = some (.tuple (l ++ cutL l (some (-1)) none)) := add_tt (by omega)
      simp [ct, cd, a1, a2, hm5]
    have i4 : (mOp (gD2 addD) (mVar 5) (mLst (mCons (mOp (gD2 addD) (mSl (mVar 1) (mPart (mVar 3)) mNoPart) (mSl (mVar 1) mNoPart (mPart (mVar 3)))) mNil))) [some (.ref n), some (.d (.tuple l)), some (.d (.tuple someL)), some (.d (.int i)), some (.d (.int r3)), some (.d (.list m5))] s3 = .ok (.d (.list (moreL l i))) s3 := by
      have a1 : addD (.tuple (l.drop i)) (.tuple (l.take i)) = some (.tuple (l.drop i ++ l.take i)) := add_tt (by omega)
      have a2 : addD (.list m5) (.list [.tuple (l.drop i ++ l.take i)]) = some (.list (moreL l i)) := by
        rw [add_ll (by rw [hm5]; simp), hm5]
        rfl
      simp [ct, cd0, a1, a2]
    rw [mSeq_e, t0, then_nx, mSeq_e, i1, then_nx, mSeq_e, pr, then_nx, mSeq_e, i2, then_nx, mSeq_e, i3, then_nx, mRet_e, mCall_e, mCons_e, v0, bind_ok, mCons_e, i4]
    simp [g3.fl, e4]
theorem bent_eq : ∀ (k : Nat) (v : D) (st : Sto) (fuel : Nat), k < fuel → k ≤ 20 → GW st n → Sx k v → Ln v ≤ 100000 → ∃ r st', F__law_bent fuel [.ref n, .d v] st = .ok (.d r) st' ∧ Sx (k + 1) r ∧ Ln r ≤ 2 * Ln v + 50 + 10 * k ∧ Dr n st st' := by
  intro k
  induction k with
  | zero =>
    intro v st fuel hf hk g hv hl
    cases fuel with
    | zero => exact absurd hf (Nat.lt_irrefl _)
    | succ f =>
      exact bent_step (rec := F__law_bent f) g hv hk hl fun l e w hw => by
        subst e
        obtain ⟨j, z⟩ := hv.mem0 (fun z => by rw [z] at hw; cases hw)
        cases z
  | succ k ih =>
    intro v st fuel hf hk g hv hl
    cases fuel with
    | zero => cases hf
    | succ f =>
      refine bent_step (rec := F__law_bent f) g hv hk hl fun l e w hw st g => ?_
      subst e
      have b := Ln_tup l
      have q : Ln w ≤ Sm l := by
        obtain ⟨x, y, rfl⟩ := List.append_of_mem hw
        rw [Sm_app, Sm_cons]
        omega
      exact ih w st f (by omega) (by omega) g (hv.mem w hw) (by omega)
end K02
set_option Elab.async false
set_option linter.all false
set_option maxRecDepth 100000
set_option maxHeartbeats 1000000
namespace K02
open PySem TT
variable {st : Sto} {n : Nat} {h z1 z2 z3 : Int} {a b c : List Int}
def evL (h : Int) : List D := (intR (0 - h) (h + 1)).map .int
/-- a row of small numbers -/
def Sn (l : List Int) : Prop := l.length ≤ 10 ∧ ∀ i ∈ l, -10 ≤ i ∧ i ≤ 10
theorem Sn.cut {l : List Int} (s : Sn l) (x y : Option Int) : Sn (cutL l x y) :=
  ⟨Nat.le_trans (cutL_sub l x y).length_le s.1, fun i hi => s.2 i ((cutL_sub l x y).subset hi)⟩
theorem Sn.nice {l : List Int} (s : Sn l) : Nice (intT l) 2000 2 := (nice_ints (m := 10) (fun i hi => by have := s.2 i hi; omega) s.1).mono (by decide) (by decide)
theorem sizes_comp (g : GW st n) (hh : 7 ≤ h ∧ h ≤ 9) (z : (5 ≤ z1 ∧ z1 ≤ 10) ∧ (5 ≤ z2 ∧ z2 ≤ 10) ∧ 5 ≤ z3 ∧ z3 ≤ 10) : ∃ a b c st', c__law_edges_0 [some (.ref n), some (.d (.int h)), some (.d (.list (evL h))), some (.d (.list [.int z1, .int z2, .int z3])), none, none, none, none, none, none, none, none, none, none, none, none] st = .ok (.d (.list [intT a, intT b, intT c])) st' ∧ Sn a ∧ Sn b ∧ Sn c ∧ a ≠ [] ∧ b ≠ [] ∧ c ≠ [] ∧ Dr n st st' := by
  have el : (evL h).length = (2 * h + 1).toNat := by unfold evL; rw [List.length_map, intR_length]; omega
  obtain ⟨r, st', e, d, hl, hq⟩ := mLc_st (st := st) (st1 := st) (l := [.int z1, .int z2, .int z3]) (chk := yes) (en := [some (.ref n), some (.d (.int h)), some (.d (.list (evL h))), some (.d (.list [.int z1, .int z2, .int z3])), none, none, none, none, none, none, none, none, none, none, none, none]) (vs := [14]) (fi := mSeqR (mVar 3)) (g := mG 14) (fe := e__law_edges_0) (fun s => Dr n st s) (fun d => ∃ l, d = intT l ∧ Sn l ∧ l ≠ []) (by simp) rfl g.fl.own (fun _ _ => rfl) (Dr.refl g) fun d hd s hs => by
    have gs := hs.gw g
    obtain ⟨m, rfl, m1⟩ : ∃ m : Int, d = .int m ∧ 5 ≤ m ∧ m ≤ 10 := by
      simp only [List.mem_cons, List.not_mem_nil, or_false] at hd
      rcases hd with rfl | rfl | rfl
      · exact ⟨_, rfl, z.1⟩
      · exact ⟨_, rfl, z.2.1⟩
      · exact ⟨_, rfl, z.2.2⟩
    obtain ⟨k, rfl⟩ := Int.eq_ofNat_of_zero_le (show 0 ≤ m by omega)
    obtain ⟨l', s2, e, hsub, hlen, d2⟩ := unlike_eq (l := evL h) (many := k) gs (by omega) (by omega) (by omega)
    obtain ⟨ns, hns, rfl⟩ : ∃ ns : List Int, ns.Sublist (intR (0 - h) (h + 1)) ∧ ns.map PyData.int = l' := by
      obtain ⟨ns, h1, h2⟩ := List.sublist_map_iff.mp hsub
      exact ⟨ns, h1, h2.symm⟩
    rw [List.length_map] at hlen
    have tl : ∀ st, gTuple [.d (.list (ns.map .int))] st = .ok (.d (intT ns)) st := fun st => gTuple_lst
    refine ⟨_, intT ns, s2, rfl, ?_, hs.trans d2, ns, rfl, ⟨by omega, fun i hi => ?_⟩, fun z => by rw [z] at hlen; simp at hlen; omega⟩
    · unfold e__law_edges_0
      simp [gs.fl, e, tl, -List.map_map]
    · have := mem_intR.mp (hns.subset hi)
      omega
  have hl : r.length = 3 := hl
  match r, hl, hq with
  | [d1, d2, d3], _, hq =>
    obtain ⟨a, rfl, a1, a2⟩ := hq d1 (by simp)
    obtain ⟨b, rfl, b1, b2⟩ := hq d2 (by simp)
    obtain ⟨c, rfl, c1, c2⟩ := hq d3 (by simp)
    exact ⟨a, b, c, st', e, a1, b1, c1, a2, b2, c2, d⟩

def Sk (a b c : List Int) (ks : List (Int × Int × Int)) : Prop := ∀ k ∈ ks, k.1 ∈ c ∧ k.2.1 ∈ a ∧ k.2.2 ∈ b
theorem inner_turn (hs : Fl st) {ks : List (Int × Int × Int)} {x y : Int} (hl : ks.length ≤ 1000) (hk : Sk a b c ks) (hx : x ∈ c) (hy : y ∈ a) : ∃ ks2 : List (Int × Int × Int), turn (mGC 9) b__law_edges_0 (.d (.int y)) [some (.ref n), some (.d (.int h)), some (.d (.list (evL h))), some (.d (.list [.int z1, .int z2, .int z3])), some (.d (intT a)), some (.d (intT b)), some (.d (intT c)), some (.d (.list (ks.map kd))), some (.d (.int x)), none, none, none, none, none, none, none] st = .nx [some (.ref n), some (.d (.int h)), some (.d (.list (evL h))), some (.d (.list [.int z1, .int z2, .int z3])), some (.d (intT a)), some (.d (intT b)), some (.d (intT c)), some (.d (.list (ks2.map kd))), some (.d (.int x)), none, none, none, none, none, none, none] st ∧ Sk a b c ks2 ∧ ks2.length ≤ ks.length + 2 := by
  have cc : c__law_edges_1 [some (.ref n), some (.d (.int h)), some (.d (.list (evL h))), some (.d (.list [.int z1, .int z2, .int z3])), some (.d (intT a)), some (.d (intT b)), some (.d (intT c)), some (.d (.list (ks.map kd))), some (.d (.int x)), some (.d (.int y)), none, none, none, none, none, none] st = .ok (.d (.list (((b.take 2).map fun z => (x, y, z)).map kd))) st := by
    unfold c__law_edges_1
    have ct : cutL b none (some 2) = b.take 2 := cutL_take b 2
    refine (mLc_m (l := (b.take 2).map PyData.int) (chk := yes) hs (fun d => .tuple [.int x, .int y, d]) (by simp [ct, -List.map_take]) rfl rfl fun d hd => ?_).trans ?_
    · refine ⟨_, rfl, ?_⟩
      unfold e__law_edges_1
      simp
    · rw [List.map_map, List.map_map]
      rfl
  refine ⟨ks ++ (b.take 2).map fun z => (x, y, z), ?_, fun k hk2 => ?_, by rw [List.length_append, List.length_map, List.length_take]; omega⟩
  · unfold b__law_edges_0
    have lt : (b.take 2).length ≤ 2 := by rw [List.length_take]; omega
    have ad : addD (.list (ks.map kd)) (.list (((b.take 2).map fun z => (x, y, z)).map kd)) = some (.list ((ks ++ (b.take 2).map fun z => (x, y, z)).map kd)) := by
      rw [add_ll (by rw [List.length_map, List.length_map, List.length_map]; omega), List.map_append]
    simp [hs, cc, ad, -List.map_map, -List.map_append, -List.map_take]
  · rcases List.mem_append.mp hk2 with q | q
    · exact hk k q
    · obtain ⟨z, hz, rfl⟩ := List.mem_map.mp q
      exact ⟨hx, hy, List.mem_of_mem_take hz⟩
theorem inner_loop (hs : Fl st) {ks : List (Int × Int × Int)} {x : Int} (hl : ks.length ≤ 900) (hk : Sk a b c ks) (hx : x ∈ c) : ∃ ks2 : List (Int × Int × Int), l__law_edges_0 [some (.ref n), some (.d (.int h)), some (.d (.list (evL h))), some (.d (.list [.int z1, .int z2, .int z3])), some (.d (intT a)), some (.d (intT b)), some (.d (intT c)), some (.d (.list (ks.map kd))), some (.d (.int x)), none, none, none, none, none, none, none] st = .nx [some (.ref n), some (.d (.int h)), some (.d (.list (evL h))), some (.d (.list [.int z1, .int z2, .int z3])), some (.d (intT a)), some (.d (intT b)), some (.d (intT c)), some (.d (.list (ks2.map kd))), some (.d (.int x)), none, none, none, none, none, none, none] st ∧ Sk a b c ks2 ∧ ks2.length ≤ ks.length + 6 := by
  obtain ⟨en', s', e, hs2, ks2, he, q1, q2⟩ := for_inv (g := mGC 9) (bd := b__law_edges_0) (chk := yes) (fun i en s => s = st ∧ ∃ ks2 : List (Int × Int × Int), en = [some (.ref n), some (.d (.int h)), some (.d (.list (evL h))), some (.d (.list [.int z1, .int z2, .int z3])), some (.d (intT a)), some (.d (intT b)), some (.d (intT c)), some (.d (.list (ks2.map kd))), some (.d (.int x)), none, none, none, none, none, none, none] ∧ Sk a b c ks2 ∧ ks2.length ≤ ks.length + 2 * i)
    (((a.take 3).map PyData.int).map U.d) 0 [some (.ref n), some (.d (.int h)), some (.d (.list (evL h))), some (.d (.list [.int z1, .int z2, .int z3])), some (.d (intT a)), some (.d (intT b)), some (.d (intT c)), some (.d (.list (ks.map kd))), some (.d (.int x)), none, none, none, none, none, none, none] st (fun _ _ _ _ => rfl) (fun k u en s hu ⟨e1, ks1, e2, e3, e4⟩ => by
      subst e1 e2
      have hk : k < 3 := by
        have := (List.getElem?_eq_some_iff.mp hu).1
        rw [List.length_map, List.length_map, List.length_take] at this
        omega
      obtain ⟨d, hd, rfl⟩ := List.mem_map.mp (List.mem_of_getElem? hu)
      obtain ⟨y, hy, rfl⟩ := List.mem_map.mp hd
      obtain ⟨ks3, f1, f2, f3⟩ := inner_turn (n := n) (h := h) (z1 := z1) (z2 := z2) (z3 := z3) hs (ks := ks1) (x := x) (y := y) (by omega) e3 hx (List.mem_of_mem_take hy)
      exact ⟨_, _, f1, rfl, ks3, rfl, f2, by omega⟩) ⟨rfl, ks, rfl, hk, by omega⟩
  subst hs2 he
  rw [List.length_map, List.length_map, List.length_take] at q2
  refine ⟨ks2, ?_, q1, by omega⟩
  unfold l__law_edges_0
  have ct : cutL a none (some 3) = a.take 3 := cutL_take a 3
  simp only [mFor_e, mSeqR_e, mSl_e, v0, vS, bind_ok, mNoPart_e, mPart_e, mC_e, gSl_intT, ct, iterR_intT, toS_ok]
  exact e
theorem outer_loop (hs : Fl st) : ∃ ks : List (Int × Int × Int), l__law_edges_1 [some (.ref n), some (.d (.int h)), some (.d (.list (evL h))), some (.d (.list [.int z1, .int z2, .int z3])), some (.d (intT a)), some (.d (intT b)), some (.d (intT c)), some (.d (.list [])), none, none, none, none, none, none, none, none] st = .nx [some (.ref n), some (.d (.int h)), some (.d (.list (evL h))), some (.d (.list [.int z1, .int z2, .int z3])), some (.d (intT a)), some (.d (intT b)), some (.d (intT c)), some (.d (.list (ks.map kd))), none, none, none, none, none, none, none, none] st ∧ Sk a b c ks ∧ ks.length ≤ 24 := by
  obtain ⟨en', s', e, hs2, ks2, he, q1, q2⟩ := for_inv (g := mGC 8) (bd := b__law_edges_1) (chk := yes) (fun i en s => s = st ∧ ∃ ks2 : List (Int × Int × Int), en = [some (.ref n), some (.d (.int h)), some (.d (.list (evL h))), some (.d (.list [.int z1, .int z2, .int z3])), some (.d (intT a)), some (.d (intT b)), some (.d (intT c)), some (.d (.list (ks2.map kd))), none, none, none, none, none, none, none, none] ∧ Sk a b c ks2 ∧ ks2.length ≤ 6 * i)
    (((c.take 4).map PyData.int).map U.d) 0 [some (.ref n), some (.d (.int h)), some (.d (.list (evL h))), some (.d (.list [.int z1, .int z2, .int z3])), some (.d (intT a)), some (.d (intT b)), some (.d (intT c)), some (.d (.list [])), none, none, none, none, none, none, none, none] st (fun _ _ _ _ => rfl) (fun k u en s hu ⟨e1, ks1, e2, e3, e4⟩ => by
      subst e1 e2
      have hk : k < 4 := by
        have := (List.getElem?_eq_some_iff.mp hu).1
        rw [List.length_map, List.length_map, List.length_take] at this
        omega
      obtain ⟨d, hd, rfl⟩ := List.mem_map.mp (List.mem_of_getElem? hu)
      obtain ⟨x, hx, rfl⟩ := List.mem_map.mp hd
      obtain ⟨ks3, f1, f2, f3⟩ := inner_loop (n := n) (h := h) (z1 := z1) (z2 := z2) (z3 := z3) hs (ks := ks1) (x := x) (by omega) e3 (List.mem_of_mem_take hx)
      refine ⟨[some (.ref n), some (.d (.int h)), some (.d (.list (evL h))), some (.d (.list [.int z1, .int z2, .int z3])), some (.d (intT a)), some (.d (intT b)), some (.d (intT c)), some (.d (.list (ks3.map kd))), none, none, none, none, none, none, none, none], s, ?_, rfl, ks3, rfl, f2, by omega⟩
      unfold b__law_edges_1
      simp [hs, f1, -List.map_map]) ⟨rfl, [], rfl, (fun _ z => nomatch z), by simp⟩
  subst hs2 he
  rw [List.length_map, List.length_map, List.length_take] at q2
  refine ⟨ks2, ?_, q1, by omega⟩
  unfold l__law_edges_1
  have ct : cutL c none (some 4) = c.take 4 := cutL_take c 4
  simp only [mFor_e, mSeqR_e, mSl_e, v0, vS, bind_ok, mNoPart_e, mPart_e, mC_e, gSl_intT, ct, iterR_intT, toS_ok]
  exact e

def edgeV (h : Int) (a b c : List Int) (bs : List (Int × Int × Int)) : List D := [.int h, intT a, intT b, intT c, .tuple (bs.map kd), intT (cutL c none (some 1)), intT (cutL c (some (-1)) none)]
def edgeF (h : Int) (b c : List Int) : D := .tuple [.int h, .tuple [.int (h + 1)], intT (cutL b none (some 3)), intT (cutL c none (some 3)), .tuple [], intT (cutL c none (some 1)), intT (cutL c none (some 1))]
def edgeL (h : Int) (a c : List Int) : D := .tuple [.int h, intT (cutL a none (some 2)), .tuple [.int (0 - h - 1)], intT (cutL c none (some 3)), .tuple [], intT (cutL c none (some 1)), intT (cutL c none (some 1))]
def edge5 (h : Int) (a b c : List Int) (bs : List (Int × Int × Int)) : D := .tuple [.int h, intT a, intT b, intT c, .tuple (bs.map kd).reverse, intT (cutL c none (some 1)), intT (cutL c (some (-1)) none)]
def edge6 (h : Int) (a b c : List Int) (bs : List (Int × Int × Int)) : D := .tuple [.int h, intT a, intT b, intT c, .tuple (bs.map kd), .tuple [], intT (cutL c none (some 1))]
theorem edges_ok (hh : 7 ≤ h ∧ h ≤ 9) (sa : Sn a) (sb : Sn b) (sc : Sn c) {bs : List (Int × Int × Int)} (hb : Sk a b c bs) (hl : bs.length ≤ 24) : ∀ d ∈ [.tuple (edgeV h a b c bs), .tuple (edgeV h a b c bs), edgeF h b c, edgeL h a c, edge5 h a b c bs, edge6 h a b c bs], Sx 3 d ∧ Ln d ≤ 15000 := by
  have seven : ∀ l : List D, l.length = 7 → (∀ d ∈ l, Nice d 2000 2) → Sx 3 (.tuple l) ∧ Ln (.tuple l) ≤ 15000 := fun l e hd => by
    have q := nice_tuple (m := 7) hd (by omega)
    exact ⟨q.sx, Nat.le_trans q.len (by decide)⟩
  have i0 : ∀ i : Int, -100 < i ∧ i < 100 → Nice (.int i) 2000 2 := fun i hi => (nice_int (by omega)).mono (by decide) (by decide)
  have one : ∀ i : Int, -100 < i ∧ i < 100 → Nice (.tuple [.int i]) 2000 2 := fun i hi => (nice_ints (l := [i]) (m := 1) (fun j hj => by rw [List.mem_singleton] at hj; rw [hj]; omega) (Nat.le_refl _)).mono (by decide) (by decide)
  have em : Nice (.tuple []) 2000 2 := (nice_tuple (l := []) (m := 0) (n := 0) (k := 0) (fun _ z => nomatch z) (Nat.le_refl _)).mono (by decide) (by decide)
  have kn : ∀ d ∈ bs.map kd, Nice d 40 1 := fun d hd => by
    obtain ⟨k, hk, rfl⟩ := List.mem_map.mp hd
    have := hb k hk
    have := sc.2 _ (hb k hk).1
    have := sa.2 _ (hb k hk).2.1
    have := sb.2 _ (hb k hk).2.2
    exact nice_ints (m := 3) (fun i hi => by
      simp only [List.mem_cons, List.not_mem_nil, or_false] at hi
      rcases hi with rfl | rfl | rfl <;> omega) (Nat.le_refl _)
  have bn : Nice (.tuple (bs.map kd)) 2000 2 := (nice_tuple (m := 24) kn (by rw [List.length_map]; exact hl)).mono (by decide) (by decide)
  have br : Nice (.tuple (bs.map kd).reverse) 2000 2 := (nice_tuple (m := 24) (fun d hd => kn d (List.mem_reverse.mp hd)) (by rw [List.length_reverse, List.length_map]; exact hl)).mono (by decide) (by decide)
  have ih := i0 h (by omega)
  have v : ∀ x y z b1 e1 e2 : D, Nice x 2000 2 → Nice y 2000 2 → Nice z 2000 2 → Nice b1 2000 2 → Nice e1 2000 2 → Nice e2 2000 2 → Sx 3 (.tuple [.int h, x, y, z, b1, e1, e2]) ∧ Ln (.tuple [.int h, x, y, z, b1, e1, e2]) ≤ 15000 := fun x y z b1 e1 e2 h1 h2 h3 h4 h5 h6 => seven _ rfl fun d hd => by
    simp only [List.mem_cons, List.not_mem_nil, or_false] at hd
    rcases hd with rfl | rfl | rfl | rfl | rfl | rfl | rfl <;> assumption
  intro d hd
  simp only [List.mem_cons, List.not_mem_nil, or_false] at hd
  rcases hd with rfl | rfl | rfl | rfl | rfl | rfl
  · exact v _ _ _ _ _ _ sa.nice sb.nice sc.nice bn (sc.cut _ _).nice (sc.cut _ _).nice
  · exact v _ _ _ _ _ _ sa.nice sb.nice sc.nice bn (sc.cut _ _).nice (sc.cut _ _).nice
  · exact v _ _ _ _ _ _ (one _ (by omega)) (sb.cut _ _).nice (sc.cut _ _).nice em (sc.cut _ _).nice (sc.cut _ _).nice
  · exact v _ _ _ _ _ _ (sa.cut _ _).nice (one _ (by omega)) (sc.cut _ _).nice em (sc.cut _ _).nice (sc.cut _ _).nice
  · exact v _ _ _ _ _ _ sa.nice sb.nice sc.nice br (sc.cut _ _).nice (sc.cut _ _).nice
  · exact v _ _ _ _ _ _ sa.nice sb.nice sc.nice bn em (sc.cut _ _).nice
theorem edges_eq (g : GW st n) : ∃ r st', F__law_edges [.ref n] st = .ok (.d r) st' ∧ Sx 3 r ∧ Ln r ≤ 15000 ∧ Dr n st st' := by
  obtain ⟨x, s1, e1, hx, d1⟩ := of_tup (l := [.int 7, .int 8, .int 9]) g (by simp) (by simp)
  obtain ⟨h, rfl, hh⟩ : ∃ i : Int, x = .int i ∧ 7 ≤ i ∧ i ≤ 9 := by
    simp only [List.mem_cons, List.not_mem_nil, or_false] at hx
    rcases hx with rfl | rfl | rfl <;> exact ⟨_, rfl, by decide⟩
  have g1 := d1.gw g
  have two : ∀ (p q : Int) (s : Sto), GW s n → 5 ≤ p ∧ p ≤ 10 → 5 ≤ q ∧ q ≤ 10 → ∃ i s', F__law_of [.ref n, .d (.tuple [.int p, .int q])] s = .ok (.d (.int i)) s' ∧ (5 ≤ i ∧ i ≤ 10) ∧ Dr n s s' := fun p q s hs hp hq => by
    obtain ⟨x, s', e, hx, d⟩ := of_tup (l := [.int p, .int q]) hs (by simp) (by simp)
    simp only [List.mem_cons, List.not_mem_nil, or_false] at hx
    rcases hx with rfl | rfl
    · exact ⟨_, s', e, hp, d⟩
    · exact ⟨_, s', e, hq, d⟩
  obtain ⟨z1, s2, e2, hz1, d2⟩ := two 5 6 s1 g1 (by decide) (by decide)
  have g2 := d2.gw g1
  obtain ⟨z2, s3, e3, hz2, d3⟩ := two 7 8 s2 g2 (by decide) (by decide)
  have g3 := d3.gw g2
  obtain ⟨z3, s4, e4, hz3, d4⟩ := two 9 10 s3 g3 (by decide) (by decide)
  have g4 := d4.gw g3
  obtain ⟨a, b, c, s5, e5, sa, sb, sc, a0, b0, c0, d5⟩ := sizes_comp g4 hh ⟨hz1, hz2, hz3⟩
  have g5 := d5.gw g4
  obtain ⟨ks, e6, k1, k2⟩ := outer_loop (n := n) (h := h) (z1 := z1) (z2 := z2) (z3 := z3) (a := a) (b := b) (c := c) g5.fl
  obtain ⟨m, hm, mp, _⟩ := sortD_rows kL ks kL_inj
  have hm : sortD (ks.map kd) = m.map kd := hm
  obtain ⟨y, s6, e7, hy, d6⟩ := of_tup (l := [.int 20, .int 21, .int 20, .int 0]) g5 (by simp) (by simp)
  obtain ⟨w, rfl⟩ : ∃ i : Int, y = .int i := by
    simp only [List.mem_cons, List.not_mem_nil, or_false] at hy
    rcases hy with rfl | rfl | rfl | rfl <;> exact ⟨_, rfl⟩
  have g6 := d6.gw g5
  obtain ⟨bs, hbs⟩ : ∃ bs : List (Int × Int × Int), bs = cutL m none (some w) := ⟨_, rfl⟩
  have bsub : bs.Sublist m := by rw [hbs]; exact cutL_sub _ _ _
  have sk : Sk a b c bs := fun k hk => k1 k (mp.mem_iff.mp (bsub.subset hk))
  have bl : bs.length ≤ 24 := Nat.le_trans bsub.length_le (by rw [mp.length_eq]; exact k2)
  have ok := edges_ok (h := h) hh sa sb sc sk bl
  obtain ⟨r, s7, e8, hr, d7⟩ := of_lst (l := [.tuple (edgeV h a b c bs), .tuple (edgeV h a b c bs), edgeF h b c, edgeL h a c, edge5 h a b c bs, edge6 h a b c bs]) g6 (by simp) (by simp)
  have g7 := d7.gw g6
  have D : Dr n st s7 := d1.trans (d2.trans (d3.trans (d4.trans (d5.trans (d6.trans d7)))))
  refine ⟨r, s7, run_set g7.fl D.len ?_, (ok r hr).1, (ok r hr).2, D⟩
  show f__law_edges [some (.ref n), none, none, none, none, none, none, none, none, none, none, none, none, none, none, none] st = _
  unfold f__law_edges

  have t1 : (mAsgT (mCall F__law_of (mCons (mVar 0) (mCons (mTup (mCons (mC (.int 7)) (mCons (mC (.int 8)) (mCons (mC (.int 9)) mNil)))) mNil))) (mG 1)) [some (.ref n), none, none, none, none, none, none, none, none, none, none, none, none, none, none, none] st = .nx [some (.ref n), some (.d (.int h)), none, none, none, none, none, none, none, none, none, none, none, none, none, none] s1 := by simp [g.fl, e1]
  have t2 : (mAsgT (mLstRg (mR2 (mOp (gD2 subD) (mC (.int 0)) (mVar 1)) (mOp (gD2 addD) (mVar 1) (mC (.int 1))))) (mGC 2)) [some (.ref n), some (.d (.int h)), none, none, none, none, none, none, none, none, none, none, none, none, none, none] s1 = .nx [some (.ref n), some (.d (.int h)), some (.d (.list (evL h))), none, none, none, none, none, none, none, none, none, none, none, none, none] s1 := by
    have rg : rgOk (0 - h) (h + 1) := rgOk_e (by omega)
    have en0 : enOwn [some (.ref n), some (.d (.int h)), none, none, none, none, none, none, none, none, none, none, none, none, none, none] = false := rfl
    simp only [mAsgT_e, mLstRg_e, mR2_e, mOp_e, mC_e, v0, vS, bind_ok, gD2_e, sub_int, add_int, if_pos rg, rgD_e, toS_ok, mGC_e, en0, g1.fl.own, own_d, and_self, if_true, only_nx]
    rfl
  have t3 : (mAsgT (mLst (mCons (mCall F__law_of (mCons (mVar 0) (mCons (mTup (mCons (mC (.int 5)) (mCons (mC (.int 6)) mNil))) mNil))) (mCons (mCall F__law_of (mCons (mVar 0) (mCons (mTup (mCons (mC (.int 7)) (mCons (mC (.int 8)) mNil))) mNil))) (mCons (mCall F__law_of (mCons (mVar 0) (mCons (mTup (mCons (mC (.int 9)) (mCons (mC (.int 10)) mNil))) mNil))) mNil)))) (mG 3)) [some (.ref n), some (.d (.int h)), some (.d (.list (evL h))), none, none, none, none, none, none, none, none, none, none, none, none, none] s1 = .nx [some (.ref n), some (.d (.int h)), some (.d (.list (evL h))), some (.d (.list [.int z1, .int z2, .int z3])), none, none, none, none, none, none, none, none, none, none, none, none] s4 := by simp [g1.fl, g2.fl, g3.fl, g4.fl, e2, e3, e4]
  have t4 : a__law_edges_0 [some (.ref n), some (.d (.int h)), some (.d (.list (evL h))), some (.d (.list [.int z1, .int z2, .int z3])), none, none, none, none, none, none, none, none, none, none, none, none] s4 = .nx [some (.ref n), some (.d (.int h)), some (.d (.list (evL h))), some (.d (.list [.int z1, .int z2, .int z3])), some (.d (intT a)), some (.d (intT b)), some (.d (intT c)), none, none, none, none, none, none, none, none, none] s5 := by
    unfold a__law_edges_0
    rw [mAsgT_e, e5, toS_ok, asg_lst (by simp)]
    simp
  have t5 : (mAsgT (mLst mNil) (mG 7)) [some (.ref n), some (.d (.int h)), some (.d (.list (evL h))), some (.d (.list [.int z1, .int z2, .int z3])), some (.d (intT a)), some (.d (intT b)), some (.d (intT c)), none, none, none, none, none, none, none, none, none] s5 = .nx [some (.ref n), some (.d (.int h)), some (.d (.list (evL h))), some (.d (.list [.int z1, .int z2, .int z3])), some (.d (intT a)), some (.d (intT b)), some (.d (intT c)), some (.d (.list [])), none, none, none, none, none, none, none, none] s5 := by simp

  have t7 : (mAsgT (mCB gTuple (mCons (mSl (mCB gSorted (mCons (mVar 7) mNil)) mNoPart (mPart (mCall F__law_of (mCons (mVar 0) (mCons (mTup (mCons (mC (.int 20)) (mCons (mC (.int 21)) (mCons (mC (.int 20)) (mCons (mC (.int 0)) mNil))))) mNil))))) mNil)) (mG 10)) [some (.ref n), some (.d (.int h)), some (.d (.list (evL h))), some (.d (.list [.int z1, .int z2, .int z3])), some (.d (intT a)), some (.d (intT b)), some (.d (intT c)), some (.d (.list (ks.map kd))), none, none, none, none, none, none, none, none] s5 = .nx [some (.ref n), some (.d (.int h)), some (.d (.list (evL h))), some (.d (.list [.int z1, .int z2, .int z3])), some (.d (intT a)), some (.d (intT b)), some (.d (intT c)), some (.d (.list (ks.map kd))), none, none, some (.d (.tuple (bs.map kd))), none, none, none, none, none] s6 := by
    have so : gSorted [.d (.list (ks.map kd))] s5 = .ok (.d (.list (m.map kd))) s5 := by rw [gSorted_lst (sortOk_kds ks), hm]
    have sl : cutL (m.map kd) none (some w) = bs.map kd := by rw [cutL_map, ← hbs]
    simp [g5.fl, g6.fl, so, e7, sl, -List.map_map]
  have t8 : (mAsgT (mTup (mCons (mVar 1) (mCons (mVar 4) (mCons (mVar 5) (mCons (mVar 6) (mCons (mVar 10) (mCons (mSl (mVar 6) mNoPart (mPart (mC (.int 1)))) (mCons (mSl (mVar 6) (mPart (mNeg (mC (.int 1)))) mNoPart) mNil)))))))) (mG 11)) [some (.ref n), some (.d (.int h)), some (.d (.list (evL h))), some (.d (.list [.int z1, .int z2, .int z3])), some (.d (intT a)), some (.d (intT b)), some (.d (intT c)), some (.d (.list (ks.map kd))), none, none, some (.d (.tuple (bs.map kd))), none, none, none, none, none] s6 = .nx [some (.ref n), some (.d (.int h)), some (.d (.list (evL h))), some (.d (.list [.int z1, .int z2, .int z3])), some (.d (intT a)), some (.d (intT b)), some (.d (intT c)), some (.d (.list (ks.map kd))), none, none, some (.d (.tuple (bs.map kd))), some (.d (.tuple (edgeV h a b c bs))), none, none, none, none] s6 := by
    have tt : mkTup [.d (.int h), .d (intT a), .d (intT b), .d (intT c), .d (.tuple (bs.map kd)), .d (intT (cutL c none (some 1))), .d (intT (cutL c (some (-1)) none))] = .d (.tuple (edgeV h a b c bs)) := rfl
    simp [tt, -mkTup_e]
  have t9 : (mAsgT (mTup (mCons (mVar 1) (mCons (mTup (mCons (mOp (gD2 addD) (mVar 1) (mC (.int 1))) mNil)) (mCons (mSl (mVar 5) mNoPart (mPart (mC (.int 3)))) (mCons (mSl (mVar 6) mNoPart (mPart (mC (.int 3)))) (mCons (mTup mNil) (mCons (mSl (mVar 6) mNoPart (mPart (mC (.int 1)))) (mCons (mSl (mVar 6) mNoPart (mPart (mC (.int 1)))) mNil)))))))) (mG 12)) [some (.ref n), some (.d (.int h)), some (.d (.list (evL h))), some (.d (.list [.int z1, .int z2, .int z3])), some (.d (intT a)), some (.d (intT b)), some (.d (intT c)), some (.d (.list (ks.map kd))), none, none, some (.d (.tuple (bs.map kd))), some (.d (.tuple (edgeV h a b c bs))), none, none, none, none] s6 = .nx [some (.ref n), some (.d (.int h)), some (.d (.list (evL h))), some (.d (.list [.int z1, .int z2, .int z3])), some (.d (intT a)), some (.d (intT b)), some (.d (intT c)), some (.d (.list (ks.map kd))), none, none, some (.d (.tuple (bs.map kd))), some (.d (.tuple (edgeV h a b c bs))), some (.d (edgeF h b c)), none, none, none] s6 := by
    have tt : mkTup [.d (.int h), .d (.tuple [.int (h + 1)]), .d (intT (cutL b none (some 3))), .d (intT (cutL c none (some 3))), .d (.tuple []), .d (intT (cutL c none (some 1))), .d (intT (cutL c none (some 1)))] = .d (edgeF h b c) := rfl
    have t1 : mkTup [.d (.int (h + 1))] = .d (.tuple [.int (h + 1)]) := rfl
    have t0 : mkTup [] = .d (.tuple []) := rfl
    simp [tt, t1, t0, -mkTup_e]
  have t10 : (mAsgT (mTup (mCons (mVar 1) (mCons (mSl (mVar 4) mNoPart (mPart (mC (.int 2)))) (mCons (mTup (mCons (mOp (gD2 subD) (mOp (gD2 subD) (mC (.int 0)) (mVar 1)) (mC (.int 1))) mNil)) (mCons (mSl (mVar 6) mNoPart (mPart (mC (.int 3)))) (mCons (mTup mNil) (mCons (mSl (mVar 6) mNoPart (mPart (mC (.int 1)))) (mCons (mSl (mVar 6) mNoPart (mPart (mC (.int 1)))) mNil)))))))) (mG 13)) [some (.ref n), some (.d (.int h)), some (.d (.list (evL h))), some (.d (.list [.int z1, .int z2, .int z3])), some (.d (intT a)), some (.d (intT b)), some (.d (intT c)), some (.d (.list (ks.map kd))), none, none, some (.d (.tuple (bs.map kd))), some (.d (.tuple (edgeV h a b c bs))), some (.d (edgeF h b c)), none, none, none] s6 = .nx [some (.ref n), some (.d (.int h)), some (.d (.list (evL h))), some (.d (.list [.int z1, .int z2, .int z3])), some (.d (intT a)), some (.d (intT b)), some (.d (intT c)), some (.d (.list (ks.map kd))), none, none, some (.d (.tuple (bs.map kd))), some (.d (.tuple (edgeV h a b c bs))), some (.d (edgeF h b c)), some (.d (edgeL h a c)), none, none] s6 := by
    have tt : mkTup [.d (.int h), .d (intT (cutL a none (some 2))), .d (.tuple [.int (0 - h - 1)]), .d (intT (cutL c none (some 3))), .d (.tuple []), .d (intT (cutL c none (some 1))), .d (intT (cutL c none (some 1)))] = .d (edgeL h a c) := rfl
    have t1 : mkTup [.d (.int (0 - h - 1))] = .d (.tuple [.int (0 - h - 1)]) := rfl
    have t0 : mkTup [] = .d (.tuple []) := rfl
    simp only [mAsgT_e, mTup_e, mCons_e, v0, vS, bind_ok, mSl_e, mNoPart_e, mPart_e, mC_e, gSl_intT, mOp_e, gD2_e, sub_int, mNil_e, List.length_cons, List.length_nil, t1, t0, tt]
    simp [edgeL]

  have t11 : (mLst (mCons (mVar 11) (mCons (mVar 11) (mCons (mVar 12) (mCons (mVar 13) (mCons (mOp (gD2 addD) (mOp (gD2 addD) (mSl (mVar 11) mNoPart (mPart (mC (.int 4)))) (mTup (mCons (mRevT (mVar 10)) mNil))) (mSl (mVar 11) (mPart (mC (.int 5))) mNoPart)) (mCons (mOp (gD2 addD) (mSl (mVar 11) mNoPart (mPart (mC (.int 5)))) (mTup (mCons (mTup mNil) (mCons (mSl (mVar 6) mNoPart (mPart (mC (.int 1)))) mNil)))) mNil))))))) [some (.ref n), some (.d (.int h)), some (.d (.list (evL h))), some (.d (.list [.int z1, .int z2, .int z3])), some (.d (intT a)), some (.d (intT b)), some (.d (intT c)), some (.d (.list (ks.map kd))), none, none, some (.d (.tuple (bs.map kd))), some (.d (.tuple (edgeV h a b c bs))), some (.d (edgeF h b c)), some (.d (edgeL h a c)), none, none] s6 = .ok (.d (.list [.tuple (edgeV h a b c bs), .tuple (edgeV h a b c bs), edgeF h b c, edgeL h a c, edge5 h a b c bs, edge6 h a b c bs])) s6 := by
    have c4 : cutL (edgeV h a b c bs) none (some 4) = [.int h, intT a, intT b, intT c] := rfl
    have c5 : cutL (edgeV h a b c bs) (some 5) none = [intT (cutL c none (some 1)), intT (cutL c (some (-1)) none)] := rfl
    have c6 : cutL (edgeV h a b c bs) none (some 5) = [.int h, intT a, intT b, intT c, .tuple (bs.map kd)] := rfl
    have a1 : addD (.tuple [.int h, intT a, intT b, intT c]) (.tuple [.tuple (bs.map kd).reverse]) = some (.tuple [.int h, intT a, intT b, intT c, .tuple (bs.map kd).reverse]) := add_tt (by simp)
    have a2 : addD (.tuple [.int h, intT a, intT b, intT c, .tuple (bs.map kd).reverse]) (.tuple [intT (cutL c none (some 1)), intT (cutL c (some (-1)) none)]) = some (edge5 h a b c bs) := add_tt (by simp)
    have a3 : addD (.tuple [.int h, intT a, intT b, intT c, .tuple (bs.map kd)]) (.tuple [.tuple [], intT (cutL c none (some 1))]) = some (edge6 h a b c bs) := add_tt (by simp)
    have m1 : mkTup [.d (.tuple (bs.map kd).reverse)] = .d (.tuple [.tuple (bs.map kd).reverse]) := rfl
    have m2 : mkTup [.d (.tuple []), .d (intT (cutL c none (some 1)))] = .d (.tuple [.tuple [], intT (cutL c none (some 1))]) := rfl
    have m0 : mkTup [] = .d (.tuple []) := rfl
    simp only [mLst_e, mCons_e, v0, vS, bind_ok, mOp_e, mSl_e, mNoPart_e, mPart_e, mC_e, gSl_tup, gSl_intT, mTup_e, mRevT_e, mNil_e, c4, c5, c6, gD2_e, m1, m2, m0, List.length_cons, List.length_nil, le_size (show 0 + 1 ≤ 1000000 by decide), le_size (show 0 + 1 + 1 ≤ 1000000 by decide), le_size (show 0 ≤ 1000000 by decide), if_true, a1, a2, a3]
    simp
  rw [mSeq_e, t1, then_nx, mSeq_e, t2, then_nx, mSeq_e, t3, then_nx, mSeq_e, t4, then_nx, mSeq_e, t5, then_nx, mSeq_e, e6, then_nx, mSeq_e, t7, then_nx, mSeq_e, t8, then_nx, mSeq_e, t9, then_nx, mSeq_e, t10, then_nx, mRet_e, mCall_e, mCons_e, v0, bind_ok, mCons_e, t11]
  simp [g6.fl, e8]

end K02
set_option Elab.async false
set_option linter.all false
set_option maxRecDepth 100000
set_option maxHeartbeats 1000000
namespace K02
open PySem TT
variable {st : Sto} {n : Nat} {u : Int} {sd tw vs v : D} {S : School}
structure Val (v : D) : Prop where
  sx : Sx 10 v
  ln : Ln v ≤ 100000
def rowP (S : School) (a : Int) : List (Int × Int) := (S.notes.filter fun b => decide (b - a ∈ S.gaps)).map fun b => (a, b)

theorem row_eq (hs : Fl st) (ok : S.Ok) {a : Int} {m : Nat} {rt pp : D} : c__law_right_1 [some (.ref n), some (.d (.int u)), some (.d sd), some (.d tw), some (.d vs), some (.d S.d), some (.d (.bool true)), some (.ref m), some (.d rt), some (.d pp), some (.d (.int a)), none, none] st = .ok (.d (.list ((rowP S a).map pr))) st := by
  have h1 := ok.h1
  have h8 := ok.h8
  have i0 : ∀ st, gIx (.d S.d) (.d (.int 0)) st = .ok (.d (.int S.high)) st := fun st => by unfold School.d; simp
  have i3 : ∀ st, gIx (.d S.d) (.d (.int 3)) st = .ok (.d (intT S.gaps)) st := fun st => by unfold School.d; simp
  unfold c__law_right_1
  have rg : rgOk 0 (S.high + 1) := rgOk_e (by omega)
  refine (mLc_d (l := (intR 0 (S.high + 1)).map PyData.int) (chk := yes) hs (fun d => match d with
    | .int b => decide (b - a ∈ S.gaps)
    | _ => false) (fun d => .tuple [.int a, d]) ?_ rfl rfl fun d hd => ?_).trans ?_
  · simp only [mRg1_e, mOp_e, v0, vS, mC_e, bind_ok, i0, gD2_e, add_int, if_pos rg, rgU_e]
  · obtain ⟨b, _, rfl⟩ := List.mem_map.mp hd
    refine ⟨_, rfl, ?_, fun _ => ?_⟩
    · unfold i__law_right_0
      simp [i3]
    · unfold e__law_right_1
      simp
  · rw [List.filter_map, List.map_map]
    unfold rowP School.notes
    rw [List.map_map]
    rfl
theorem pairs_loop (hs : Fl st) (ok : S.Ok) {m : Nat} {rt : D} : l__law_right_0 [some (.ref n), some (.d (.int u)), some (.d sd), some (.d tw), some (.d vs), some (.d S.d), some (.d (.bool true)), some (.ref m), some (.d rt), some (.d (.list [])), none, none, none] st = .nx [some (.ref n), some (.d (.int u)), some (.d sd), some (.d tw), some (.d vs), some (.d S.d), some (.d (.bool true)), some (.ref m), some (.d rt), some (.d (.list (S.stands.map pr))), none, none, none] st := by
  have h1 := ok.h1
  have h8 := ok.h8
  have nl : S.notes.length ≤ 9 := by unfold School.notes; rw [intR_length]; omega
  have i0 : ∀ st, gIx (.d S.d) (.d (.int 0)) st = .ok (.d (.int S.high)) st := fun st => by unfold School.d; simp
  have rl : ∀ a, (rowP S a).length ≤ 9 := fun a => by
    unfold rowP
    rw [List.length_map]
    exact Nat.le_trans (List.length_filter_le _ _) nl
  obtain ⟨en', s', e, hs2, acc, he, hacc, hlen⟩ := for_inv (g := mGC 10) (bd := b__law_right_0) (chk := yes) (fun i en s => s = st ∧ ∃ acc : List (Int × Int), en = [some (.ref n), some (.d (.int u)), some (.d sd), some (.d tw), some (.d vs), some (.d S.d), some (.d (.bool true)), some (.ref m), some (.d rt), some (.d (.list (acc.map pr))), none, none, none] ∧ acc = (S.notes.take i).flatMap (rowP S) ∧ acc.length ≤ 9 * i)
    ((S.notes.map PyData.int).map U.d) 0 [some (.ref n), some (.d (.int u)), some (.d sd), some (.d tw), some (.d vs), some (.d S.d), some (.d (.bool true)), some (.ref m), some (.d rt), some (.d (.list [])), none, none, none] st (fun _ _ _ _ => rfl) (fun k u2 en s hu ⟨e1, acc, e2, e3, e4⟩ => by
      subst e1 e2
      rw [List.getElem?_map, List.getElem?_map] at hu
      obtain ⟨d, hd, rfl⟩ := Option.map_eq_some_iff.mp hu
      obtain ⟨a, ha, rfl⟩ := Option.map_eq_some_iff.mp hd
      have hk := (List.getElem?_eq_some_iff.mp ha).1
      have c := row_eq (n := n) (u := u) (sd := sd) (tw := tw) (vs := vs) (rt := rt) (m := m) hs ok (a := a) (pp := .list (acc.map pr))
      have := rl a
      have ad : addD (.list (acc.map pr)) (.list ((rowP S a).map pr)) = some (.list ((acc ++ rowP S a).map pr)) := by
        rw [add_ll (by rw [List.length_map, List.length_map]; omega), List.map_append]
      refine ⟨_, s, ?_, rfl, acc ++ rowP S a, rfl, ?_, by rw [List.length_append]; omega⟩
      · unfold b__law_right_0
        simp [hs, c, ad, -List.map_map, -List.map_append]
      · rw [e3, Nat.zero_add, List.take_add_one, ha, List.flatMap_append]
        simp) ⟨rfl, [], rfl, by simp, by simp⟩
  subst hs2 he
  have full : acc = S.stands := by
    rw [hacc, List.length_map, List.length_map, Nat.zero_add, List.take_length]
    rfl
  unfold l__law_right_0
  have rg : rgOk 0 (S.high + 1) := rgOk_e (by omega)
  simp only [mFor_e, mRg1_e, mOp_e, v0, vS, mC_e, bind_ok, i0, gD2_e, add_int, if_pos rg, rgU_e, toS_ok]
  rw [← full]
  exact e

/-- what is told of a value -/
def Told (v : D) (t : D) : Prop := (isSchool v = false ∧ t = .list [.str "none", v]) ∨ ∃ S : School, S.Ok ∧ v = S.d ∧ t = .list [.str "told", .tuple (S.stands.map pr)]
theorem stands_nice (ok : S.Ok) : Nice (.tuple (S.stands.map pr)) 3000 2 := by
  have h8 := ok.h8
  have nl : S.notes.length ≤ 9 := by unfold School.notes; rw [intR_length]; omega
  have sl : S.stands.length ≤ 81 := by
    have : ∀ l : List Int, (l.flatMap fun a => (S.notes.filter fun b => decide (b - a ∈ S.gaps)).map fun b => (a, b)).length ≤ l.length * 9 := by
      intro l
      induction l with
      | nil => simp
      | cons a l ih =>
        rw [List.flatMap_cons, List.length_append, List.length_map, List.length_cons, Nat.succ_mul]
        have := List.length_filter_le (fun b => decide (b - a ∈ S.gaps)) S.notes
        omega
    have := this S.notes
    unfold School.stands
    omega
  refine (nice_tuple (m := 81) (n := 28) (k := 1) (fun d hd => ?_) (by rw [List.length_map]; exact sl)).mono (by decide) (by decide)
  obtain ⟨p, hp, rfl⟩ := List.mem_map.mp hd
  have := School.isSt_r (School.stands_isSt hp)
  exact nice_ints (l := [p.1, p.2]) (m := 2) (fun i hi => by
    simp only [List.mem_cons, List.not_mem_nil, or_false] at hi
    rcases hi with rfl | rfl <;> omega) (Nat.le_refl _)
theorem Told.nice {t : D} (hv : Val v) (h : Told v t) : Nice t 200006 11 := by
  rcases h with ⟨_, rfl⟩ | ⟨S, ok, rfl, rfl⟩
  · refine (nice_list (m := 2) (n := 100000) (k := 10) (fun d hd => ?_) (Nat.le_refl _))
    simp only [List.mem_cons, List.not_mem_nil, or_false] at hd
    rcases hd with rfl | rfl
    · exact (nice_lit (n := 10) (by decide +kernel) (by decide +kernel)).mono (by decide) (by decide)
    · exact hv.sx.nice hv.ln
  · refine (nice_list (m := 2) (n := 100000) (k := 10) (fun d hd => ?_) (Nat.le_refl _))
    simp only [List.mem_cons, List.not_mem_nil, or_false] at hd
    rcases hd with rfl | rfl
    · exact (nice_lit (n := 10) (by decide +kernel) (by decide +kernel)).mono (by decide) (by decide)
    · exact (stands_nice ok).mono (by decide) (by decide)
theorem told_2 (hv : Val v) : ∃ t, Told v t ∧ ∀ st, Fl st → F__law_told (apC 2 0 C_2 apNil) [.clo false 2 [.d v]] st = .ok (.d t) st ∧ F__law_told (apC 3 0 C_3 apNil) [.clo false 3 [.d v]] st = .ok (.d t) st := by
  cases h : isSchool v
  · refine ⟨_, .inl ⟨h, rfl⟩, fun st hs => ?_⟩
    have q := standings_no hs hv.sx.pl (by decide) h
    exact ⟨told_no hs (ap_2 hs q (.inr ⟨_, _, rfl⟩)), told_no hs (ap_3 hs q (.inr ⟨_, _, rfl⟩))⟩
  · obtain ⟨S, ok, rfl⟩ := isSchool_S h
    refine ⟨_, .inr ⟨S, ok, rfl, rfl⟩, fun st hs => ?_⟩
    have q := standings_eq hs ok
    exact ⟨told_eq hs (ap_2 hs q (.inl ⟨_, rfl⟩)), told_eq hs (ap_3 hs q (.inl ⟨_, rfl⟩))⟩
theorem value_turn (hs : Fl st) (hv : Val v) : ∃ had : List D, turn (mGC 5) b__law_right_1 (.d v) [some (.ref n), some (.d (.int u)), some (.d sd), some (.d tw), some (.d vs), none, none, none, none, none, none, none, none] st = .nx [some (.ref n), some (.d (.int u)), some (.d sd), some (.d tw), some (.d vs), none, none, none, none, none, none, none, none] (st ++ [.lst (had.map U.d)]) := by
  obtain ⟨t, ht, tq⟩ := told_2 hv
  have tn := ht.nice hv
  have p1 : permL [0] [U.d v] = [.d v] := rfl
  have pl := hv.sx.pl
  have q1 := law_is_school_eq hs pl (by decide)
  have q2 := is_school_eq hs pl (by decide)
  have q3 := law_is_refl hs (l := [.bool (isSchool v), .bool (isSchool v)]) (nice_list (m := 2) (n := 10) (k := 0) (fun d hd => by
    simp only [List.mem_cons, List.not_mem_nil, or_false] at hd
    rcases hd with rfl | rfl <;> exact nice_bool _) (Nat.le_refl _)) (by decide) (by decide)
  have t1 : (mAsgT (mCall F__law_is_school (mCons (mVar 5) mNil)) (mG 6)) [some (.ref n), some (.d (.int u)), some (.d sd), some (.d tw), some (.d vs), some (.d v), none, none, none, none, none, none, none] st = .nx [some (.ref n), some (.d (.int u)), some (.d sd), some (.d tw), some (.d vs), some (.d v), some (.d (.bool (isSchool v))), none, none, none, none, none, none] st := by simp [hs, q1]
  have t2 : (mIfS (mNotT (mTru (mCall F__law_is (mCons (mLst (mCons (mCall F_is_school (mCons (mVar 5) mNil)) (mCons (mCall F_is_school (mPerm [0] mNil (mCons (mVar 5) mNil))) mNil))) (mCons (mLst (mCons (mVar 6) (mCons (mVar 6) mNil))) mNil))))) (mRet (mC (.bool false))) mNext) [some (.ref n), some (.d (.int u)), some (.d sd), some (.d tw), some (.d vs), some (.d v), some (.d (.bool (isSchool v))), none, none, none, none, none, none] st = .nx [some (.ref n), some (.d (.int u)), some (.d sd), some (.d tw), some (.d vs), some (.d v), some (.d (.bool (isSchool v))), none, none, none, none, none, none] st := by simp [hs, q2, q3, p1]
  have c2 : (mCallX (F__law_told (apC 2 0 C_2 apNil)) (mCons (mLam 2 [5]) mNil)) [some (.ref n), some (.d (.int u)), some (.d sd), some (.d tw), some (.d vs), some (.d v), some (.d (.bool (isSchool v))), none, none, none, none, none, none] st = .ok (.d t) st := by
    rw [mCallX_e, mCons_e, lam_e (us := [.d v]) rfl rfl]
    simp [hs, (tq st hs).1]
  have t3 : (mAsgT (mRef (mCons (mCallX (F__law_told (apC 2 0 C_2 apNil)) (mCons (mLam 2 [5]) mNil)) mNil)) (mG 7)) [some (.ref n), some (.d (.int u)), some (.d sd), some (.d tw), some (.d vs), some (.d v), some (.d (.bool (isSchool v))), none, none, none, none, none, none] st = .nx [some (.ref n), some (.d (.int u)), some (.d sd), some (.d tw), some (.d vs), some (.d v), some (.d (.bool (isSchool v))), some (.ref st.length), none, none, none, none, none] (st ++ [.lst (([t] : List D).map U.d)]) := by
    rw [mAsgT_e, mRef_1 c2, toS_ok]
    simp
  have f1 : Fl (st ++ [.lst (([t] : List D).map U.d)]) := hs.snoc _
  have c3 : (mCallX (F__law_told (apC 3 0 C_3 apNil)) (mCons (mLam 3 [5]) mNil)) [some (.ref n), some (.d (.int u)), some (.d sd), some (.d tw), some (.d vs), some (.d v), some (.d (.bool (isSchool v))), some (.ref st.length), none, none, none, none, none] (st ++ [.lst (([t] : List D).map U.d)]) = .ok (.d t) (st ++ [.lst (([t] : List D).map U.d)]) := by
    rw [mCallX_e, mCons_e, lam_e (us := [.d v]) rfl rfl]
    simp [f1, (tq _ f1).2, -List.map_cons]
  have t4 : (mExpr (mML gAppend (mVar 7) (mCallX (F__law_told (apC 3 0 C_3 apNil)) (mCons (mLam 3 [5]) mNil)))) [some (.ref n), some (.d (.int u)), some (.d sd), some (.d tw), some (.d vs), some (.d v), some (.d (.bool (isSchool v))), some (.ref st.length), none, none, none, none, none] (st ++ [.lst (([t] : List D).map U.d)]) = .nx [some (.ref n), some (.d (.int u)), some (.d sd), some (.d tw), some (.d vs), some (.d v), some (.d (.bool (isSchool v))), some (.ref st.length), none, none, none, none, none] (st ++ [.lst (([t, t] : List D).map U.d)]) := by
    exact app_e (acc := [t]) rfl rfl c3 (by simp)
  have f2 : Fl (st ++ [.lst (([t, t] : List D).map U.d)]) := hs.snoc _
  have t5 : (mAsgT (mLst (mCons (mC (.str "none")) (mCons (mVar 5) mNil))) (mG 8)) [some (.ref n), some (.d (.int u)), some (.d sd), some (.d tw), some (.d vs), some (.d v), some (.d (.bool (isSchool v))), some (.ref st.length), none, none, none, none, none] (st ++ [.lst (([t, t] : List D).map U.d)]) = .nx [some (.ref n), some (.d (.int u)), some (.d sd), some (.d tw), some (.d vs), some (.d v), some (.d (.bool (isSchool v))), some (.ref st.length), some (.d (.list [.str "none", v])), none, none, none, none] (st ++ [.lst (([t, t] : List D).map U.d)]) := by simp [-List.map_cons]
  obtain ⟨pp, t6⟩ : ∃ pp : Option U, (mIfS (mTru (mVar 6)) (mSeq (mAsgT (mLst mNil) (mG 9))
    (mSeq l__law_right_0
    (mAsgT (mLst (mCons (mC (.str "told")) (mCons (mCB gTuple (mCons (mVar 9) mNil)) mNil))) (mG 8)))) mNext) [some (.ref n), some (.d (.int u)), some (.d sd), some (.d tw), some (.d vs), some (.d v), some (.d (.bool (isSchool v))), some (.ref st.length), some (.d (.list [.str "none", v])), none, none, none, none] (st ++ [.lst (([t, t] : List D).map U.d)]) = .nx [some (.ref n), some (.d (.int u)), some (.d sd), some (.d tw), some (.d vs), some (.d v), some (.d (.bool (isSchool v))), some (.ref st.length), some (.d t), pp, none, none, none] (st ++ [.lst (([t, t] : List D).map U.d)]) := by
    rcases ht with ⟨h, rfl⟩ | ⟨S, ok, rfl, rfl⟩
    · refine ⟨none, ?_⟩
      rw [h]
      simp [-List.map_cons]
    · refine ⟨some (.d (.list (S.stands.map pr))), ?_⟩
      rw [ok.is]
      have lp := pairs_loop (n := n) (u := u) (tw := tw) (vs := vs) (m := st.length) (rt := .list [.str "none", S.d]) (sd := sd) f2 ok
      have tl : ∀ st, gTuple [.d (.list (S.stands.map pr))] st = .ok (.d (.tuple (S.stands.map pr))) st := fun st => gTuple_lst
      simp [lp, tl, -List.map_cons, -List.map_map]
  have li := law_is_ref f2 last_at (nice_list (m := 2) (fun d hd => by
    simp only [List.mem_cons, List.not_mem_nil, or_false] at hd
    rcases hd with rfl | rfl <;> exact tn) (Nat.le_refl _)) (by decide) (by decide)

  have t7 : (mIfS (mNotT (mTru (mCall F__law_is (mCons (mVar 7) (mCons (mLst (mCons (mVar 8) (mCons (mVar 8) mNil))) mNil))))) (mRet (mC (.bool false))) mNext) [some (.ref n), some (.d (.int u)), some (.d sd), some (.d tw), some (.d vs), some (.d v), some (.d (.bool (isSchool v))), some (.ref st.length), some (.d t), pp, none, none, none] (st ++ [.lst (([t, t] : List D).map U.d)]) = .nx [some (.ref n), some (.d (.int u)), some (.d sd), some (.d tw), some (.d vs), some (.d v), some (.d (.bool (isSchool v))), some (.ref st.length), some (.d t), pp, none, none, none] (st ++ [.lst (([t, t] : List D).map U.d)]) := by
    have dl : mLst (mCons (mVar 8) (mCons (mVar 8) mNil)) [some (.ref n), some (.d (.int u)), some (.d sd), some (.d tw), some (.d vs), some (.d v), some (.d (.bool (isSchool v))), some (.ref st.length), some (.d t), pp, none, none, none] (st ++ [.lst (([t, t] : List D).map U.d)]) = .ok (.d (.list [t, t])) (st ++ [.lst (([t, t] : List D).map U.d)]) := by simp [-List.map_cons]
    rw [mIfS_e, mNotT_e, mTru_e, mCall_e, mCons_e, show mVar 7 [some (.ref n), some (.d (.int u)), some (.d sd), some (.d tw), some (.d vs), some (.d v), some (.d (.bool (isSchool v))), some (.ref st.length), some (.d t), pp, none, none, none] (st ++ [.lst (([t, t] : List D).map U.d)]) = .ok (.ref st.length) (st ++ [.lst (([t, t] : List D).map U.d)]) from rfl, bind_ok, mCons_e, dl]
    simp only [bind_ok, mNil_e, own_cons, own_ref, own_d, own_nil, Bool.or_false, f2.own, and_self, if_true, li, truU_bool, Bool.not_true, toS_ok, Bool.false_eq_true, if_false, mNext_e]
  refine ⟨[t, t], ?_⟩
  have gc : mGC 5 (.d v) [some (.ref n), some (.d (.int u)), some (.d sd), some (.d tw), some (.d vs), none, none, none, none, none, none, none, none] st = .nx [some (.ref n), some (.d (.int u)), some (.d sd), some (.d tw), some (.d vs), some (.d v), none, none, none, none, none, none, none] st := by
    rw [mGC_e, if_pos ⟨rfl, hs.own, rfl⟩]
    rfl
  rw [turn_e, gc, only_nx, then_nx]
  unfold b__law_right_1
  rw [mWipe_e, mSeq_e, t1, then_nx, mSeq_e, t2, then_nx, mSeq_e, t3, then_nx, mSeq_e, t4, then_nx, mSeq_e, t5, then_nx, mSeq_e, t6, then_nx, t7]
  rfl

end K02
set_option Elab.async false
set_option linter.all false
set_option maxRecDepth 100000
set_option maxHeartbeats 1000000
namespace K02
open PySem TT
theorem _root_.TT.GW.app {st x : Sto} {n : Nat} (h : GW st n) (f : Fl (st ++ x)) : GW (st ++ x) n := by
  obtain ⟨a, b, c, e⟩ := h.at_
  exact ⟨f, by rw [List.length_append]; have := h.lt; omega, a, b, c, by rw [List.getElem?_append_left h.lt]; exact e⟩
variable {st : Sto} {n : Nat} {u : Int} {S : School} {tw ed1 ed2 : D}
theorem S_len (ok : S.Ok) : Sx 3 S.d ∧ Ln S.d ≤ 8000 := by
  have q := nice_tuple (m := 7) ok.nice_parts (by simp)
  exact ⟨q.sx, Nat.le_trans q.len (by decide)⟩
theorem six_bent (g : GW st n) (ok : S.Ok) : ∃ r st', c__law_right_0 [some (.ref n), some (.d (.int u)), some (.d S.d), some (.d tw), some (.d (.list [S.d, ed1, ed2, tw])), none, none, none, none, none, none, none, none] st = .ok (.d (.list r)) st' ∧ r.length = 6 ∧ (∀ d ∈ r, Val d) ∧ Dr n st st' := by
  have b := S_len ok
  have rg : rgOk 0 6 := rgOk_e (by omega)
  obtain ⟨r, st', e, d, hl, hq⟩ := mLc_st (st := st) (st1 := st) (l := (intR 0 6).map PyData.int) (chk := yes) (en := [some (.ref n), some (.d (.int u)), some (.d S.d), some (.d tw), some (.d (.list [S.d, ed1, ed2, tw])), none, none, none, none, none, none, none, none]) (vs := [11]) (fi := mRg1 (mC (.int 6))) (g := mG 11) (fe := e__law_right_0) (fun s => Dr n st s) Val (by simp only [mRg1_e, mC_e, bind_ok, if_pos rg, rgU_e]) rfl g.fl.own (fun _ _ => rfl) (Dr.refl g) fun d hd s hs => by
    have gs := hs.gw g
    obtain ⟨i, _, rfl⟩ := List.mem_map.mp hd
    obtain ⟨r, s2, e, hx, hn, d2⟩ := bent_eq 3 S.d s 12 (by decide) (by decide) gs b.1 (by omega)
    refine ⟨_, r, s2, rfl, ?_, hs.trans d2, hx.mono (by decide), by omega⟩
    unfold e__law_right_0
    simp [gs.fl, e]
  exact ⟨r, st', e, by rw [hl, List.length_map, intR_length]; rfl, hq, d⟩
theorem values_loop {E : Nv} (hE : E = [some (.ref n), some (.d (.int u)), some (.d S.d), some (.d tw), some (.d (.list [S.d, ed1, ed2, tw])), none, none, none, none, none, none, none, none]) : ∀ (l : List D) (st : Sto), Fl st → (∀ d ∈ l, Val d) → ∃ x, forL (mGC 5) b__law_right_1 yes (l.map U.d) E st = .nx E (st ++ x) ∧ Fl (st ++ x)
  | [], st, hs, _ => ⟨[], by rw [List.map_nil, forL_nil rfl, List.append_nil], by rw [List.append_nil]; exact hs⟩
  | d :: l, st, hs, h => by
    obtain ⟨had, e⟩ := value_turn (n := n) (u := u) (sd := S.d) (tw := tw) (vs := .list [S.d, ed1, ed2, tw]) hs (h d (List.mem_cons_self ..))
    obtain ⟨x, e2, f⟩ := values_loop hE l (st ++ [.lst (had.map U.d)]) (hs.snoc had) fun z hz => h z (List.mem_cons_of_mem _ hz)
    refine ⟨.lst (had.map U.d) :: x, ?_, by rw [List.append_assoc] at f; exact f⟩
    rw [List.map_cons, forL_cons rfl, hE, e, ← hE]
    dsimp only
    rw [e2, List.append_assoc]
    rfl
theorem right_turn (g : GW st n) (u : Int) : ∃ s1 x, turn (mG 1) b__law_right_2 (.d (.int u)) [some (.ref n), none, none, none, none, none, none, none, none, none, none, none, none] st = .nx [some (.ref n), none, none, none, none, none, none, none, none, none, none, none, none] (s1 ++ x) ∧ Dr n st s1 ∧ Fl (s1 ++ x) := by
  obtain ⟨S, s1, e1, ok, _, d1⟩ := school_eq (n := n) (most := 8) g (by decide) (by decide)
  have g1 := d1.gw g
  have b := S_len ok
  obtain ⟨r1, s2, e2, x1, n1, d2⟩ := bent_eq 3 S.d s1 12 (by decide) (by decide) g1 b.1 (by omega)
  have g2 := d2.gw g1
  obtain ⟨tw, s3, e3, x2, n2, d3⟩ := bent_eq 4 r1 s2 12 (by decide) (by decide) g2 x1 (by omega)
  have g3 := d3.gw g2
  obtain ⟨ed1, s4, e4, x3, n3, d4⟩ := edges_eq g3
  have g4 := d4.gw g3
  obtain ⟨ed2, s5, e5, x4, n4, d5⟩ := edges_eq g4
  have g5 := d5.gw g4
  obtain ⟨r, s6, e6, rl, rv, d6⟩ := six_bent (u := u) (tw := tw) (ed1 := ed1) (ed2 := ed2) g5 ok
  have g6 := d6.gw g5
  have vs : ∀ d ∈ [S.d, ed1, ed2, tw] ++ r, Val d := fun d hd => by
    rcases List.mem_append.mp hd with q | q
    · simp only [List.mem_cons, List.not_mem_nil, or_false] at q
      rcases q with rfl | rfl | rfl | rfl
      · exact ⟨b.1.mono (by decide), by omega⟩
      · exact ⟨x3.mono (by decide), by omega⟩
      · exact ⟨x4.mono (by decide), by omega⟩
      · exact ⟨x2.mono (by decide), by omega⟩
    · exact rv d q
  obtain ⟨x, e7, f7⟩ := values_loop (n := n) (u := u) (S := S) (tw := tw) (ed1 := ed1) (ed2 := ed2) rfl ([S.d, ed1, ed2, tw] ++ r) s6 g6.fl vs
  refine ⟨s6, x, ?_, d1.trans (d2.trans (d3.trans (d4.trans (d5.trans d6)))), f7⟩
  have t1 : (mAsgT (mCall F__law_school (mCons (mVar 0) (mCons (mC (.int 8)) mNil))) (mGC 2)) [some (.ref n), some (.d (.int u)), none, none, none, none, none, none, none, none, none, none, none] st = .nx [some (.ref n), some (.d (.int u)), some (.d S.d), none, none, none, none, none, none, none, none, none, none] s1 := by simp [g.fl, g1.fl, e1]
  have t2 : (mAsgT (mCall (F__law_bent 12) (mCons (mVar 0) (mCons (mCall (F__law_bent 12) (mCons (mVar 0) (mCons (mVar 2) mNil))) mNil))) (mG 3)) [some (.ref n), some (.d (.int u)), some (.d S.d), none, none, none, none, none, none, none, none, none, none] s1 = .nx [some (.ref n), some (.d (.int u)), some (.d S.d), some (.d tw), none, none, none, none, none, none, none, none, none] s3 := by simp [g1.fl, g2.fl, g3.fl, e2, e3]
  have t3 : (mAsgT (mLst (mCons (mVar 2) (mCons (mCall F__law_edges (mCons (mVar 0) mNil)) (mCons (mCall F__law_edges (mCons (mVar 0) mNil)) (mCons (mVar 3) mNil))))) (mG 4)) [some (.ref n), some (.d (.int u)), some (.d S.d), some (.d tw), none, none, none, none, none, none, none, none, none] s3 = .nx [some (.ref n), some (.d (.int u)), some (.d S.d), some (.d tw), some (.d (.list [S.d, ed1, ed2, tw])), none, none, none, none, none, none, none, none] s5 := by simp [g3.fl, g4.fl, g5.fl, e4, e5]
  have t4 : l__law_right_1 [some (.ref n), some (.d (.int u)), some (.d S.d), some (.d tw), some (.d (.list [S.d, ed1, ed2, tw])), none, none, none, none, none, none, none, none] s5 = .nx [some (.ref n), some (.d (.int u)), some (.d S.d), some (.d tw), some (.d (.list [S.d, ed1, ed2, tw])), none, none, none, none, none, none, none, none] (s6 ++ x) := by
    unfold l__law_right_1
    have ad : addD (.list [S.d, ed1, ed2, tw]) (.list r) = some (.list ([S.d, ed1, ed2, tw] ++ r)) := add_ll (by simp; omega)
    simp only [mFor_e, mSeqR_e, mOp_e, v0, vS, bind_ok, e6, gD2_e, ad, iterR_lst, toS_ok]
    exact e7
  rw [turn_e, mG_e, only_nx, then_nx]
  unfold b__law_right_2
  dsimp only [List.set_cons_succ, List.set_cons_zero]
  rw [mWipe_e, mSeq_e, t1, then_nx, mSeq_e, t2, then_nx, mSeq_e, t3, then_nx, t4]
  rfl
theorem right_eq {st : Sto} {n : Nat} (g : GW st n) : ∃ st' : Sto, F__law_right [.ref n] st = .ok (.d (.bool true)) st' ∧ Dr n st st' := by
  obtain ⟨en', s', e, he, s1, x, hs, d, g2⟩ := for_inv (g := mG 1) (bd := b__law_right_2) (chk := yes) (fun i en s => en = [some (.ref n), none, none, none, none, none, none, none, none, none, none, none, none] ∧ ∃ s1 x, s = s1 ++ x ∧ Dr n st s1 ∧ GW s n)
    (rgU 0 6) 0 [some (.ref n), none, none, none, none, none, none, none, none, none, none, none, none] st (fun _ _ _ _ => rfl) (fun k u en s hu ⟨he, s1, x, hs, d, gs⟩ => by
      subst he
      obtain ⟨i, rfl⟩ : ∃ i : Int, u = .d (.int i) := by
        have := List.mem_of_getElem? hu
        rw [rgU_e] at this
        obtain ⟨z, hz, rfl⟩ := List.mem_map.mp this
        obtain ⟨i, _, rfl⟩ := List.mem_map.mp hz
        exact ⟨i, rfl⟩
      obtain ⟨s2, y, e, d2, f2⟩ := right_turn gs i
      have gn := (d2.gw gs).app f2
      subst hs
      obtain ⟨s3, rfl, d3⟩ := d2.app (by rw [d.len]; exact g.lt)
      exact ⟨_, _, e, rfl, s3, x ++ y, by rw [List.append_assoc], d.trans d3, gn⟩) ⟨rfl, st, [], by simp, Dr.refl g, g⟩
  subst he hs
  refine ⟨s1, run_setX (d.gw g).fl g2.fl d.len ?_, d⟩
  show f__law_right [some (.ref n), none, none, none, none, none, none, none, none, none, none, none, none] st = _
  unfold f__law_right l__law_right_2
  have rg : rgOk 0 6 := rgOk_e (by omega)
  simp only [mSeq_e, mFor_e, mRg1_e, mC_e, bind_ok, if_pos rg, toS_ok]
  rw [e]
  rfl

theorem law_eq (ns : List Int) : ∃ st, F_law [.d (.list (ns.map .int))] [] = .ok (.d (.bool true)) st := by
  obtain ⟨m, hm⟩ : ∃ m : Int, m = (if (if (3 : Int) < ns.length then (3 : Int) else ns.length) > 1 then (if (3 : Int) < ns.length then (3 : Int) else ns.length) else 1) := ⟨_, rfl⟩
  have hm2 : 0 ≤ m ∧ m ≤ 3 := by
    rw [hm]
    split <;> split <;> omega
  have rg : rgOk 0 m := rgOk_e (by omega)
  have hi : mRg1 (mCB gMax2 (mCons (mC (.int 1)) (mCons (mCB gMin2 (mCons (mCB gLen (mCons (mVar 0) mNil)) (mCons (mC (.int 3)) mNil))) mNil))) [some (.d (.list (ns.map .int))), none] [] = .ok (((intR 0 m).map PyData.int).map U.d, yes) [] := by
    simp only [mRg1_e, mCB_e, mCons_e, mC_e, v0, mNil_e, bind_ok, gLen_lst, gMin2_e, gMax2_e, List.length_map]
    rw [← hm, if_pos rg, rgU_e]
  obtain ⟨r, st', e, h1, h2, h3⟩ := mLc_st (st1 := []) (g := mG 1) (fe := e_law_0) (vs := [1]) Fl (fun d => d = .bool true) hi rfl rfl (fun _ _ => rfl) Fl.nil fun d hd st hs => by
    obtain ⟨i, hi, rfl⟩ := List.mem_map.mp hd
    have := mem_intR.mp hi
    obtain ⟨k, rfl⟩ := Int.eq_ofNat_of_zero_le this.1
    obtain ⟨x, y, z, e1⟩ := well_eq hs ns k (by omega)
    have g : GW (st ++ [wl x y z]) st.length := ⟨hs.snoc [.int x, .int y, .int z], by rw [List.length_append]; simp, x, y, z, last_at⟩
    obtain ⟨st2, e2, d⟩ := right_eq g
    refine ⟨_, _, st2, rfl, ?_, (d.gw g).fl, rfl⟩
    unfold e_law_0
    simp [hs, e1, g.fl, e2]
  refine ⟨[], run_setX (s := []) (x := st') Fl.nil h1 rfl ?_⟩
  show f_law [some (.d (.list (ns.map .int))), none] [] = _
  unfold f_law c_law_0
  rw [mRet_e, mCB_e, mCons_e, e, bind_ok, mNil_e, bind_ok, bind_ok, all_true h3]
  rfl
end K02
set_option Elab.async false
set_option linter.all false
set_option maxRecDepth 100000
set_option maxHeartbeats 0
namespace K02
open PySem PySem.Spec PyProof.Rows L2 LamX NdefX TT
def dd_is_whole : He.DefD := ⟨("is_whole", none), "is_whole", "is_whole", defArgs s_is_whole, defBody s_is_whole, defScope s_is_whole, [], []⟩
def dd_is_number : He.DefD := ⟨("is_number", none), "is_number", "is_number", defArgs s_is_number, defBody s_is_number, defScope s_is_number, [], []⟩
def dd_is_tuple_of : He.DefD := ⟨("is_tuple_of", none), "is_tuple_of", "is_tuple_of", defArgs s_is_tuple_of, defBody s_is_tuple_of, defScope s_is_tuple_of, [], []⟩
def dd_is_ascending : He.DefD := ⟨("is_ascending", none), "is_ascending", "is_ascending", defArgs s_is_ascending, defBody s_is_ascending, defScope s_is_ascending, [], []⟩
def dd_wrong_at : He.DefD := ⟨("wrong_at", none), "wrong_at", "wrong_at", defArgs s_wrong_at, defBody s_wrong_at, defScope s_wrong_at, [], []⟩
def dd_wrong_from_one : He.DefD := ⟨("wrong_from_one", none), "wrong_from_one", "wrong_from_one", defArgs s_wrong_from_one, defBody s_wrong_from_one, defScope s_wrong_from_one, [], []⟩
def dd_are_numbers : He.DefD := ⟨("are_numbers", none), "are_numbers", "are_numbers", defArgs s_are_numbers, defBody s_are_numbers, defScope s_are_numbers, [], []⟩
def dd_are_some_of : He.DefD := ⟨("are_some_of", none), "are_some_of", "are_some_of", defArgs s_are_some_of, defBody s_are_some_of, defScope s_are_some_of, [], []⟩
def dd_is_kind_of : He.DefD := ⟨("is_kind_of", none), "is_kind_of", "is_kind_of", defArgs s_is_kind_of, defBody s_is_kind_of, defScope s_is_kind_of, [], []⟩
def dd_are_bars : He.DefD := ⟨("are_bars", none), "are_bars", "are_bars", defArgs s_are_bars, defBody s_are_bars, defScope s_are_bars, [], []⟩
def dd_is_school_form : He.DefD := ⟨("is_school_form", none), "is_school_form", "is_school_form", defArgs s_is_school_form, defBody s_is_school_form, defScope s_is_school_form, [], []⟩
def dd_notes_of : He.DefD := ⟨("notes_of", none), "notes_of", "notes_of", defArgs s_notes_of, defBody s_notes_of, defScope s_notes_of, [], []⟩
def dd_standings_of : He.DefD := ⟨("standings_of", none), "standings_of", "standings_of", defArgs s_standings_of, defBody s_standings_of, defScope s_standings_of, [], []⟩
def dd_check_school : He.DefD := ⟨("check_school", none), "check_school", "check_school", defArgs s_check_school, defBody s_check_school, defScope s_check_school, [], []⟩
def dd_is_school : He.DefD := ⟨("is_school", none), "is_school", "is_school", defArgs s_is_school, defBody s_is_school, defScope s_is_school, [], []⟩
def dd_standings : He.DefD := ⟨("standings", none), "standings", "standings", defArgs s_standings, defBody s_standings, defScope s_standings, [], []⟩
def dd__law_well : He.DefD := ⟨("_law_well", none), "_law_well", "_law_well", defArgs s__law_well, defBody s__law_well, defScope s__law_well, [], []⟩
def dd__law_draw : He.DefD := ⟨("_law_draw", none), "_law_draw", "_law_draw", defArgs s__law_draw, defBody s__law_draw, defScope s__law_draw, [], []⟩
def dd__law_of : He.DefD := ⟨("_law_of", none), "_law_of", "_law_of", defArgs s__law_of, defBody s__law_of, defScope s__law_of, [], []⟩
def dd__law_unlike : He.DefD := ⟨("_law_unlike", none), "_law_unlike", "_law_unlike", defArgs s__law_unlike, defBody s__law_unlike, defScope s__law_unlike, [], []⟩
def dd__law_is : He.DefD := ⟨("_law_is", none), "_law_is", "_law_is", defArgs s__law_is, defBody s__law_is, defScope s__law_is, [], []⟩
def dd__law_near : He.DefD := ⟨("_law_near", none), "_law_near", "_law_near", defArgs s__law_near, defBody s__law_near, defScope s__law_near, [], []⟩
def dd__law_school : He.DefD := ⟨("_law_school", none), "_law_school", "_law_school", defArgs s__law_school, defBody s__law_school, defScope s__law_school, [], []⟩
def dd__law_is_number : He.DefD := ⟨("_law_is_number", none), "_law_is_number", "_law_is_number", defArgs s__law_is_number, defBody s__law_is_number, defScope s__law_is_number, [], []⟩
def dd__law_are_numbers : He.DefD := ⟨("_law_are_numbers", none), "_law_are_numbers", "_law_are_numbers", defArgs s__law_are_numbers, defBody s__law_are_numbers, defScope s__law_are_numbers, [], []⟩
def dd__law_is_school : He.DefD := ⟨("_law_is_school", none), "_law_is_school", "_law_is_school", defArgs s__law_is_school, defBody s__law_is_school, defScope s__law_is_school, [], []⟩
def dd__law_bent : He.DefD := ⟨("_law_bent", none), "_law_bent", "_law_bent", defArgs s__law_bent, defBody s__law_bent, defScope s__law_bent, [], []⟩
def dd__law_edges : He.DefD := ⟨("_law_edges", none), "_law_edges", "_law_edges", defArgs s__law_edges, defBody s__law_edges, defScope s__law_edges, [], []⟩
def dd__law_told : He.DefD := ⟨("_law_told", none), "_law_told", "_law_told", defArgs s__law_told, defBody s__law_told, defScope s__law_told, [], []⟩
def dd__law_right : He.DefD := ⟨("_law_right", none), "_law_right", "_law_right", defArgs s__law_right, defBody s__law_right, defScope s__law_right, [], []⟩
def dd_law : He.DefD := ⟨("law", none), "law", "law", defArgs s_law, defBody s_law, defScope s_law, [], []⟩
def dd_InvalidSchool : He.DefD := ⟨("InvalidSchool", some "__init__"), "__init__", "InvalidSchool.__init__", defArgs s_InvalidSchool, defBody s_InvalidSchool, defScope s_InvalidSchool, [], []⟩
def hfn : List He.DefD := [dd_is_whole, dd_is_number, dd_is_tuple_of, dd_is_ascending, dd_wrong_at, dd_wrong_from_one, dd_are_numbers, dd_are_some_of, dd_is_kind_of, dd_are_bars, dd_is_school_form, dd_notes_of, dd_standings_of, dd_check_school, dd_is_school, dd_standings, dd__law_well, dd__law_draw, dd__law_of, dd__law_unlike, dd__law_is, dd__law_near, dd__law_school, dd__law_is_number, dd__law_are_numbers, dd__law_is_school, dd__law_bent, dd__law_edges, dd__law_told, dd__law_right, dd_law, dd_InvalidSchool]
def hfa : List He.Fa := [.glo "is_whole", .glo "is_number", .glo "is_tuple_of", .glo "is_ascending", .glo "wrong_at", .glo "wrong_from_one", .glo "are_numbers", .glo "are_some_of", .glo "is_kind_of", .glo "are_bars", .glo "is_school_form", .glo "notes_of", .glo "standings_of", .glo "check_school", .glo "is_school", .glo "standings", .glo "_law_well", .glo "_law_draw", .glo "_law_of", .glo "_law_unlike", .glo "_law_is", .glo "_law_near", .glo "_law_school", .glo "_law_is_number", .glo "_law_are_numbers", .glo "_law_is_school", .glo "_law_bent", .glo "_law_edges", .glo "_law_told", .glo "_law_right", .glo "law", .free "abs", .free "all", .free "bool", .free "divmod", .free "enumerate", .free "int", .free "isinstance", .free "len", .free "list", .free "max", .free "min", .free "range", .free "repr", .free "set", .free "sorted", .free "tuple", .free "zip", .int "MOST_HIGH" 8, .int "MOST_STEPS" 5, .int "MOST_STEPS2" 7, .int "MOST_INTERVALS" 9, .int "MOST_BARRED" 20, .int "PARTS" 7, .glo "InvalidSchool", .noat "InvalidSchool" "given", .exm "InvalidSchool" "InvalidSchool" true]
def htf : List He.Defn := [("are_numbers", none), ("are_bars", none), ("_law_right", none)]
def hex (K : PySem.W.Frag) : Bool := noLst K && (oexB K (He.ga K "InvalidSchool") && (xfB K (He.ga K "InvalidSchool") && (decide (PySem.W.findIn K (.ref (He.ga K "InvalidSchool")) "__init__" = some (some (.ref (He.ma K (He.ga K "InvalidSchool") "__init__")))) && (decide (PySem.W.typeIn K (.ref (He.ma K (He.ga K "InvalidSchool") "__init__")) = some (.type "function")) && (!decide (tb K "are_numbers" = tb K "are_bars") && (!decide (tb K "are_numbers" = tb K "_law_right") && (!decide (tb K "are_bars" = tb K "_law_right"))))))))
abbrev R : PySem.W.OpenRow := PySem.W.OpenLaw.row PySem.Challenge.rw_plainvoices_k02_whole_schools_judged
abbrev hk : PySem.W.Hook := He.hookX 6 hfa hfn [] htf hex
def ob (s : PySem.W.SharedT) : He.AlX := He.obsX 6 hfa hfn [] htf hex (HandSHeadRun.getT s)
theorem ob_eq (s : PySem.W.SharedT) : ob s = hk.obs s.abs := He.obsX_eq (HandSHeadRun.getT_eq s)
theorem run (w : World) : HandSHeadRun.RunEq R (PySem.W.view R.prog [44]) hk ob 2000 ([("VoiceError" : PySem.Str), ("InvalidSchool" : PySem.Str), ("is_whole" : PySem.Str), ("is_number" : PySem.Str), ("is_tuple_of" : PySem.Str), ("is_ascending" : PySem.Str), ("wrong_at" : PySem.Str), ("wrong_from_one" : PySem.Str), ("MOST_HIGH" : PySem.Str), ("MOST_STEPS" : PySem.Str), ("MOST_STEPS2" : PySem.Str), ("MOST_INTERVALS" : PySem.Str), ("MOST_BARRED" : PySem.Str), ("PARTS" : PySem.Str), ("are_numbers" : PySem.Str), ("are_some_of" : PySem.Str), ("is_kind_of" : PySem.Str), ("are_bars" : PySem.Str), ("is_school_form" : PySem.Str), ("notes_of" : PySem.Str), ("standings_of" : PySem.Str), ("check_school" : PySem.Str), ("is_school" : PySem.Str), ("standings" : PySem.Str), ("_law_well" : PySem.Str), ("_law_draw" : PySem.Str), ("_law_of" : PySem.Str), ("_law_unlike" : PySem.Str), ("_law_is" : PySem.Str), ("_law_near" : PySem.Str), ("_law_school" : PySem.Str), ("_law_is_number" : PySem.Str), ("_law_are_numbers" : PySem.Str), ("_law_is_school" : PySem.Str), ("_law_bent" : PySem.Str), ("_law_edges" : PySem.Str), ("_law_told" : PySem.Str), ("_law_right" : PySem.Str)] : List PySem.Str) w := by
  intro os
  kernel_rfl
theorem facts {w : World} {K : PySem.W.Frag} {h h0 base : Heap} {mg : Str → Option Value} (X : K.In h) (Gn : h.Ns mainGlobals mg) (c : He.SaysX hfa hfn [] htf hex w h0 K) (TB : ∀ p ∈ htf.map (He.cT K), TabB base mg p.1 p.2) : Fx K mg base := by
  have cd := c.t.d
  have hx : hex K = true := c.more
  unfold hex at hx
  simp only [Bool.and_eq_true] at hx
  obtain ⟨h_noLst, h_e_InvalidSchool, h_xf_InvalidSchool, h_iC_InvalidSchool, h_tI_InvalidSchool, h_ne_are_numbers_are_bars, h_ne_are_numbers__law_right, h_ne_are_bars__law_right⟩ := hx
  exact {
    g_is_whole := He.glo_ok X Gn (cd.fact 0 (f := .glo "is_whole") rfl)
    d_is_whole := (cd.def_ 0 (d := dd_is_whole) rfl).imp fun _ F => funD_fun F
    g_is_number := He.glo_ok X Gn (cd.fact 1 (f := .glo "is_number") rfl)
    d_is_number := (cd.def_ 1 (d := dd_is_number) rfl).imp fun _ F => funD_fun F
    g_is_tuple_of := He.glo_ok X Gn (cd.fact 2 (f := .glo "is_tuple_of") rfl)
    d_is_tuple_of := (cd.def_ 2 (d := dd_is_tuple_of) rfl).imp fun _ F => funD_fun F
    g_is_ascending := He.glo_ok X Gn (cd.fact 3 (f := .glo "is_ascending") rfl)
    d_is_ascending := (cd.def_ 3 (d := dd_is_ascending) rfl).imp fun _ F => funD_fun F
    g_wrong_at := He.glo_ok X Gn (cd.fact 4 (f := .glo "wrong_at") rfl)
    d_wrong_at := (cd.def_ 4 (d := dd_wrong_at) rfl).imp fun _ F => funD_fun F
    g_wrong_from_one := He.glo_ok X Gn (cd.fact 5 (f := .glo "wrong_from_one") rfl)
    d_wrong_from_one := (cd.def_ 5 (d := dd_wrong_from_one) rfl).imp fun _ F => funD_fun F
    g_are_numbers := He.glo_ok X Gn (cd.fact 6 (f := .glo "are_numbers") rfl)
    d_are_numbers := (cd.def_ 6 (d := dd_are_numbers) rfl).imp fun _ F => funD_fun F
    g_are_some_of := He.glo_ok X Gn (cd.fact 7 (f := .glo "are_some_of") rfl)
    d_are_some_of := (cd.def_ 7 (d := dd_are_some_of) rfl).imp fun _ F => funD_fun F
    g_is_kind_of := He.glo_ok X Gn (cd.fact 8 (f := .glo "is_kind_of") rfl)
    d_is_kind_of := (cd.def_ 8 (d := dd_is_kind_of) rfl).imp fun _ F => funD_fun F
    g_are_bars := He.glo_ok X Gn (cd.fact 9 (f := .glo "are_bars") rfl)
    d_are_bars := (cd.def_ 9 (d := dd_are_bars) rfl).imp fun _ F => funD_fun F
    g_is_school_form := He.glo_ok X Gn (cd.fact 10 (f := .glo "is_school_form") rfl)
    d_is_school_form := (cd.def_ 10 (d := dd_is_school_form) rfl).imp fun _ F => funD_fun F
    g_notes_of := He.glo_ok X Gn (cd.fact 11 (f := .glo "notes_of") rfl)
    d_notes_of := (cd.def_ 11 (d := dd_notes_of) rfl).imp fun _ F => funD_fun F
    g_standings_of := He.glo_ok X Gn (cd.fact 12 (f := .glo "standings_of") rfl)
    d_standings_of := (cd.def_ 12 (d := dd_standings_of) rfl).imp fun _ F => funD_fun F
    g_check_school := He.glo_ok X Gn (cd.fact 13 (f := .glo "check_school") rfl)
    d_check_school := (cd.def_ 13 (d := dd_check_school) rfl).imp fun _ F => funD_fun F
    g_is_school := He.glo_ok X Gn (cd.fact 14 (f := .glo "is_school") rfl)
    d_is_school := (cd.def_ 14 (d := dd_is_school) rfl).imp fun _ F => funD_fun F
    g_standings := He.glo_ok X Gn (cd.fact 15 (f := .glo "standings") rfl)
    d_standings := (cd.def_ 15 (d := dd_standings) rfl).imp fun _ F => funD_fun F
    g__law_well := He.glo_ok X Gn (cd.fact 16 (f := .glo "_law_well") rfl)
    d__law_well := (cd.def_ 16 (d := dd__law_well) rfl).imp fun _ F => funD_fun F
    g__law_draw := He.glo_ok X Gn (cd.fact 17 (f := .glo "_law_draw") rfl)
    d__law_draw := (cd.def_ 17 (d := dd__law_draw) rfl).imp fun _ F => funD_fun F
    g__law_of := He.glo_ok X Gn (cd.fact 18 (f := .glo "_law_of") rfl)
    d__law_of := (cd.def_ 18 (d := dd__law_of) rfl).imp fun _ F => funD_fun F
    g__law_unlike := He.glo_ok X Gn (cd.fact 19 (f := .glo "_law_unlike") rfl)
    d__law_unlike := (cd.def_ 19 (d := dd__law_unlike) rfl).imp fun _ F => funD_fun F
    g__law_is := He.glo_ok X Gn (cd.fact 20 (f := .glo "_law_is") rfl)
    d__law_is := (cd.def_ 20 (d := dd__law_is) rfl).imp fun _ F => funD_fun F
    g__law_near := He.glo_ok X Gn (cd.fact 21 (f := .glo "_law_near") rfl)
    d__law_near := (cd.def_ 21 (d := dd__law_near) rfl).imp fun _ F => funD_fun F
    g__law_school := He.glo_ok X Gn (cd.fact 22 (f := .glo "_law_school") rfl)
    d__law_school := (cd.def_ 22 (d := dd__law_school) rfl).imp fun _ F => funD_fun F
    g__law_is_number := He.glo_ok X Gn (cd.fact 23 (f := .glo "_law_is_number") rfl)
    d__law_is_number := (cd.def_ 23 (d := dd__law_is_number) rfl).imp fun _ F => funD_fun F
    g__law_are_numbers := He.glo_ok X Gn (cd.fact 24 (f := .glo "_law_are_numbers") rfl)
    d__law_are_numbers := (cd.def_ 24 (d := dd__law_are_numbers) rfl).imp fun _ F => funD_fun F
    g__law_is_school := He.glo_ok X Gn (cd.fact 25 (f := .glo "_law_is_school") rfl)
    d__law_is_school := (cd.def_ 25 (d := dd__law_is_school) rfl).imp fun _ F => funD_fun F
    g__law_bent := He.glo_ok X Gn (cd.fact 26 (f := .glo "_law_bent") rfl)
    d__law_bent := (cd.def_ 26 (d := dd__law_bent) rfl).imp fun _ F => funD_fun F
    g__law_edges := He.glo_ok X Gn (cd.fact 27 (f := .glo "_law_edges") rfl)
    d__law_edges := (cd.def_ 27 (d := dd__law_edges) rfl).imp fun _ F => funD_fun F
    g__law_told := He.glo_ok X Gn (cd.fact 28 (f := .glo "_law_told") rfl)
    d__law_told := (cd.def_ 28 (d := dd__law_told) rfl).imp fun _ F => funD_fun F
    g__law_right := He.glo_ok X Gn (cd.fact 29 (f := .glo "_law_right") rfl)
    d__law_right := (cd.def_ 29 (d := dd__law_right) rfl).imp fun _ F => funD_fun F
    g_law := He.glo_ok X Gn (cd.fact 30 (f := .glo "law") rfl)
    d_law := (cd.def_ 30 (d := dd_law) rfl).imp fun _ F => funD_fun F
    t_are_numbers := TB (He.cT K ("are_numbers", none)) (by simp [htf])
    t_are_bars := TB (He.cT K ("are_bars", none)) (by simp [htf])
    t__law_right := TB (He.cT K ("_law_right", none)) (by simp [htf])
    c_MOST_HIGH := He.int_ok X Gn (cd.fact 48 (f := .int "MOST_HIGH" 8) rfl)
    c_MOST_STEPS := He.int_ok X Gn (cd.fact 49 (f := .int "MOST_STEPS" 5) rfl)
    c_MOST_STEPS2 := He.int_ok X Gn (cd.fact 50 (f := .int "MOST_STEPS2" 7) rfl)
    c_MOST_INTERVALS := He.int_ok X Gn (cd.fact 51 (f := .int "MOST_INTERVALS" 9) rfl)
    c_MOST_BARRED := He.int_ok X Gn (cd.fact 52 (f := .int "MOST_BARRED" 20) rfl)
    c_PARTS := He.int_ok X Gn (cd.fact 53 (f := .int "PARTS" 7) rfl)
    n_abs := He.free_ok X Gn (cd.fact 31 (f := .free "abs") rfl)
    n_all := He.free_ok X Gn (cd.fact 32 (f := .free "all") rfl)
    n_bool := He.free_ok X Gn (cd.fact 33 (f := .free "bool") rfl)
    n_divmod := He.free_ok X Gn (cd.fact 34 (f := .free "divmod") rfl)
    n_enumerate := He.free_ok X Gn (cd.fact 35 (f := .free "enumerate") rfl)
    n_int := He.free_ok X Gn (cd.fact 36 (f := .free "int") rfl)
    n_isinstance := He.free_ok X Gn (cd.fact 37 (f := .free "isinstance") rfl)
    n_len := He.free_ok X Gn (cd.fact 38 (f := .free "len") rfl)
    n_list := He.free_ok X Gn (cd.fact 39 (f := .free "list") rfl)
    n_max := He.free_ok X Gn (cd.fact 40 (f := .free "max") rfl)
    n_min := He.free_ok X Gn (cd.fact 41 (f := .free "min") rfl)
    n_range := He.free_ok X Gn (cd.fact 42 (f := .free "range") rfl)
    n_repr := He.free_ok X Gn (cd.fact 43 (f := .free "repr") rfl)
    n_set := He.free_ok X Gn (cd.fact 44 (f := .free "set") rfl)
    n_sorted := He.free_ok X Gn (cd.fact 45 (f := .free "sorted") rfl)
    n_tuple := He.free_ok X Gn (cd.fact 46 (f := .free "tuple") rfl)
    n_zip := He.free_ok X Gn (cd.fact 47 (f := .free "zip") rfl)
    g_InvalidSchool := He.glo_ok X Gn (cd.fact 54 (f := .glo "InvalidSchool") rfl)
    e_InvalidSchool := oexB_ok h_e_InvalidSchool
    xf_InvalidSchool := xfB_ok h_xf_InvalidSchool
    iC_InvalidSchool := of_decide_eq_true h_iC_InvalidSchool
    tI_InvalidSchool := of_decide_eq_true h_tI_InvalidSchool
    no_InvalidSchool := He.noat_ok (cd.fact 55 (f := .noat "InvalidSchool" "given") rfl)
    d_InvalidSchool := (cd.def_ 31 (d := dd_InvalidSchool) rfl).imp fun _ F => funD_fun F
    m_InvalidSchool_InvalidSchool := He.exm_ok (cd.fact 56 (f := .exm "InvalidSchool" "InvalidSchool" true) rfl)
    ne_are_numbers_are_bars := by simpa using h_ne_are_numbers_are_bars
    ne_are_numbers__law_right := by simpa using h_ne_are_numbers__law_right
    ne_are_bars__law_right := by simpa using h_ne_are_bars__law_right }
theorem noLst_of {w : World} {K : PySem.W.Frag} {h : Heap} (c : He.SaysX hfa hfn [] htf hex w h K) : noLst K = true := by
  have hx : hex K = true := c.more
  unfold hex at hx
  simp only [Bool.and_eq_true] at hx
  exact hx.1
end K02
open PySem PySem.W PySem.Calls PyProof.Rows
theorem K02.holds_of (hF : ∀ ns : List Int, ns.length ≤ 63 → (∀ z ∈ ns, Builtin.Int.intBits z ≤ 1048576) → ∃ st, K02.F_law [.d (.list (ns.map PyData.int))] [] = .ok (.d (.bool true)) st) : PySem.Challenge.rw_plainvoices_k02_whole_schools_judged.Holds := by
  w_on; o_law
  refine HandSHeadRun.head_any (r := OpenLaw.row PySem.Challenge.rw_plainvoices_k02_whole_schools_judged) (q := view (OpenLaw.row PySem.Challenge.rw_plainvoices_k02_whole_schools_judged).prog [44]) (H := K02.hk) (ob := K02.ob) (M := 2000) (loose := ([("VoiceError" : PySem.Str), ("InvalidSchool" : PySem.Str), ("is_whole" : PySem.Str), ("is_number" : PySem.Str), ("is_tuple_of" : PySem.Str), ("is_ascending" : PySem.Str), ("wrong_at" : PySem.Str), ("wrong_from_one" : PySem.Str), ("MOST_HIGH" : PySem.Str), ("MOST_STEPS" : PySem.Str), ("MOST_STEPS2" : PySem.Str), ("MOST_INTERVALS" : PySem.Str), ("MOST_BARRED" : PySem.Str), ("PARTS" : PySem.Str), ("are_numbers" : PySem.Str), ("are_some_of" : PySem.Str), ("is_kind_of" : PySem.Str), ("are_bars" : PySem.Str), ("is_school_form" : PySem.Str), ("notes_of" : PySem.Str), ("standings_of" : PySem.Str), ("check_school" : PySem.Str), ("is_school" : PySem.Str), ("standings" : PySem.Str), ("_law_well" : PySem.Str), ("_law_draw" : PySem.Str), ("_law_of" : PySem.Str), ("_law_unlike" : PySem.Str), ("_law_is" : PySem.Str), ("_law_near" : PySem.Str), ("_law_school" : PySem.Str), ("_law_is_number" : PySem.Str), ("_law_are_numbers" : PySem.Str), ("_law_is_school" : PySem.Str), ("_law_bent" : PySem.Str), ("_law_edges" : PySem.Str), ("_law_told" : PySem.Str), ("_law_right" : PySem.Str)] : List PySem.Str)) (d := HandSHeadRun.topDef (OpenLaw.row PySem.Challenge.rw_plainvoices_k02_whole_schools_judged).prog 44) (kwd := []) K02.ob_eq
    (by kernel_rfl) (fun s => by kernel_rfl) K02.run (by kernel_rfl) (by kernel_rfl) (by kernel_rfl) (by rfl) (by first | assumption | decide +kernel) (by decide +kernel) ⟨rfl, rfl, rfl, rfl, rfl, by decide +kernel⟩ ?hw ?hc
  case hw => w_witness2
  case hc =>
    refine TT.walk_ofG (l := PySem.Challenge.rw_plainvoices_k02_whole_schools_judged) (n := 63) (k := 17) (x := "script") (F := K02.F_law) rfl (by decide) (by kernel_rfl) ⟨rfl, by decide, by decide⟩ ?F hF
    intro w mg fa h Y Gn hmg0
    obtain ⟨K, KX, c⟩ := Y
    have hmg : mg ("law" : PySem.Str) = some (.ref fa) := by
      have e : (HandSHeadRun.topDef (OpenLaw.row PySem.Challenge.rw_plainvoices_k02_whole_schools_judged).prog 44).name = ("law" : PySem.Str) := by kernel_rfl
      rw [← e]
      exact hmg0
    have ge := hmg.symm.trans (He.glo_ok KX Gn (c.t.d.fact 30 (f := .glo "law") rfl))
    cases ge
    refine ⟨K, K02.gd K, K02.htf.map (He.cT K), KX, K02.noLst_of c, ?_, ?_, ?_, ?_, fun base hK hN TB => ?_⟩
    · intro p hp
      obtain ⟨z, hz, e⟩ := List.mem_map.mp hp
      rw [← e]; exact c.empty z hz
    · intro p hp
      obtain ⟨z, hz, e⟩ := List.mem_map.mp hp
      rw [← e]; exact c.out z hz
    · intro p hp
      obtain ⟨z, hz, e⟩ := List.mem_map.mp hp
      rw [← e]; exact PySem.W.codeHd_of_K KX (c.hd z hz)
    · intro t ht
      rcases List.mem_cons.mp ht with e | ht
      · exact ⟨He.cT K ("are_numbers", none), List.mem_map.mpr ⟨_, by simp [K02.htf], rfl⟩, by rw [e]; rfl⟩
      rcases List.mem_cons.mp ht with e | ht
      · exact ⟨He.cT K ("are_bars", none), List.mem_map.mpr ⟨_, by simp [K02.htf], rfl⟩, by rw [e]; rfl⟩
      rcases List.mem_cons.mp ht with e | ht
      · exact ⟨He.cT K ("_law_right", none), List.mem_map.mpr ⟨_, by simp [K02.htf], rfl⟩, by rw [e]; rfl⟩
      cases ht
    · have D := K02.ok_law (P := (PySem.Challenge.rw_plainvoices_k02_whole_schools_judged).prog) (w := w) (K02.facts hK hN c TB)
      obtain ⟨fd, FF, hb, _⟩ := D.ex
      exact ⟨fd, FF, hb⟩
theorem PySem.Challenge.cw_plainvoices_k02_whole_schools_judged_holds : PySem.Challenge.rw_plainvoices_k02_whole_schools_judged.Holds := by
  exact K02.holds_of fun ns _ _ => K02.law_eq ns
