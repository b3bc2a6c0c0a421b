import PyProof.Rows.All
import Wide.All
import OpenK.AllK
import Wide.FinOn
import HandS.ForMost
import HandS.ForExc
import HandS.ExcInit
import HandS.Nested
import HandS.TupAny
import HandS.Deep
import HandS.Wide
import HandS.Conv
import HandS.IsInst
import HandS.SortInts
import HandS.RaiseMore
import HandS.WideBits
import PyProof.ReprRoads
import HandS.Zip
import PyProof.EnumMake
import PyProof.Draws
import HandS.Comp
import HandS.WordsExc
import HandS.ExcField
import HandS.TryMany
import HandS.ReplaceLit
import HandS.ReplaceDef
import HandS.HeadHook4
import HandS.HeadWalk
import HandS.Head0
import HandS.Head1
import HandS.Head2
import HandS.HeadEnd
import PySem.Challenge.RW_plainvoices_k12_whole_lines_of_notes
import PyProof.StrLawsIn
import KE.IntTextLaws
import PyProof.Rows.StrSplitCount
import PyProof.StrLawsRepr
import HandS.HeadHook1
import HandS.HeadHook2
import KE.KStateDown
set_option Elab.async false
set_option linter.all false
set_option maxRecDepth 100000
set_option maxHeartbeats 2000000
namespace TT
open PySem PySem.Spec PyProof.Rows L2

/-! ## trees of values -/
abbrev D := PyData

/-- what a name may hold -/
inductive U where
  | d (x : D)
  | ref (n : Nat)
  | fn (f : Str)
  | clo (own : Bool) (k : Nat) (caps : List U)
  | tup (l : List U)

/-- what may change -/
inductive Cell where
  | lst (l : List U)
  | dct (l : List (D × U))

abbrev Sto := List Cell
abbrev Nv := List (Option U)

inductive Res (α : Type) where
  | ok (a : α) (s : Sto)
  | exn (c : Str) (u : Option U) (s : Sto)
  | bad

/-- how a statement ends -/
inductive RS where
  | nx (e : Nv) (s : Sto)
  | rt (u : U) (s : Sto)
  | bk (e : Nv) (s : Sto)
  | ct (e : Nv) (s : Sto)
  | exn (c : Str) (u : Option U) (e : Nv) (s : Sto)
  | bad

/-! ## the code of a made function -/
structure CodeI where
  name : Str
  qual : Str
  params : Arguments
  body : FuncBody
  scope : Scope
  fr : List Str

/-- what is fixed through the law -/
structure Gd where
  K : PySem.W.Frag
  fnA : Str → Option Addr
  clsA : Str → Option Addr
  clsF : Str → Str
  cod : Nat → Option CodeI
  T : List NdefX.NTab

def nt (o : HO) : Prop := ∀ ps, o ≠ .tbl ps
def Le (H H' : Hp) : Prop := ∀ b o, H b = some o → nt o → H' b = some o
theorem Le.refl (H : Hp) : Le H H := fun _ _ h _ => h
theorem Le.trans {H H1 H2 : Hp} (a : Le H H1) (b : Le H1 H2) : Le H H2 := fun c o h n => b c o (a c o h n) n
def dat (o : HO) : Prop := nt o ∧ ∀ φ, o ≠ .ext φ
theorem nt_lst {xs : List V} : nt (.lst xs) := fun _ z => nomatch z
theorem nt_tup {xs : List V} : nt (.tup xs) := fun _ z => nomatch z
theorem nt_dK {xs : List (Key × V)} : nt (.dK xs) := fun _ z => nomatch z
theorem nt_dT {xs : List (List Key × V)} : nt (.dT xs) := fun _ z => nomatch z
theorem nt_frz {o : Obj} {u : HO} : nt (.frz o u) := fun _ z => nomatch z
theorem nt_ext {f : Heap → Prop} : nt (.ext f) := fun _ z => nomatch z
theorem nt_xd {fs : List (Str × V)} : nt (.xd fs) := fun _ z => nomatch z
theorem dat_lst {xs : List V} : dat (.lst xs) := ⟨nt_lst, fun _ z => nomatch z⟩
theorem dat_tup {xs : List V} : dat (.tup xs) := ⟨nt_tup, fun _ z => nomatch z⟩
theorem dat_dK {xs : List (Key × V)} : dat (.dK xs) := ⟨nt_dK, fun _ z => nomatch z⟩
theorem dat_dT {xs : List (List Key × V)} : dat (.dT xs) := ⟨nt_dT, fun _ z => nomatch z⟩
theorem dat_frz {o : Obj} {u : HO} : dat (.frz o u) := ⟨nt_frz, fun _ z => nomatch z⟩

/-- the object at c is o, a captured cell -/
def CellO (c : Addr) (o : Obj) : HO := .ext fun h => h.get? c = some o
theorem cellO_nt {c : Addr} {o : Obj} : nt (CellO c o) := nt_ext
/-- the object at f is a function of the code ci that captured cl; its code object stands at c -/
def CloO (f : Addr) (ci : CodeI) (cl : List (Str × Addr)) (c : Addr) : HO := .ext fun h => ∃ (od : Option Addr) (sl : Array (Option Value)) (doc pm ctv : Value),
  h.get? f = some (⟨.type "function", od, .func { name := ci.name, qualname := ci.qual, params := ci.params, body := ci.body, scope := ci.scope, globals := mainGlobals, closure := cl, defaults := .none, kwdefaults := .none, doc := doc, pyModule := pm, annotations := none, code := .ref c, closureTuple := ctv, builtins := builtinsNs }, sl⟩ : Obj)
theorem cloO_nt {f : Addr} {ci : CodeI} {cl : List (Str × Addr)} {c : Addr} : nt (CloO f ci cl c) := nt_ext
theorem codeO_nt {c : Addr} {q : Str} : nt (LamX.CodeO c q) := nt_ext
/-- what a function captured -/
structure CapsOk (fr : List Str) (cl : List (Str × Addr)) : Prop where
  mem : ∀ y c, cl.lookup y = some c → y ∈ fr
  inj : ∀ x y c, cl.lookup x = some c → cl.lookup y = some c → x = y

/-! ## a key of a dict -/
def keyOf : D → Option Key
  | .int i => some (.inl i)
  | .str x => some (.inr x)
  | _ => none
def keysOf : List D → Option (List Key)
  | [] => some []
  | d :: ds => match keyOf d, keysOf ds with
    | some k, some ks => some (k :: ks)
    | _, _ => none

/-! ## values stand for trees -/
mutual
inductive RepD (K : PySem.W.Frag) (H : Hp) : D → V → Prop
  | none : RepD K H .none .non
  | bool (b : Bool) : RepD K H (.bool b) (.bl b)
  | int (i : Int) : RepD K H (.int i) (.int i)
  | str (x : Str) : RepD K H (.str x) (.str x)
  | tuple {a : Addr} {vs : List V} {l : List D} : SqT K H a vs → vs.length ≤ sizeLine → RepDs K H l vs → RepD K H (.tuple l) (.ref a)
  | list {a : Addr} {vs : List V} {l : List D} : Rd H a (.lst vs) → vs.length ≤ sizeLine → RepDs K H l vs → RepD K H (.list l) (.ref a)
  | dK {a : Addr} {kvs : List (Key × V)} {l : List (D × D)} : Rd H a (.dK kvs) → RepK K H l kvs → RepD K H (.dict l) (.ref a)
  | dT {a : Addr} {kvs : List (List Key × V)} {l : List (D × D)} : Rd H a (.dT kvs) → RepT K H l kvs → RepD K H (.dict l) (.ref a)
inductive RepDs (K : PySem.W.Frag) (H : Hp) : List D → List V → Prop
  | nil : RepDs K H [] []
  | cons {d : D} {v : V} {ds : List D} {vs : List V} : RepD K H d v → RepDs K H ds vs → RepDs K H (d :: ds) (v :: vs)
inductive RepK (K : PySem.W.Frag) (H : Hp) : List (D × D) → List (Key × V) → Prop
  | nil : RepK K H [] []
  | cons {k d : D} {q : Key} {v : V} {ds : List (D × D)} {vs : List (Key × V)} : keyOf k = some q → RepD K H d v → RepK K H ds vs → RepK K H ((k, d) :: ds) ((q, v) :: vs)
inductive RepT (K : PySem.W.Frag) (H : Hp) : List (D × D) → List (List Key × V) → Prop
  | nil : RepT K H [] []
  | cons {ks : List D} {d : D} {q : List Key} {v : V} {ds : List (D × D)} {vs : List (List Key × V)} : keysOf ks = some q → RepD K H d v → RepT K H ds vs → RepT K H ((.tuple ks, d) :: ds) ((q, v) :: vs)
end

theorem SqL.le {K : PySem.W.Frag} {H H' : Hp} {a : Addr} {xs : List V} (e : Le H H') (h : SqL K H a xs) : SqL K H' a xs := by
  rcases h with (h | ⟨o, h⟩) | h
  · exact .inl (.inl (e _ _ h nt_lst))
  · exact .inl (.inr ⟨o, e _ _ h nt_frz⟩)
  · exact .inr h
theorem SqT.le {K : PySem.W.Frag} {H H' : Hp} {a : Addr} {xs : List V} (e : Le H H') (h : SqT K H a xs) : SqT K H' a xs := by
  rcases h with (h | ⟨o, h⟩) | h
  · exact .inl (.inl (e _ _ h nt_tup))
  · exact .inl (.inr ⟨o, e _ _ h nt_frz⟩)
  · exact .inr h
theorem Rd.le {H H' : Hp} {a : Addr} {u : HO} (e : Le H H') (n : nt u) (h : Rd H a u) : Rd H' a u := by
  rcases h with h | ⟨o, h⟩
  · exact .inl (e _ _ h n)
  · exact .inr ⟨o, e _ _ h nt_frz⟩

mutual
theorem RepD.le {K : PySem.W.Frag} {H H' : Hp} (e : Le H H') : ∀ {d : D} {v : V}, RepD K H d v → RepD K H' d v
  | _, _, .none => .none
  | _, _, .bool b => .bool b
  | _, _, .int i => .int i
  | _, _, .str x => .str x
  | _, _, .tuple s z r => .tuple (SqT.le e s) z (RepDs.le e r)
  | _, _, .list s z r => .list (Rd.le e nt_lst s) z (RepDs.le e r)
  | _, _, .dK s r => .dK (Rd.le e nt_dK s) (RepK.le e r)
  | _, _, .dT s r => .dT (Rd.le e nt_dT s) (RepT.le e r)
theorem RepDs.le {K : PySem.W.Frag} {H H' : Hp} (e : Le H H') : ∀ {d : List D} {v : List V}, RepDs K H d v → RepDs K H' d v
  | _, _, .nil => .nil
  | _, _, .cons a b => .cons (RepD.le e a) (RepDs.le e b)
theorem RepK.le {K : PySem.W.Frag} {H H' : Hp} (e : Le H H') : ∀ {d : List (D × D)} {v : List (Key × V)}, RepK K H d v → RepK K H' d v
  | _, _, .nil => .nil
  | _, _, .cons k a b => .cons k (RepD.le e a) (RepK.le e b)
theorem RepT.le {K : PySem.W.Frag} {H H' : Hp} (e : Le H H') : ∀ {d : List (D × D)} {v : List (List Key × V)}, RepT K H d v → RepT K H' d v
  | _, _, .nil => .nil
  | _, _, .cons k a b => .cons k (RepD.le e a) (RepT.le e b)
end

/-- a captured cell's value: of the running def's own frame, or known to the heap -/
abbrev OwnV := Addr → V → Prop

mutual
inductive RepU (G : Gd) (H : Hp) (ρ : List Addr) (own : OwnV) : U → V → Prop
  | d {x : D} {v : V} : RepD G.K H x v → RepU G H ρ own (.d x) v
  | ref {n : Nat} {a : Addr} : ρ[n]? = some a → RepU G H ρ own (.ref n) (.ref a)
  | fn {f : Str} {a : Addr} : G.fnA f = some a → RepU G H ρ own (.fn f) (.ref a)
  | tup {a : Addr} {vs : List V} {l : List U} : SqT G.K H a vs → vs.length ≤ sizeLine → RepUs G H ρ own l vs → RepU G H ρ own (.tup l) (.ref a)
  | cloO {k : Nat} {ci : CodeI} {cl : List (Str × Addr)} {f c : Addr} {caps : List U} {vs : List V} : G.cod k = some ci → H f = some (CloO f ci cl c) → H c = some (LamX.CodeO c ci.qual) → CapsOk ci.fr cl →
      Paired (fun (y : Str) (v : V) => ∃ c, cl.lookup y = some c ∧ own c v) ci.fr vs → RepUs G H ρ own caps vs → RepU G H ρ own (.clo true k caps) (.ref f)
  | cloH {k : Nat} {ci : CodeI} {cl : List (Str × Addr)} {f c : Addr} {caps : List U} {vs : List V} : G.cod k = some ci → H f = some (CloO f ci cl c) → H c = some (LamX.CodeO c ci.qual) → CapsOk ci.fr cl →
      Paired (fun (y : Str) (v : V) => ∃ c o u, cl.lookup y = some c ∧ H c = some (CellO c o) ∧ o.data = .cell (some u) ∧ RelV v u) ci.fr vs → RepUs G H ρ own caps vs → RepU G H ρ own (.clo false k caps) (.ref f)
inductive RepUs (G : Gd) (H : Hp) (ρ : List Addr) (own : OwnV) : List U → List V → Prop
  | nil : RepUs G H ρ own [] []
  | cons {d : U} {v : V} {ds : List U} {vs : List V} : RepU G H ρ own d v → RepUs G H ρ own ds vs → RepUs G H ρ own (d :: ds) (v :: vs)
end

mutual
theorem RepU.le {G : Gd} {H H' : Hp} {ρ ρ' : List Addr} {own own' : OwnV} (e : Le H H') (p : ∀ (n : Nat) (a : Addr), ρ[n]? = some a → ρ'[n]? = some a) (ow : ∀ c v, own c v → own' c v) : ∀ {d : U} {v : V}, RepU G H ρ own d v → RepU G H' ρ' own' d v
  | _, _, .d r => .d (r.le e)
  | _, _, .ref h => .ref (p _ _ h)
  | _, _, .fn h => .fn h
  | _, _, .tup s z r => .tup (SqT.le e s) z (RepUs.le e p ow r)
  | _, _, .cloO k h h' co q r => .cloO k (e _ _ h cloO_nt) (e _ _ h' codeO_nt) co (Paired.mapP q fun _ _ ⟨c, z1, z2⟩ => ⟨c, z1, ow _ _ z2⟩) (RepUs.le e p ow r)
  | _, _, .cloH k h h' co q r => .cloH k (e _ _ h cloO_nt) (e _ _ h' codeO_nt) co (Paired.mapP q fun _ _ ⟨c, o, u, z1, z2, z3⟩ => ⟨c, o, u, z1, e _ _ z2 cellO_nt, z3⟩) (RepUs.le e p ow r)
theorem RepUs.le {G : Gd} {H H' : Hp} {ρ ρ' : List Addr} {own own' : OwnV} (e : Le H H') (p : ∀ (n : Nat) (a : Addr), ρ[n]? = some a → ρ'[n]? = some a) (ow : ∀ c v, own c v → own' c v) : ∀ {d : List U} {v : List V}, RepUs G H ρ own d v → RepUs G H' ρ' own' d v
  | _, _, .nil => .nil
  | _, _, .cons a b => .cons (RepU.le e p ow a) (RepUs.le e p ow b)
end

/-! ## what is hidden; steps -/
/-- the part of the heap that stays: neither hidden by callers nor one's own mutable -/
def vis (B ρ : List Addr) (H : Hp) : Hp := fun a => if a ∈ B ∨ a ∈ ρ then none else H a
theorem vis_some {B ρ : List Addr} {H : Hp} {a : Addr} {o : HO} (h : vis B ρ H a = some o) : a ∉ B ∧ a ∉ ρ ∧ H a = some o := by
  unfold vis at h
  split at h
  · cases h
  · rename_i n
    exact ⟨fun z => n (.inl z), fun z => n (.inr z), h⟩
theorem vis_of {B ρ : List Addr} {H : Hp} {a : Addr} {o : HO} (h1 : a ∉ B) (h2 : a ∉ ρ) (h : H a = some o) : vis B ρ H a = some o := by
  unfold vis
  rw [if_neg (fun z => z.elim h1 h2)]
  exact h
theorem vis_le {B ρ : List Addr} {H : Hp} : Le (vis B ρ H) H := fun _ _ h _ => (vis_some h).2.2

structure Stp (ρ : List Addr) (H : Hp) (ρ' : List Addr) (H' : Hp) : Prop where
  keep : ∀ b o, H b = some o → b ∉ ρ → nt o → H' b = some o
  dom : ∀ b, H' b = none → H b = none
  pre : ∀ (n : Nat) (a : Addr), ρ[n]? = some a → ρ'[n]? = some a
  new : ∀ b, b ∈ ρ' → b ∈ ρ ∨ H b = none
theorem Stp.refl (ρ : List Addr) (H : Hp) : Stp ρ H ρ H := ⟨fun _ _ h _ _ => h, fun _ h => h, fun _ _ h => h, fun _ h => .inl h⟩
theorem Stp.trans {ρ ρ1 ρ2 : List Addr} {H H1 H2 : Hp} (a : Stp ρ H ρ1 H1) (b : Stp ρ1 H1 ρ2 H2) : Stp ρ H ρ2 H2 where
  keep := fun c o h n t => b.keep c o (a.keep c o h n t) (fun z => by
    rcases a.new c z with z | z
    · exact n z
    · rw [z] at h; cases h) t
  dom := fun c h => a.dom c (b.dom c h)
  pre := fun n x h => b.pre n x (a.pre n x h)
  new := fun c h => by
    rcases b.new c h with z | z
    · exact a.new c z
    · exact .inr (a.dom c z)
theorem upd_dom {H : Hp} {p : Addr} {o : HO} {b : Addr} (h : upd H p o b = none) : H b = none := by
  by_cases e : b = p
  · rw [e, upd_same] at h; cases h
  · rw [upd_ne e] at h; exact h
theorem Stp.le {B ρ ρ' : List Addr} {H H' : Hp} (s : Stp ρ H ρ' H') : Le (vis B ρ H) (vis B ρ' H') := fun b o h t => by
  obtain ⟨h1, h2, h3⟩ := vis_some h
  refine vis_of h1 (fun z => ?_) (s.keep b o h3 h2 t)
  rcases s.new b z with z | z
  · exact h2 z
  · rw [z] at h3; cases h3
/-- a new object -/
theorem Stp.laid {ρ : List Addr} {H : Hp} {p : Addr} {o : HO} (h : H p = none) : Stp ρ H ρ (upd H p o) :=
  ⟨fun b o' e _ _ => by rw [upd_ne (ne_of_none e h)]; exact e, fun _ e => upd_dom e, fun _ _ h => h, fun _ h => .inl h⟩
/-- a new mutable object -/
theorem Stp.laidRef {ρ : List Addr} {H : Hp} {p : Addr} {o : HO} (h : H p = none) : Stp ρ H (ρ ++ [p]) (upd H p o) :=
  ⟨fun b o' e _ _ => by rw [upd_ne (ne_of_none e h)]; exact e, fun _ e => upd_dom e, fun n a e => by
    have hn : n < ρ.length := (List.getElem?_eq_some_iff.mp e).1
    rw [List.getElem?_append_left hn]; exact e, fun b hb => by
    rcases List.mem_append.mp hb with z | z
    · exact .inl z
    · have e : b = p := by simpa using z
      rw [e]; exact .inr h⟩
/-- a mutable object is written -/
theorem Stp.write {ρ : List Addr} {H : Hp} {a : Addr} {o : HO} (h : a ∈ ρ) : Stp ρ H ρ (upd H a o) :=
  ⟨fun b o' e hb _ => by rw [upd_ne (fun z => hb (by rw [z]; exact h))]; exact e, fun _ e => upd_dom e, fun _ _ h => h, fun _ h => .inl h⟩

/-! ## the state -/
abbrev OwnS := L2.St → OwnV
def ownV (X : Cx) : OwnS := fun σ c v => ∃ (j : Nat) (x : Str), X.N[j]? = some x ∧ X.env.cells.lookup x = some c ∧ σ[j]? = some (some v)
def ownVold (X : Cx) (σ : L2.St) : OwnV := fun c v => ∃ (j : Nat) (x : Str), X.N[j]? = some x ∧ X.env.cells.lookup x = some c ∧ σ[j]? = some (some v)

inductive RepC (G : Gd) (H : Hp) (ρ : List Addr) (own : OwnV) : Cell → HO → Prop
  | lst {l : List U} {vs : List V} : vs.length ≤ sizeLine → RepUs G H ρ own l vs → RepC G H ρ own (.lst l) (.lst vs)
  | dK {l : List (D × U)} {kvs : List (Key × V)} : Paired (fun (p : D × U) (q : Key × V) => keyOf p.1 = some q.1 ∧ RepU G H ρ own p.2 q.2) l kvs → RepC G H ρ own (.dct l) (.dK kvs)
  | dT {l : List (D × U)} {kvs : List (List Key × V)} : Paired (fun (p : D × U) (q : List Key × V) => (∃ ks, p.1 = .tuple ks ∧ keysOf ks = some q.1) ∧ RepU G H ρ own p.2 q.2) l kvs → RepC G H ρ own (.dct l) (.dT kvs)
theorem RepC.le {G : Gd} {H H' : Hp} {ρ ρ' : List Addr} {own own' : OwnV} (e : Le H H') (p : ∀ (n : Nat) (a : Addr), ρ[n]? = some a → ρ'[n]? = some a) (ow : ∀ c v, own c v → own' c v) {c : Cell} {o : HO} (r : RepC G H ρ own c o) : RepC G H' ρ' own' c o := by
  cases r with
  | lst z r => exact .lst z (r.le e p ow)
  | dK r => exact .dK (Paired.mapP r fun _ _ z => ⟨z.1, z.2.le e p ow⟩)
  | dT r => exact .dT (Paired.mapP r fun _ _ z => ⟨z.1, z.2.le e p ow⟩)
theorem RepC.nt {G : Gd} {H : Hp} {ρ : List Addr} {own : OwnV} {c : Cell} {o : HO} (r : RepC G H ρ own c o) : TT.nt o := by
  cases r with
  | lst z r => exact nt_lst
  | dK r => exact nt_dK
  | dT r => exact nt_dT

/-- the store's cells stand in the heap -/
structure RelS (G : Gd) (B ρ : List Addr) (own : OwnV) (st : Sto) (H : Hp) : Prop where
  len : st.length = ρ.length
  nd : ρ.Nodup
  cell : ∀ (n : Nat) c, st[n]? = some c → ∃ a o, ρ[n]? = some a ∧ H a = some o ∧ RepC G (vis B ρ H) ρ own c o
  hid : ∀ b ∈ B, b ∉ ρ ∧ ∃ o, H b = some o ∧ dat o
  tabs : NdefX.TabsN G.T H
structure Rel (oS : OwnS) (G : Gd) (B ρ : List Addr) (en : Nv) (st : Sto) (σ : L2.St) (H : Hp) : Prop where
  sto : RelS G B ρ (oS σ) st H
  len : en.length = σ.length
  env : ∀ (i : Nat) u, en[i]? = some (some u) → ∃ v, σ[i]? = some (some v) ∧ RepU G (vis B ρ H) ρ (oS σ) u v
theorem RelS.own {G : Gd} {B ρ : List Addr} {own own' : OwnV} {st : Sto} {H : Hp} (r : RelS G B ρ own st H) (ow : ∀ c v, own c v → own' c v) : RelS G B ρ own' st H :=
  ⟨r.len, r.nd, fun n c h => by
    obtain ⟨a, o, h1, h2, h3⟩ := r.cell n c h
    exact ⟨a, o, h1, h2, h3.le (Le.refl _) (fun _ _ z => z) ow⟩, r.hid, r.tabs⟩
theorem RelS.at {G : Gd} {B ρ : List Addr} {own : OwnV} {st : Sto} {H : Hp} (r : RelS G B ρ own st H) {n : Nat} {a : Addr} (h : ρ[n]? = some a) : ∃ c o, st[n]? = some c ∧ H a = some o ∧ RepC G (vis B ρ H) ρ own c o := by
  have hn : n < st.length := by rw [r.len]; exact (List.getElem?_eq_some_iff.mp h).1
  obtain ⟨a', o, h1, h2, h3⟩ := r.cell n st[n] (List.getElem?_eq_getElem hn)
  rw [h] at h1
  cases h1
  exact ⟨st[n], o, List.getElem?_eq_getElem hn, h2, h3⟩
theorem RelS.mem {G : Gd} {B ρ : List Addr} {own : OwnV} {st : Sto} {H : Hp} (r : RelS G B ρ own st H) {a : Addr} (h : a ∈ ρ) : ∃ o, H a = some o ∧ TT.nt o := by
  obtain ⟨n, hn⟩ := List.getElem?_of_mem h
  obtain ⟨c, o, _, h2, h3⟩ := r.at hn
  exact ⟨o, h2, h3.nt⟩
/-- a new object that stays -/
theorem RelS.laid {G : Gd} {B ρ : List Addr} {own : OwnV} {st : Sto} {H : Hp} (r : RelS G B ρ own st H) {p : Addr} {o : HO} (h : H p = none) : RelS G B ρ own st (upd H p o) := by
  have s : Stp ρ H ρ (upd H p o) := Stp.laid h
  refine ⟨r.len, r.nd, fun n c hc => ?_, fun b hb => ?_, r.tabs.ext fun b o' e => by rw [upd_ne (ne_of_none e h)]; exact e⟩
  · obtain ⟨a, o', h1, h2, h3⟩ := r.cell n c hc
    exact ⟨a, o', h1, by rw [upd_ne (ne_of_none h2 h)]; exact h2, h3.le s.le (fun _ _ z => z) fun _ _ z => z⟩
  · obtain ⟨h1, o', h2, h3⟩ := r.hid b hb
    exact ⟨h1, o', by rw [upd_ne (ne_of_none h2 h)]; exact h2, h3⟩
theorem RelS.fresh {G : Gd} {B ρ : List Addr} {own : OwnV} {st : Sto} {H : Hp} (r : RelS G B ρ own st H) {p : Addr} (h : H p = none) : p ∉ B ∧ p ∉ ρ :=
  ⟨fun z => (by
    obtain ⟨_, o, e, _⟩ := r.hid p z
    rw [h] at e; cases e), fun z => (by
    obtain ⟨o, e, _⟩ := r.mem z
    rw [h] at e; cases e)⟩
theorem Rel.laid {oS : OwnS} {G : Gd} {B ρ : List Addr} {en : Nv} {st : Sto} {σ : L2.St} {H : Hp} (r : Rel oS G B ρ en st σ H) {p : Addr} {o : HO} (h : H p = none) : Rel oS G B ρ en st σ (upd H p o) :=
  ⟨r.sto.laid h, r.len, fun i u hu => by
    obtain ⟨v, h1, h2⟩ := r.env i u hu
    exact ⟨v, h1, h2.le (Stp.laid h).le (fun _ _ z => z) fun _ _ z => z⟩⟩
theorem RepU.stp {oS : OwnS} {G : Gd} {B ρ ρ' : List Addr} {σ : L2.St} {H H' : Hp} {u : U} {v : V} (s : Stp ρ H ρ' H') (r : RepU G (vis B ρ H) ρ (oS σ) u v) : RepU G (vis B ρ' H') ρ' (oS σ) u v := r.le s.le s.pre fun _ _ z => z
theorem RepUs.stp {oS : OwnS} {G : Gd} {B ρ ρ' : List Addr} {σ : L2.St} {H H' : Hp} {u : List U} {v : List V} (s : Stp ρ H ρ' H') (r : RepUs G (vis B ρ H) ρ (oS σ) u v) : RepUs G (vis B ρ' H') ρ' (oS σ) u v := r.le s.le s.pre fun _ _ z => z
/-! ## what is asked -/
def ExcR (oS : OwnS) (G : Gd) (B ρ' : List Addr) (σ : L2.St) (H' : Hp) (c : Str) (u : Option U) (C : Addr) (d : Option Addr) : Prop := G.clsA c = some C ∧
  match u with
  | some u => ∃ dd v, d = some dd ∧ H' dd = some (.xd [(G.clsF c, v)]) ∧ RepU G (vis B ρ' H') ρ' (oS σ) u v
  | none => d = none
/-- behind an expression -/
def PostE {α : Type} (oS : OwnS) (G : Gd) (W : WX) (B ρ : List Addr) (en : Nv) (σ : L2.St) (H : Hp) (Q : α → List Addr → Hp → Sto → Prop) : Res α → Prop
  | .ok u st' => ∀ ρ' H', Stp ρ H ρ' H' → Rel oS G B ρ' en st' σ H' → Q u ρ' H' st'
  | .exn c u st' => ∀ ρ' H' (C : Addr) (d : Option Addr), Stp ρ H ρ' H' → RelS G B ρ' (oS σ) st' H' → ExcR oS G B ρ' σ H' c u C d → W (.ref C) d σ H'
  | .bad => False
def Res.bind {α β : Type} : Res α → (α → Sto → Res β) → Res β
  | .ok a s, k => k a s
  | .exn c u s, _ => .exn c u s
  | .bad, _ => .bad
section
variable {α β : Type} {X : Cx} {oS : OwnS} {G : Gd} {W : WX} {B ρ ρ' : List Addr} {en : Nv} {σ : L2.St} {H H' : Hp}
theorem PostE.step {Q : α → List Addr → Hp → Sto → Prop} {r : Res α} (s : Stp ρ H ρ' H') (h : PostE oS G W B ρ en σ H Q r) : PostE oS G W B ρ' en σ H' Q r := by
  cases r with
  | ok u st => exact fun ρ2 H2 s2 r2 => h ρ2 H2 (s.trans s2) r2
  | exn c u st => exact fun ρ2 H2 C d s2 r2 => h ρ2 H2 C d (s.trans s2) r2
  | bad => exact h
theorem PostE.mono {Q Q' : α → List Addr → Hp → Sto → Prop} {r : Res α} (h : PostE oS G W B ρ en σ H Q r) (i : ∀ u st ρ' H', r = .ok u st → Stp ρ H ρ' H' → Rel oS G B ρ' en st σ H' → Q u ρ' H' st → Q' u ρ' H' st) : PostE oS G W B ρ en σ H Q' r := by
  cases r with
  | ok u st => exact fun ρ2 H2 s2 r2 => i u st ρ2 H2 rfl s2 r2 (h ρ2 H2 s2 r2)
  | exn c u st => exact h
  | bad => exact h
theorem PostE.bind {Q : β → List Addr → Hp → Sto → Prop} {r : Res α} {k : α → Sto → Res β} (h : PostE oS G W B ρ en σ H Q (r.bind k)) :
    PostE oS G W B ρ en σ H (fun u ρ1 H1 st1 => PostE oS G W B ρ1 en σ H1 Q (k u st1)) r := by
  cases r with
  | ok u st => exact fun ρ2 H2 s2 r2 => PostE.step s2 h
  | exn c u st => exact h
  | bad => exact h
end
abbrev SemE := Nv → Sto → Res U
abbrev SemA := Nv → Sto → Res (List U)
abbrev SemT := Nv → Sto → Res Bool
def rdE (oS : OwnS) (G : Gd) (W : WX) (f : SemE) : TE := fun σ H Q => ∃ B ρ en st, Rel oS G B ρ en st σ H ∧
  PostE oS G W B ρ en σ H (fun u ρ' H' _ => ∀ v, RepU G (vis B ρ' H') ρ' (oS σ) u v → Q v H') (f en st)
def rdA (oS : OwnS) (G : Gd) (W : WX) (f : SemA) : TA := fun σ H Q => ∃ B ρ en st, Rel oS G B ρ en st σ H ∧
  PostE oS G W B ρ en σ H (fun u ρ' H' _ => ∀ v, RepUs G (vis B ρ' H') ρ' (oS σ) u v → Q v H') (f en st)
def rdT (oS : OwnS) (G : Gd) (W : WX) (f : SemT) : TT := fun σ H Q => ∃ B ρ en st, Rel oS G B ρ en st σ H ∧
  PostE oS G W B ρ en σ H (fun u ρ' H' _ => Q u H') (f en st)
/-! ## the judgements -/
def SE (X : Cx) (oS : OwnS) (G : Gd) (W : WX) (e : Expr) (f : SemE) : Prop := PE X e (rdE oS G W f)
def SA (X : Cx) (oS : OwnS) (G : Gd) (W : WX) (es : List Expr) (f : SemA) : Prop := PA X es (rdA oS G W f)
def ST (X : Cx) (oS : OwnS) (G : Gd) (W : WX) (e : Expr) (f : SemT) : Prop := PT X e (rdT oS G W f)
theorem PE.imp {X : Cx} {e : Expr} {t t' : TE} (h : PE X e t) (i : ∀ σ H Q, t' σ H Q → t σ H Q) : PE X e t' := ⟨fun pins s σ H Q I w => h.run pins s σ H Q I (i σ H Q w)⟩
theorem PT.imp {X : Cx} {e : Expr} {t t' : TT} (h : PT X e t) (i : ∀ σ H Q, t' σ H Q → t σ H Q) : PT X e t' := ⟨fun pins s σ H Q I w => h.run pins s σ H Q I (i σ H Q w)⟩
theorem PA.imp {X : Cx} {e : List Expr} {t t' : TA} (h : PA X e t) (i : ∀ σ H Q, t' σ H Q → t σ H Q) : PA X e t' := ⟨fun pos pins s σ H Q I w => h.run pos pins s σ H Q I (i σ H Q w)⟩

/-! ## names, constants -/
section
variable {X : Cx} {oS : OwnS} {G : Gd} {W : WX}
def mVar (i : Nat) : SemE := fun en st => match en[i]? with
  | some (some u) => .ok u st
  | _ => .bad
def mC (d : D) : SemE := fun _ st => .ok (.d d) st
theorem se_var (i : Nat) {x : Str} {pos : Pos} (hN : X.N[i]? = some x) (hv : Vis X.env.scope x) (hd : (x == ("__debug__" : Str)) = false := by decide) (hcd : (x == ("__classdict__" : Str)) = false := by decide) : SE X oS G W (.Name x pos) (mVar i) := by
  refine PE.imp (pe_var hN hv hd hcd) fun σ H Q ⟨B, ρ, en, st, R, h⟩ => ?_
  unfold mVar at h
  split at h
  · rename_i u hu
    obtain ⟨v, h1, h2⟩ := R.env i u hu
    exact ⟨v, h1, h ρ H (Stp.refl _ _) R v h2⟩
  · exact h.elim
theorem se_c {e : Expr} {d : D} {v : V} (h : PE X e (tC v)) (r : ∀ H, RepD G.K H d v) : SE X oS G W e (mC d) := by
  refine PE.imp h fun σ H Q ⟨B, ρ, en, st, R, h⟩ => ?_
  exact h ρ H (Stp.refl _ _) R v (.d (r _))
theorem se_int {i j pos} : SE X oS G W (.Constant (.int i) j pos) (mC (.int i)) := se_c pe_int fun _ => .int i
theorem se_bool {i j pos} : SE X oS G W (.Constant (.bool i) j pos) (mC (.bool i)) := se_c pe_bl fun _ => .bool i
theorem se_str {i j pos} : SE X oS G W (.Constant (.str i) j pos) (mC (.str i)) := se_c pe_str fun _ => .str i
theorem se_none {j pos} : SE X oS G W (.Constant .none j pos) (mC .none) := se_c pe_non fun _ => .none
/-- a module's constant -/
theorem se_gl {x : Str} {d : D} {v : V} {u : Value} {pos : Pos} (hg : Gl X x) (hm : X.mg x = some u) (rv : RelV v u) (r : ∀ H, RepD G.K H d v) (hd : (x == ("__debug__" : Str)) = false := by decide) : SE X oS G W (.Name x pos) (mC d) := se_c (pe_glob hg hm rv hd) r
/-- a def as a value -/
theorem se_fn {x : Str} {a : Addr} {pos : Pos} (hg : Gl X x) (hm : X.mg x = some (.ref a)) (ha : G.fnA x = some a) (hd : (x == ("__debug__" : Str)) = false := by decide) : SE X oS G W (.Name x pos) (fun _ st => .ok (.fn x) st) := by
  refine PE.imp (pe_glob hg hm (show RelV (V.ref a) _ from rfl) hd) fun σ H Q ⟨B, ρ, en, st, R, h⟩ => ?_
  exact h ρ H (Stp.refl _ _) R _ (.fn ha)

/-! ## lists of arguments -/
def mNil : SemA := fun _ st => .ok [] st
def mCons (f : SemE) (g : SemA) : SemA := fun en st => (f en st).bind fun u st => (g en st).bind fun us st => .ok (u :: us) st
theorem sa_nil : SA X oS G W [] mNil := PA.imp pa_nil fun σ H Q ⟨B, ρ, en, st, R, h⟩ => h ρ H (Stp.refl _ _) R [] .nil
theorem sa_cons {e : Expr} {es : List Expr} {f : SemE} {g : SemA} (he : SE X oS G W e f) (hs : SA X oS G W es g) (hst : starEach (e :: es) X.env = (false, eval e X.env) :: starEach es X.env := by rfl) : SA X oS G W (e :: es) (mCons f g) := by
  refine PA.imp (pa_cons he hs hst) fun σ H Q ⟨B, ρ, en, st, R, h⟩ => ?_
  refine ⟨B, ρ, en, st, R, (PostE.bind h).mono fun u st1 ρ1 H1 _ s1 R1 h1 v rv => ?_⟩
  refine ⟨B, ρ1, en, st1, R1, (PostE.bind h1).mono fun us st2 ρ2 H2 _ s2 R2 h2 vs rvs => ?_⟩
  exact h2 ρ2 H2 (Stp.refl _ _) R2 (v :: vs) (.cons (rv.stp s2) rvs)

/-! ## operators -/
/-- what a two-place operation is worth, as the layer's reading r lets it be shown -/
def OpS (oS : OwnS) (G : Gd) (W : WX) (r : R2) (g : U → U → Sto → Res U) : Prop :=
  ∀ (B ρ : List Addr) (en : Nv) (st : Sto) (σ : L2.St) (H : Hp) (u w : U) (x y : V) (Q : VK), Rel oS G B ρ en st σ H → RepU G (vis B ρ H) ρ (oS σ) u x → RepU G (vis B ρ H) ρ (oS σ) w y →
    PostE oS G W B ρ en σ H (fun u ρ' H' _ => ∀ v, RepU G (vis B ρ' H') ρ' (oS σ) u v → Q v H') (g u w st) → r x y H Q
def mOp (g : U → U → Sto → Res U) (fa fb : SemE) : SemE := fun en st => (fa en st).bind fun u st => (fb en st).bind fun w st => g u w st
theorem rd_op {r : R2} {g : U → U → Sto → Res U} {fa fb : SemE} (hg : OpS oS G W r g) {σ : L2.St} {H : Hp} {Q : VK} (h : rdE oS G W (mOp g fa fb) σ H Q) : tOp r (rdE oS G W fa) (rdE oS G W fb) σ H Q := by
  obtain ⟨B, ρ, en, st, R, h⟩ := h
  refine ⟨B, ρ, en, st, R, (PostE.bind h).mono fun u st1 ρ1 H1 _ s1 R1 h1 v rv => ?_⟩
  refine ⟨B, ρ1, en, st1, R1, (PostE.bind h1).mono fun w st2 ρ2 H2 _ s2 R2 h2 y ry => ?_⟩
  exact hg B ρ2 en st2 σ H2 u w v y Q R2 (rv.stp s2) ry h2
theorem se_op {op : Operator} {r : R2} {g : U → U → Sto → Res U} {a b : Expr} {fa fb : SemE} {pos : Pos} (ho : OpR X (binaryOp op) r) (hg : OpS oS G W r g) (ha : SE X oS G W a fa) (hb : SE X oS G W b fb) : SE X oS G W (.BinOp a op b pos) (mOp g fa fb) :=
  PE.imp (pe_op ho ha hb) fun _ _ _ h => rd_op hg h
theorem se_cmp {op : CmpOp} {r : R2} {g : U → U → Sto → Res U} {a b : Expr} {fa fb : SemE} {pos : Pos} (ho : OpR X (compareOp op) r) (hg : OpS oS G W r g) (ha : SE X oS G W a fa) (hb : SE X oS G W b fb) (hm : behindInMarks op b = false) : SE X oS G W (.Compare a [op] [b] pos) (mOp g fa fb) :=
  PE.imp (pe_cmpR ho ha hb hm) fun _ _ _ h => rd_op hg h
theorem OpR.or {f : Value → Value → Sem Value} {r r' : R2} (h : OpR X f r) (h' : OpR X f r') : OpR X f (fun x y H Q => r x y H Q ∨ r' x y H Q) := fun pins s σ H x y v u Q I rx ry q => q.elim (h pins s σ H x y v u Q I rx ry) (h' pins s σ H x y v u Q I rx ry)
theorem OpR.inv {f : Value → Value → Sem Value} {r r' : R2} (h : OpR X f r) (i : ∀ pins s σ H x y Q, Inv X pins σ H s → r' x y H Q → r x y H Q) : OpR X f r' := fun pins s σ H x y v u Q I rx ry q => h pins s σ H x y v u Q I rx ry (i pins s σ H x y Q I q)
end
end TT
set_option Elab.async false
set_option linter.all false
set_option maxRecDepth 100000
set_option maxHeartbeats 2000000
namespace TT
open PySem PySem.Spec PyProof.Rows L2

/-! ## operators on trees -/
/-- a result r is handed out: something that stands already, or one new object -/
def Out (K : PySem.W.Frag) (Hv H : Hp) (r : D) (Q : VK) : Prop := (∀ v, RepD K Hv r v → Q v H) ∧ ∀ p o v, H p = none → RepD K (upd Hv p o) r v → Q v (upd H p o)
def rD2 (K : PySem.W.Frag) (g : D → D → Option D) : R2 := fun x y H Q => ∃ Hv d e r, Le Hv H ∧ RepD K Hv d x ∧ RepD K Hv e y ∧ g d e = some r ∧ Out K Hv H r Q
def gD2 (g : D → D → Option D) : U → U → Sto → Res U := fun u w st => match u, w with
  | .d a, .d b => (match g a b with
    | some r => .ok (.d r) st
    | none => .bad)
  | _, _ => .bad
theorem le_upd {B ρ : List Addr} {H : Hp} {p : Addr} {o : HO} (h1 : p ∉ B) (h2 : p ∉ ρ) : Le (upd (vis B ρ H) p o) (vis B ρ (upd H p o)) := fun b o' e _ => by
  by_cases hb : b = p
  · subst hb
    rw [upd_same] at e
    exact vis_of h1 h2 (by rw [upd_same]; exact e)
  · rw [upd_ne hb] at e
    obtain ⟨q1, q2, q3⟩ := vis_some e
    exact vis_of q1 q2 (by rw [upd_ne hb]; exact q3)
section
variable {X : Cx} {oS : OwnS} {G : Gd} {W : WX}
/-- what is handed out is what the wish behind asks -/
theorem out_of {B ρ : List Addr} {en : Nv} {st : Sto} {σ : L2.St} {H : Hp} {r : D} {Q : VK} (R : Rel oS G B ρ en st σ H) (h : PostE oS G W B ρ en σ H (fun u ρ' H' _ => ∀ v, RepU G (vis B ρ' H') ρ' (oS σ) u v → Q v H') (.ok (.d r) st)) :
    Out G.K (vis B ρ H) H r Q := by
  refine ⟨fun v rv => h ρ H (Stp.refl _ _) R v (.d rv), fun p o v hp rv => ?_⟩
  have f := R.sto.fresh hp
  exact h ρ (upd H p o) (Stp.laid hp) (R.laid hp) v (.d (rv.le (le_upd f.1 f.2)))
theorem ops_D2 {g : D → D → Option D} : OpS oS G W (rD2 G.K g) (gD2 g) := by
  intro B ρ en st σ H u w x y Q R ru rw' h
  unfold gD2 at h
  split at h
  · rename_i a b
    split at h
    · rename_i r hr
      cases ru with
      | d ru => cases rw' with
        | d rw' => exact ⟨vis B ρ H, a, b, r, vis_le, ru, rw', hr, out_of R h⟩
    · exact h.elim
  · exact h.elim

/-! ### numbers, texts, tuples, lists: + -/
def addD : D → D → Option D
  | .int i, .int j => some (.int (i + j))
  | .str x, .str y => if x.length + y.length ≤ sizeLine then some (.str (x ++ y)) else none
  | .tuple a, .tuple b => if a.length + b.length ≤ sizeLine then some (.tuple (a ++ b)) else none
  | .list a, .list b => if a.length + b.length ≤ sizeLine then some (.list (a ++ b)) else none
  | _, _ => none
theorem RepDs.length {K : PySem.W.Frag} {H : Hp} : ∀ {ds : List D} {vs : List V}, RepDs K H ds vs → ds.length = vs.length
  | _, _, .nil => rfl
  | _, _, .cons _ b => by rw [List.length_cons, List.length_cons, RepDs.length b]
theorem RepDs.append {K : PySem.W.Frag} {H : Hp} : ∀ {ds es : List D} {vs us : List V}, RepDs K H ds vs → RepDs K H es us → RepDs K H (ds ++ es) (vs ++ us)
  | _, _, _, _, .nil, h => h
  | _, _, _, _, .cons a b, h => .cons a (RepDs.append b h)
theorem RepDs.take {K : PySem.W.Frag} {H : Hp} : ∀ {ds : List D} {vs : List V} (n : Nat), RepDs K H ds vs → RepDs K H (ds.take n) (vs.take n)
  | _, _, 0, _ => .nil
  | _, _, _ + 1, .nil => .nil
  | _, _, n + 1, .cons a b => .cons a (RepDs.take n b)
theorem RepDs.drop {K : PySem.W.Frag} {H : Hp} : ∀ {ds : List D} {vs : List V} (n : Nat), RepDs K H ds vs → RepDs K H (ds.drop n) (vs.drop n)
  | _, _, 0, h => h
  | _, _, _ + 1, .nil => .nil
  | _, _, n + 1, .cons _ b => RepDs.drop n b
theorem RepDs.get {K : PySem.W.Frag} {H : Hp} : ∀ {ds : List D} {vs : List V} {i : Nat} {d : D}, RepDs K H ds vs → ds[i]? = some d → ∃ v, vs[i]? = some v ∧ RepD K H d v
  | _, _, _, _, .nil, e => by simp at e
  | _, _, 0, _, .cons a _, e => by simp at e; subst e; exact ⟨_, rfl, a⟩
  | _, _, i + 1, d, .cons _ b, e => by
    obtain ⟨v, h1, h2⟩ := RepDs.get (i := i) (d := d) b (by simpa using e)
    exact ⟨v, by simpa using h1, h2⟩
theorem RepDs.getV {K : PySem.W.Frag} {H : Hp} : ∀ {ds : List D} {vs : List V} {i : Nat} {v : V}, RepDs K H ds vs → vs[i]? = some v → ∃ d, ds[i]? = some d ∧ RepD K H d v
  | _, _, _, _, .nil, e => by simp at e
  | _, _, 0, _, .cons a _, e => by simp at e; subst e; exact ⟨_, rfl, a⟩
  | _, _, i + 1, d, .cons _ b, e => by
    obtain ⟨v, h1, h2⟩ := RepDs.getV (i := i) (v := d) b (by simpa using e)
    exact ⟨v, by simpa using h1, h2⟩
theorem Inv.rdL {pins : List (Addr × Obj)} {s : Shared} {σ : L2.St} {H : Hp} {l : Addr} {xs : List V} (I : Inv X pins σ H s) (h : Rd H l (.lst xs)) :
    xs.length ≤ sizeLine ∧ ∃ (its : List Value) (n : Nat), Vals xs its ∧ xs.length = its.length ∧ s.heap.get? l = some { cls := .type "list", data := .seq its.toArray n } := by
  obtain ⟨z, its, n, r, e⟩ := h.ok I.hok
  exact ⟨z, its, n, r, r.length, e⟩
theorem op_catL : OpR X (binaryOp .Add) (fun x y H Q => ∃ l b xs zs, x = .ref l ∧ y = .ref b ∧ Rd H l (.lst xs) ∧ Rd H b (.lst zs) ∧ xs.length + zs.length ≤ sizeLine ∧ ∀ p, H p = none → Q (.ref p) (upd H p (.lst (xs ++ zs)))) := by
  intro pins s σ H x y v u Q I rx ry h
  obtain ⟨l, b, xs, zs, rfl, rfl, hH, hB, hz, q⟩ := h
  cases rx
  cases ry
  obtain ⟨z, its, n, r, hl, e⟩ := TT.Inv.rdL I hH
  obtain ⟨z2, its2, n2, r2, hl2, e2⟩ := TT.Inv.rdL I hB
  refine PySem.P.add_list e e2 ?_ (by rw [List.size_toArray, List.size_toArray]; omega)
  have ea : its.toArray ++ its2.toArray = (its ++ its2).toArray := by simp
  rw [ea]
  exact ⟨.ref _, _, I.lnew (t' := s.toks) (r.append r2) (by rw [List.length_append]; omega), rfl, q _ I.fresh⟩
theorem Out.new {K : PySem.W.Frag} {Hv H : Hp} {r : D} {Q : VK} (h : Out K Hv H r Q) {p : Addr} {o : HO} (hp : H p = none) {v : V} (r : RepD K (upd Hv p o) r v) : Q v (upd H p o) := h.2 p o v hp r
theorem le_new {Hv H : Hp} {p : Addr} {o : HO} (l : Le Hv H) (hp : H p = none) : Le Hv (upd Hv p o) := fun b o' e t => by
  have e' := l b o' e t
  rw [upd_ne (ne_of_none e' hp)]
  exact e
theorem op_addD : OpR X (binaryOp .Add) (rD2 X.K addD) := by
  intro pins s σ H x y v u Q I rx ry h
  obtain ⟨Hv, d, e, r, le, rd, re, hg, out⟩ := h
  cases rd with
  | int i =>
    cases re with
    | int j => cases hg; exact op_add pins s σ H _ _ v u Q I rx ry ⟨i, j, rfl, rfl, out.1 _ (.int _)⟩
    | _ => cases hg
  | str i =>
    cases re with
    | str j =>
      simp only [addD] at hg
      split at hg
      · rename_i hz
        cases hg
        exact op_add_str pins s σ H _ _ v u Q I rx ry ⟨i, j, rfl, rfl, hz, out.1 _ (.str _)⟩
      · cases hg
    | _ => cases hg
  | tuple sq z rs =>
    cases re with
    | tuple sq2 z2 rs2 =>
      simp only [addD] at hg
      split at hg
      · rename_i hz
        cases hg
        rw [rs.length, rs2.length] at hz
        refine op_catA pins s σ H _ _ v u Q I rx ry ⟨_, _, _, _, rfl, rfl, SqT.le le sq, SqT.le le sq2, hz, fun e => ?_, fun _ e => ?_, fun _ _ p hp => ?_⟩
        · subst e
          cases rs
          exact out.1 _ (.tuple sq2 z2 rs2)
        · subst e
          cases rs2
          exact out.1 _ (by rw [List.append_nil]; exact .tuple sq z rs)
        · exact out.new hp (.tuple (SqT.of upd_same) (by rw [List.length_append]; exact hz) (RepDs.append (rs.le (le_new le hp)) (rs2.le (le_new le hp))))
      · cases hg
    | _ => cases hg
  | list sq z rs =>
    cases re with
    | list sq2 z2 rs2 =>
      simp only [addD] at hg
      split at hg
      · rename_i hz
        cases hg
        rw [rs.length, rs2.length] at hz
        refine op_catL pins s σ H _ _ v u Q I rx ry ⟨_, _, _, _, rfl, rfl, Rd.le le nt_lst sq, Rd.le le nt_lst sq2, hz, fun p hp => ?_⟩
        exact out.new hp (.list (.inl upd_same) (by rw [List.length_append]; exact hz) (RepDs.append (rs.le (le_new le hp)) (rs2.le (le_new le hp))))
      · cases hg
    | _ => cases hg
  | _ => cases hg
/-- an operation on ints alone -/
def intD (g : Int → Int → Option D) : D → D → Option D
  | .int i, .int j => g i j
  | _, _ => none
theorem op_intD {f : Value → Value → Sem Value} {C : Int → Int → Prop} {g : Int → Int → V} {gd : Int → Int → Option D} (h : OpR X f (rI C g)) (hc : ∀ i j r, gd i j = some r → C i j ∧ ∀ H, RepD X.K H r (g i j)) : OpR X f (rD2 X.K (intD gd)) := by
  intro pins s σ H x y v u Q I rx ry q
  obtain ⟨Hv, d, e, r, le, rd, re, hg, out⟩ := q
  cases rd with
  | int i =>
    cases re with
    | int j =>
      obtain ⟨c, rr⟩ := hc i j r hg
      exact h pins s σ H _ _ v u Q I rx ry ⟨i, j, rfl, rfl, c, out.1 _ (rr _)⟩
    | _ => cases hg
  | _ => cases hg
theorem rI_of {f : Value → Value → Sem Value} {g : Int → Int → V} (h : OpR X f (rI0 g)) : OpR X f (rI (fun _ _ => True) g) := fun pins s σ H x y v u Q I rx ry ⟨i, j, e1, e2, _, q⟩ => h pins s σ H x y v u Q I rx ry ⟨i, j, e1, e2, q⟩
def subD : D → D → Option D := intD fun i j => some (.int (i - j))
theorem op_subD : OpR X (binaryOp .Sub) (rD2 X.K subD) := op_intD (rI_of op_sub) fun i j r h => by cases h; exact ⟨trivial, fun _ => .int _⟩
def modD : D → D → Option D := intD fun i j => if 0 < j then some (.int (i % j)) else none
theorem op_modD : OpR X (binaryOp .Mod) (rD2 X.K modD) := op_intD op_mod fun i j r h => by
  split at h
  · rename_i c; cases h; exact ⟨c, fun _ => .int _⟩
  · cases h
def mulI : D → D → Option D := intD fun i j => if (-(2 ^ 64) < i ∧ i < 2 ^ 64) ∨ (-(2 ^ 64) < j ∧ j < 2 ^ 64) then some (.int (i * j)) else none
theorem op_mulI : OpR X (binaryOp .Mult) (rD2 X.K mulI) := op_intD op_mul fun i j r h => by
  split at h
  · rename_i c; cases h; exact ⟨c, fun _ => .int _⟩
  · cases h
def fdivD : D → D → Option D := intD fun i j => if 0 < j ∧ j.natAbs.log2 < 9000 then some (.int (i / j)) else none
theorem op_fdivD : OpR X (binaryOp .FloorDiv) (rD2 X.K fdivD) := op_intD op_fdivW fun i j r h => by
  split at h
  · rename_i c; cases h; exact ⟨c, fun _ => .int _⟩
  · cases h
def powD : D → D → Option D := intD fun i j => if 0 ≤ j ∧ j ≤ 1000000 ∧ i.natAbs < 2 ^ 64 then some (.int (i ^ j.toNat)) else none
theorem op_powD : OpR X (binaryOp .Pow) (rD2 X.K powD) := op_intD op_pow fun i j r h => by
  split at h
  · rename_i c; cases h; exact ⟨c, fun _ => .int _⟩
  · cases h
/-! ### order -/
def intsOf : List D → Option (List Int)
  | [] => some []
  | .int i :: r => (match intsOf r with
    | some l => some (i :: l)
    | none => none)
  | _ :: _ => none
theorem intsOf_map (l : List Int) : intsOf (l.map PyData.int) = some l := by
  induction l with
  | nil => rfl
  | cons a l ih => rw [List.map_cons, intsOf, ih]
theorem intsOf_eq : ∀ {ds : List D} {l : List Int}, intsOf ds = some l → ds = l.map PyData.int
  | [], l, h => by cases h; rfl
  | .int i :: r, l, h => by
    rw [intsOf] at h
    split at h
    · rename_i l' e
      cases h
      rw [intsOf_eq e]; rfl
    · cases h
  | .none :: _, _, h => by cases h
  | .bool _ :: _, _, h => by cases h
  | .str _ :: _, _, h => by cases h
  | .list _ :: _, _, h => by cases h
  | .tuple _ :: _, _, h => by cases h
  | .dict _ :: _, _, h => by cases h
theorem RepDs.ints {K : PySem.W.Frag} {H : Hp} : ∀ {l : List Int} {vs : List V}, RepDs K H (l.map PyData.int) vs → vs = l.map V.int
  | [], _, h => by cases h; rfl
  | i :: l, _, h => by
    cases h with
    | cons a b => cases a; rw [RepDs.ints b]; rfl
def ordD (gi : Int → Int → Bool) (gs : Str → Str → Bool) (gt : List Int → List Int → Option Bool) : D → D → Option D
  | .int i, .int j => some (.bool (gi i j))
  | .str x, .str y => some (.bool (gs x y))
  | .tuple a, .tuple b => (match intsOf a, intsOf b with
    | some l, some m => (match gt l m with
      | some r => some (.bool r)
      | none => none)
    | _, _ => none)
  | _, _ => none
theorem op_ordD {f : Value → Value → Sem Value} {gi : Int → Int → Bool} {gs : Str → Str → Bool} {gt : List Int → List Int → Option Bool} (hi : OpR X f (rI0 fun i j => .bl (gi i j))) (hs : OpR X f (fun x y H Q => ∃ i j, x = .str i ∧ y = .str j ∧ Q (.bl (gs i j)) H))
    (ht : OpR X f (fun x y H Q => ∃ a b ns ms r, x = .ref a ∧ y = .ref b ∧ SqT X.K H a (ns.map V.int) ∧ SqT X.K H b (ms.map V.int) ∧ gt ns ms = some r ∧ Q (.bl r) H)) : OpR X f (rD2 X.K (ordD gi gs gt)) := by
  intro pins s σ H x y v u Q I rx ry q
  obtain ⟨Hv, d, e, r, le, rd, re, hg, out⟩ := q
  cases rd with
  | int i =>
    cases re with
    | int j => cases hg; exact hi pins s σ H _ _ v u Q I rx ry ⟨i, j, rfl, rfl, out.1 _ (.bool _)⟩
    | _ => cases hg
  | str i =>
    cases re with
    | str j => cases hg; exact hs pins s σ H _ _ v u Q I rx ry ⟨i, j, rfl, rfl, out.1 _ (.bool _)⟩
    | _ => cases hg
  | tuple sq z rs =>
    cases re with
    | tuple sq2 z2 rs2 =>
      simp only [ordD] at hg
      split at hg
      · rename_i l m e1 e2
        split at hg
        · rename_i r' e3
          cases hg
          rw [intsOf_eq e1] at rs
          rw [intsOf_eq e2] at rs2
          have h1 := rs.ints
          have h2 := rs2.ints
          subst h1
          subst h2
          exact ht pins s σ H _ _ v u Q I rx ry ⟨_, _, l, m, r', rfl, rfl, SqT.le le sq, SqT.le le sq2, e3, out.1 _ (.bool _)⟩
        · cases hg
      · cases hg
    | _ => cases hg
  | _ => cases hg
abbrev strLt (x y : Str) : Bool := decide (x.cps.toList < y.cps.toList)
def ltD : D → D → Option D := ordD (fun i j => decide (i < j)) strLt fun a b => some (HT.lexLt a b)
theorem op_ltD (hu : X.A.units < cLine) : OpR X (compareOp .Lt) (rD2 X.K ltD) := op_ordD op_lt op_lt_str fun pins s σ H x y v u Q I rx ry ⟨a, b, ns, ms, r, e1, e2, h1, h2, h3, q⟩ => by
  cases h3
  exact op_ltT hu pins s σ H x y v u Q I rx ry ⟨a, b, ns, ms, e1, e2, h1, h2, q⟩
theorem noT {f : Value → Value → Sem Value} : OpR X f (fun x y H Q => ∃ a b ns ms r, x = .ref a ∧ y = .ref b ∧ SqT X.K H a (ns.map V.int) ∧ SqT X.K H b (ms.map V.int) ∧ (fun (_ _ : List Int) => (none : Option Bool)) ns ms = some r ∧ Q (.bl r) H) := fun pins s σ H x y v u Q I rx ry ⟨a, b, ns, ms, r, e1, e2, h1, h2, h3, q⟩ => nomatch h3
def leD : D → D → Option D := ordD (fun i j => decide (i ≤ j)) (fun x y => !strLt y x) fun _ _ => none
theorem op_leD : OpR X (compareOp .LtE) (rD2 X.K leD) := op_ordD op_le op_le_str noT
def gtD : D → D → Option D := ordD (fun i j => decide (j < i)) (fun x y => strLt y x) fun _ _ => none
theorem op_gtD : OpR X (compareOp .Gt) (rD2 X.K gtD) := op_ordD op_gt op_gt_str noT
def geD : D → D → Option D := ordD (fun i j => decide (j ≤ i)) (fun x y => !strLt x y) fun _ _ => none
theorem op_geD : OpR X (compareOp .GtE) (rD2 X.K geD) := op_ordD op_ge op_ge_str noT
/-! ### equality, being in -/
abbrev shp (d : D) : Bool := SeqAt.shaped d
mutual
theorem RepD.dp {K : PySem.W.Frag} {H : Hp} : ∀ {d : D} {v : V}, RepD K H d v → d.canLay0 = true → Dp K H v d
  | _, _, .none, _ => .non
  | _, _, .bool b, _ => .bl _
  | _, _, .int i, _ => .int _
  | _, _, .str x, _ => .str _
  | .tuple l, _, .tuple s z r, h => .tup s (RepDs.dp r (by simpa only [PyData.canLay0] using h))
  | .list l, _, .list s z r, h => .lst (.inl s) (RepDs.dp r (by simpa only [PyData.canLay0] using h))
  | .dict l, _, .dK s r, h => by simp only [PyData.canLay0] at h; cases h
  | .dict l, _, .dT s r, h => by simp only [PyData.canLay0] at h; cases h
theorem RepDs.dp {K : PySem.W.Frag} {H : Hp} : ∀ {d : List D} {v : List V}, RepDs K H d v → PyData.canLayAll0 d = true → DpAll K H v d
  | _, _, .nil, _ => .nil
  | d :: ds, _, .cons a b, h => by
    simp only [PyData.canLayAll0, Bool.and_eq_true] at h
    exact .cons (RepD.dp a h.1) (RepDs.dp b h.2)
end
def eqD (a b : D) : Option D := if shp a = true ∧ shp b = true then some (.bool (PyData.eqv a b)) else match a, b with
  | .str x, .str y => some (.bool (decide (x = y)))
  | _, _ => none
def neD (a b : D) : Option D := if shp a = true ∧ shp b = true then some (.bool (!PyData.eqv a b)) else match a, b with
  | .str x, .str y => some (.bool (!decide (x = y)))
  | _, _ => none
theorem op_eqDD (hu : X.A.units + 64 < cLine) : OpR X (compareOp .Eq) (rD2 X.K eqD) := by
  intro pins s σ H x y v u Q I rx ry q
  obtain ⟨Hv, d, e, r, le, rd, re, hg, out⟩ := q
  unfold eqD at hg
  split at hg
  · rename_i hs
    cases hg
    exact op_eqD hu pins s σ H _ _ v u Q I rx ry ⟨d, e, (rd.le le).dp (SeqAt.canLay_of_shaped hs.1), (re.le le).dp (SeqAt.canLay_of_shaped hs.2), hs.1, hs.2, out.1 _ (.bool _)⟩
  · split at hg
    · rename_i a b _
      cases hg
      cases rd
      cases re
      refine op_eq pins s σ H _ _ v u Q I rx ry ⟨rfl, ?_⟩
      have z : decide (V.str a = V.str b) = decide (a = b) := by
        by_cases c : a = b
        · subst c; simp
        · rw [decide_eq_false c, decide_eq_false fun e => c (V.str.inj e)]
      rw [z]
      exact out.1 _ (.bool _)
    · cases hg
theorem op_neDD (hu : X.A.units + 64 < cLine) : OpR X (compareOp .NotEq) (rD2 X.K neD) := by
  intro pins s σ H x y v u Q I rx ry q
  obtain ⟨Hv, d, e, r, le, rd, re, hg, out⟩ := q
  unfold neD at hg
  split at hg
  · rename_i hs
    cases hg
    exact op_neD hu pins s σ H _ _ v u Q I rx ry ⟨d, e, (rd.le le).dp (SeqAt.canLay_of_shaped hs.1), (re.le le).dp (SeqAt.canLay_of_shaped hs.2), hs.1, hs.2, out.1 _ (.bool _)⟩
  · split at hg
    · rename_i a b _
      cases hg
      cases rd
      cases re
      refine op_ne pins s σ H _ _ v u Q I rx ry ⟨rfl, ?_⟩
      have z : decide (V.str a = V.str b) = decide (a = b) := by
        by_cases c : a = b
        · subst c; simp
        · rw [decide_eq_false c, decide_eq_false fun e => c (V.str.inj e)]
      rw [z]
      exact out.1 _ (.bool _)
    · cases hg
def strIn (i j : Str) : Bool := !(Builtin.Str.occurrences j i 0 j.length 1).isEmpty
def inD (neg : Bool) : D → D → Option D
  | .str i, .str j => some (.bool (if neg then !strIn i j else strIn i j))
  | d, .list ds => if shp d = true ∧ shp (.list ds) = true then some (.bool (if neg then !ds.any fun z => PyData.eqv z d else ds.any fun z => PyData.eqv z d)) else none
  | d, .tuple ds => if shp d = true ∧ shp (.tuple ds) = true then some (.bool (if neg then !ds.any fun z => PyData.eqv z d else ds.any fun z => PyData.eqv z d)) else none
  | _, _ => none
theorem op_inDD (hu : X.A.units + 65 < cLine) : OpR X (compareOp .In) (rD2 X.K (inD false)) := by
  intro pins s σ H x y v u Q I rx ry q
  obtain ⟨Hv, d, e, r, le, rd, re, hg, out⟩ := q
  unfold inD at hg
  split at hg
  · rename_i i j
    cases hg
    cases rd
    cases re
    exact op_in_str pins s σ H _ _ v u Q I rx ry ⟨i, j, rfl, rfl, out.1 _ (.bool _)⟩
  · rename_i ds _
    split at hg
    · rename_i hs
      cases hg
      obtain ⟨as, r1⟩ := Dp.reads I d x v ((rd.le le).dp (SeqAt.canLay_of_shaped hs.1)) rx
      obtain ⟨bs, r2⟩ := Dp.reads I (.list _) y u ((re.le le).dp (SeqAt.canLay_of_shaped hs.2)) ry
      exact SeqAt.in_list_reads r2 r1 (by simpa only [PyData.canLay0] using SeqAt.canLay_of_shaped hs.2) (SeqAt.canLay_of_shaped hs.1) (room_in_shaped hs.1 hu) ⟨.bl _, H, I, rfl, out.1 _ (.bool _)⟩
    · cases hg
  · rename_i ds _
    split at hg
    · rename_i hs
      cases hg
      obtain ⟨as, r1⟩ := Dp.reads I d x v ((rd.le le).dp (SeqAt.canLay_of_shaped hs.1)) rx
      obtain ⟨bs, r2⟩ := Dp.reads I (.tuple _) y u ((re.le le).dp (SeqAt.canLay_of_shaped hs.2)) ry
      exact SeqAt.in_tuple_reads r2 r1 (by simpa only [PyData.canLay0] using SeqAt.canLay_of_shaped hs.2) (SeqAt.canLay_of_shaped hs.1) (room_in_shaped hs.1 hu) ⟨.bl _, H, I, rfl, out.1 _ (.bool _)⟩
    · cases hg
  · cases hg
theorem op_notInDD (hu : X.A.units + 65 < cLine) : OpR X (compareOp .NotIn) (rD2 X.K (inD true)) := by
  intro pins s σ H x y v u Q I rx ry q
  obtain ⟨Hv, d, e, r, le, rd, re, hg, out⟩ := q
  unfold inD at hg
  split at hg
  · rename_i i j
    cases hg
    cases rd
    cases re
    exact op_notIn_str pins s σ H _ _ v u Q I rx ry ⟨i, j, rfl, rfl, out.1 _ (.bool _)⟩
  · rename_i ds _
    split at hg
    · rename_i hs
      cases hg
      obtain ⟨as, r1⟩ := Dp.reads I d x v ((rd.le le).dp (SeqAt.canLay_of_shaped hs.1)) rx
      obtain ⟨bs, r2⟩ := Dp.reads I (.list _) y u ((re.le le).dp (SeqAt.canLay_of_shaped hs.2)) ry
      exact SeqAt.notIn_list_reads r2 r1 (by simpa only [PyData.canLay0] using SeqAt.canLay_of_shaped hs.2) (SeqAt.canLay_of_shaped hs.1) (room_in_shaped hs.1 hu) ⟨.bl _, H, I, rfl, out.1 _ (.bool _)⟩
    · cases hg
  · rename_i ds _
    split at hg
    · rename_i hs
      cases hg
      obtain ⟨as, r1⟩ := Dp.reads I d x v ((rd.le le).dp (SeqAt.canLay_of_shaped hs.1)) rx
      obtain ⟨bs, r2⟩ := Dp.reads I (.tuple _) y u ((re.le le).dp (SeqAt.canLay_of_shaped hs.2)) ry
      exact SeqAt.notIn_tuple_reads r2 r1 (by simpa only [PyData.canLay0] using SeqAt.canLay_of_shaped hs.2) (SeqAt.canLay_of_shaped hs.1) (room_in_shaped hs.1 hu) ⟨.bl _, H, I, rfl, out.1 _ (.bool _)⟩
    · cases hg
  · cases hg
/-! ### is None -/
def isN : U → Bool
  | .d .none => true
  | _ => false
def gIsN (neg : Bool) : U → U → Sto → Res U := fun u w st => match w with
  | .d .none => .ok (.d (.bool (if neg then !isN u else isN u))) st
  | _ => .bad
theorem isN_ok {H : Hp} {ρ : List Addr} {own : OwnV} {u : U} {x : V} (r : RepU G H ρ own u x) : decide (x = .non) = isN u := by
  cases r with
  | d r => cases r <;> simp [isN]
  | _ => simp [isN]
theorem ops_isN : OpS oS G W (fun x y H Q => y = .non ∧ Q (.bl (decide (x = .non))) H) (gIsN false) := by
  intro B ρ en st σ H u w x y Q R ru rw' h
  unfold gIsN at h
  split at h
  · cases rw' with
    | d rw' =>
      cases rw'
      refine ⟨rfl, ?_⟩
      rw [isN_ok ru]
      exact h ρ H (Stp.refl _ _) R _ (.d (.bool _))
  · exact h.elim
theorem ops_notN : OpS oS G W (fun x y H Q => y = .non ∧ Q (.bl (!decide (x = .non))) H) (gIsN true) := by
  intro B ρ en st σ H u w x y Q R ru rw' h
  unfold gIsN at h
  split at h
  · cases rw' with
    | d rw' =>
      cases rw'
      refine ⟨rfl, ?_⟩
      rw [isN_ok ru]
      exact h ρ H (Stp.refl _ _) R _ (.d (.bool _))
  · exact h.elim
end
/-! ## the rules -/
section
variable {X : Cx} {oS : OwnS} {G : Gd} {W : WX} {a b : Expr} {fa fb : SemE} {pos : Pos} (hK : X.K = G.K)
include hK
theorem se_D2 {op : Operator} {g : D → D → Option D} (h : OpR X (binaryOp op) (rD2 X.K g)) (ha : SE X oS G W a fa) (hb : SE X oS G W b fb) : SE X oS G W (.BinOp a op b pos) (mOp (gD2 g) fa fb) := se_op (by rw [hK] at h; exact h) ops_D2 ha hb
theorem se_add (ha : SE X oS G W a fa) (hb : SE X oS G W b fb) : SE X oS G W (.BinOp a .Add b pos) (mOp (gD2 addD) fa fb) := se_D2 hK op_addD ha hb
theorem se_sub (ha : SE X oS G W a fa) (hb : SE X oS G W b fb) : SE X oS G W (.BinOp a .Sub b pos) (mOp (gD2 subD) fa fb) := se_D2 hK op_subD ha hb
theorem se_mul (ha : SE X oS G W a fa) (hb : SE X oS G W b fb) : SE X oS G W (.BinOp a .Mult b pos) (mOp (gD2 mulI) fa fb) := se_D2 hK op_mulI ha hb
theorem se_mod (ha : SE X oS G W a fa) (hb : SE X oS G W b fb) : SE X oS G W (.BinOp a .Mod b pos) (mOp (gD2 modD) fa fb) := se_D2 hK op_modD ha hb
theorem se_fdiv (ha : SE X oS G W a fa) (hb : SE X oS G W b fb) : SE X oS G W (.BinOp a .FloorDiv b pos) (mOp (gD2 fdivD) fa fb) := se_D2 hK op_fdivD ha hb
theorem se_pow (ha : SE X oS G W a fa) (hb : SE X oS G W b fb) : SE X oS G W (.BinOp a .Pow b pos) (mOp (gD2 powD) fa fb) := se_D2 hK op_powD ha hb
theorem se_C2 {op : CmpOp} {g : D → D → Option D} (h : OpR X (compareOp op) (rD2 X.K g)) (ha : SE X oS G W a fa) (hb : SE X oS G W b fb) (hm : behindInMarks op b = false) : SE X oS G W (.Compare a [op] [b] pos) (mOp (gD2 g) fa fb) := se_cmp (by rw [hK] at h; exact h) ops_D2 ha hb hm
variable {k : Nat} (hr : Room k X.A)
include hr
theorem se_lt (ha : SE X oS G W a fa) (hb : SE X oS G W b fb) : SE X oS G W (.Compare a [.Lt] [b] pos) (mOp (gD2 ltD) fa fb) := se_C2 hK (op_ltD hr.units0) ha hb (nobehind _ (by decide) (by decide))
theorem se_le (ha : SE X oS G W a fa) (hb : SE X oS G W b fb) : SE X oS G W (.Compare a [.LtE] [b] pos) (mOp (gD2 leD) fa fb) := se_C2 hK op_leD ha hb (nobehind _ (by decide) (by decide))
theorem se_gt (ha : SE X oS G W a fa) (hb : SE X oS G W b fb) : SE X oS G W (.Compare a [.Gt] [b] pos) (mOp (gD2 gtD) fa fb) := se_C2 hK op_gtD ha hb (nobehind _ (by decide) (by decide))
theorem se_ge (ha : SE X oS G W a fa) (hb : SE X oS G W b fb) : SE X oS G W (.Compare a [.GtE] [b] pos) (mOp (gD2 geD) fa fb) := se_C2 hK op_geD ha hb (nobehind _ (by decide) (by decide))
theorem se_eq (ha : SE X oS G W a fa) (hb : SE X oS G W b fb) : SE X oS G W (.Compare a [.Eq] [b] pos) (mOp (gD2 eqD) fa fb) := se_C2 hK (op_eqDD hr.units) ha hb (nobehind _ (by decide) (by decide))
theorem se_ne (ha : SE X oS G W a fa) (hb : SE X oS G W b fb) : SE X oS G W (.Compare a [.NotEq] [b] pos) (mOp (gD2 neD) fa fb) := se_C2 hK (op_neDD hr.units) ha hb (nobehind _ (by decide) (by decide))
theorem units65 : X.A.units + 65 < cLine := by have := hr.un; omega
theorem se_in (ha : SE X oS G W a fa) (hb : SE X oS G W b fb) (hm : behindInMarks .In b = false := by rfl) : SE X oS G W (.Compare a [.In] [b] pos) (mOp (gD2 (inD false)) fa fb) := se_C2 hK (op_inDD (units65 hK hr)) ha hb hm
theorem se_notIn (ha : SE X oS G W a fa) (hb : SE X oS G W b fb) (hm : behindInMarks .NotIn b = false := by rfl) : SE X oS G W (.Compare a [.NotIn] [b] pos) (mOp (gD2 (inD true)) fa fb) := se_C2 hK (op_notInDD (units65 hK hr)) ha hb hm
end
section
variable {X : Cx} {oS : OwnS} {G : Gd} {W : WX} {a b : Expr} {fa fb : SemE} {pos : Pos}
theorem se_isN (ha : SE X oS G W a fa) (hb : SE X oS G W b fb) : SE X oS G W (.Compare a [.Is] [b] pos) (mOp (gIsN false) fa fb) := se_cmp op_isN ops_isN ha hb (nobehind _ (by decide) (by decide))
theorem se_notN (ha : SE X oS G W a fa) (hb : SE X oS G W b fb) : SE X oS G W (.Compare a [.IsNot] [b] pos) (mOp (gIsN true) fa fb) := se_cmp op_notN ops_notN ha hb (nobehind _ (by decide) (by decide))
/-- -a -/
def mNeg (fa : SemE) : SemE := fun en st => (fa en st).bind fun u st => match u with
  | .d (.int i) => .ok (.d (.int (-i))) st
  | _ => .bad
theorem se_neg (ha : SE X oS G W a fa) : SE X oS G W (.UnaryOp .USub a pos) (mNeg fa) := by
  refine PE.imp (pe_un un_neg ha) fun σ H Q ⟨B, ρ, en, st, R, h⟩ => ?_
  refine ⟨B, ρ, en, st, R, (PostE.bind h).mono fun u st1 ρ1 H1 _ s1 R1 h1 v rv => ?_⟩
  split at h1
  · cases rv with
    | d rv => cases rv; exact ⟨_, rfl, h1 ρ1 H1 (Stp.refl _ _) R1 _ (.d (.int _))⟩
  · exact h1.elim
end
end TT
set_option Elab.async false
set_option linter.all false
set_option maxRecDepth 100000
set_option maxHeartbeats 2000000
namespace TT
open PySem PySem.Spec PyProof.Rows L2

/-! ## a row of things, of whatever kind -/
def seqOf (st : Sto) : U → Option (List U)
  | .d (.tuple l) => some (l.map U.d)
  | .d (.list l) => some (l.map U.d)
  | .tup l => some l
  | .ref n => (match st[n]? with
    | some (.lst l) => some l
    | _ => none)
  | _ => none
theorem RepUs.ofD {G : Gd} {H : Hp} {ρ : List Addr} {own : OwnV} : ∀ {l : List D} {vs : List V}, RepDs G.K H l vs → RepUs G H ρ own (l.map U.d) vs
  | _, _, .nil => .nil
  | _, _, .cons a b => .cons (.d a) (RepUs.ofD b)
theorem RepUs.length {G : Gd} {H : Hp} {ρ : List Addr} {own : OwnV} : ∀ {l : List U} {vs : List V}, RepUs G H ρ own l vs → l.length = vs.length
  | _, _, .nil => rfl
  | _, _, .cons _ b => by rw [List.length_cons, List.length_cons, RepUs.length b]
theorem RepUs.get {G : Gd} {H : Hp} {ρ : List Addr} {own : OwnV} : ∀ {l : List U} {vs : List V} {i : Nat} {u : U}, RepUs G H ρ own l vs → l[i]? = some u → ∃ v, vs[i]? = some v ∧ RepU G H ρ own u v
  | _, _, _, _, .nil, e => by simp at e
  | _, _, 0, _, .cons a _, e => by simp at e; subst e; exact ⟨_, rfl, a⟩
  | _, _, i + 1, d, .cons _ b, e => by
    obtain ⟨v, h1, h2⟩ := RepUs.get (i := i) (u := d) b (by simpa using e)
    exact ⟨v, by simpa using h1, h2⟩
theorem RepUs.append {G : Gd} {H : Hp} {ρ : List Addr} {own : OwnV} : ∀ {ds es : List U} {vs us : List V}, RepUs G H ρ own ds vs → RepUs G H ρ own es us → RepUs G H ρ own (ds ++ es) (vs ++ us)
  | _, _, _, _, .nil, h => h
  | _, _, _, _, .cons a b, h => .cons a (RepUs.append b h)
theorem RepUs.set {G : Gd} {H : Hp} {ρ : List Addr} {own : OwnV} {u : U} {v : V} (r : RepU G H ρ own u v) : ∀ {l : List U} {vs : List V} (i : Nat), RepUs G H ρ own l vs → RepUs G H ρ own (l.set i u) (vs.set i v)
  | _, _, _, .nil => .nil
  | _, _, 0, .cons _ b => .cons r b
  | _, _, i + 1, .cons a b => .cons a (RepUs.set r i b)
theorem RepUs.eraseIdx {G : Gd} {H : Hp} {ρ : List Addr} {own : OwnV} : ∀ {l : List U} {vs : List V} (i : Nat), RepUs G H ρ own l vs → RepUs G H ρ own (l.eraseIdx i) (vs.eraseIdx i)
  | _, _, _, .nil => .nil
  | _, _, 0, .cons _ b => b
  | _, _, i + 1, .cons a b => .cons a (RepUs.eraseIdx i b)
/-- all of them trees -/
def allD : List U → Option (List D)
  | [] => some []
  | .d x :: r => (match allD r with
    | some l => some (x :: l)
    | none => none)
  | _ :: _ => none
theorem allD_map (l : List D) : allD (l.map U.d) = some l := by
  induction l with
  | nil => rfl
  | cons a l ih => rw [List.map_cons, allD, ih]
theorem RepUs.allD {G : Gd} {H : Hp} {ρ : List Addr} {own : OwnV} : ∀ {us : List U} {vs : List V} {l : List D}, RepUs G H ρ own us vs → TT.allD us = some l → RepDs G.K H l vs
  | _, _, _, .nil, h => by cases h; exact .nil
  | _, _, _, .cons a b, h => by
    cases a with
    | d r =>
      rw [TT.allD] at h
      split at h
      · rename_i l' e
        cases h
        exact .cons r (RepUs.allD b e)
      · cases h
    | _ => simp [TT.allD] at h
def mkTup (us : List U) : U := match allD us with
  | some l => .d (.tuple l)
  | none => .tup us
section
variable {X : Cx} {oS : OwnS} {G : Gd} {W : WX}
theorem seq_rep {B ρ : List Addr} {en : Nv} {st : Sto} {σ : L2.St} {H : Hp} {u : U} {x : V} {l : List U} (R : Rel oS G B ρ en st σ H) (ru : RepU G (vis B ρ H) ρ (oS σ) u x) (h : seqOf st u = some l) :
    ∃ a vs, x = .ref a ∧ (Rd H a (.lst vs) ∨ SqT G.K H a vs) ∧ RepUs G (vis B ρ H) ρ (oS σ) l vs ∧ vs.length ≤ sizeLine := by
  unfold seqOf at h
  split at h
  · cases h
    cases ru with
    | d r =>
      cases r with
      | tuple s z r => exact ⟨_, _, rfl, .inr (SqT.le vis_le s), RepUs.ofD r, z⟩
  · cases h
    cases ru with
    | d r =>
      cases r with
      | list s z r => exact ⟨_, _, rfl, .inl (Rd.le vis_le nt_lst s), RepUs.ofD r, z⟩
  · cases h
    cases ru with
    | tup s z r => exact ⟨_, _, rfl, .inr (SqT.le vis_le s), r, z⟩
  · split at h
    · rename_i n l' e
      cases h
      cases ru with
      | ref hn =>
        obtain ⟨c, o, h1, h2, h3⟩ := R.sto.at hn
        rw [e] at h1
        cases h1
        cases h3 with
        | lst z r => exact ⟨_, _, rfl, .inl (.inl h2), r, z⟩
    · cases h
  · cases h

/-! ## tests -/
def truD : D → Option Bool
  | .none => some false
  | .bool b => some b
  | .int i => some (i != 0)
  | .str x => if x.length ≤ sizeLine then some ((x.length : Int) != 0) else none
  | .list l => some (!l.isEmpty)
  | .tuple l => some (!l.isEmpty)
  | .dict _ => none
def truU : U → Option Bool
  | .d x => truD x
  | _ => none
def mTru (f : SemE) : SemT := fun en st => (f en st).bind fun u st => match truU u with
  | some b => .ok b st
  | none => .bad
theorem isEmpty_reps {K : PySem.W.Frag} {H : Hp} {l : List D} {vs : List V} (r : RepDs K H l vs) : l.isEmpty = vs.isEmpty := by cases r <;> rfl
theorem tru_rep {K : PySem.W.Frag} {Hv H : Hp} {d : D} {x : V} {b : Bool} (le : Le Hv H) (r : RepD K Hv d x) (h : truD d = some b) : TruV K x H b := by
  cases r with
  | none => cases h; rfl
  | bool b => cases h; rfl
  | int i => cases h; rfl
  | str y =>
    simp only [truD] at h
    split at h
    · rename_i z
      cases h
      exact ⟨z, rfl⟩
    · cases h
  | list s z r => cases h; exact .inl ⟨_, .inl (Rd.le le nt_lst s), by rw [isEmpty_reps r]⟩
  | tuple s z r => cases h; exact .inr (.inl ⟨_, SqT.le le s, by rw [isEmpty_reps r]⟩)
  | dK s r => cases h
  | dT s r => cases h
theorem st_val {e : Expr} {f : SemE} (hK : X.K = G.K) (he : SE X oS G W e f) (ht : ∀ whole, isTrue e X.env whole = (do let v ← whole; standAt e.pos; holding [v] (truthy v)) := by intro _; rfl) : ST X oS G W e (mTru f) := by
  refine PT.imp (pt_truth he ht) fun σ H Q ⟨B, ρ, en, st, R, h⟩ => ?_
  refine ⟨B, ρ, en, st, R, (PostE.bind h).mono fun u st1 ρ1 H1 _ s1 R1 h1 v rv => ?_⟩
  split at h1
  · rename_i b hb
    cases u with
    | d x =>
      cases rv with
      | d rv => exact ⟨b, by rw [hK]; exact tru_rep vis_le rv hb, h1 ρ1 H1 (Stp.refl _ _) R1⟩
    | _ => cases hb
  · exact h1.elim
def SW (X : Cx) (oS : OwnS) (G : Gd) (W : WX) (e : Expr) (f : SemT) : Prop := PW X e (rdT oS G W f)
theorem PW.imp {X : Cx} {e : Expr} {t t' : TT} (h : PW X e t) (i : ∀ σ H Q, t' σ H Q → t σ H Q) : PW X e t' := ⟨fun whole pins s σ H Q I w => h.run whole pins s σ H Q I (i σ H Q w)⟩
def mAndT (f g : SemT) : SemT := fun en st => (f en st).bind fun c st => if c = true then g en st else .ok false st
def mOrT (f g : SemT) : SemT := fun en st => (f en st).bind fun c st => if c = true then .ok true st else g en st
def mNotT (f : SemT) : SemT := fun en st => (f en st).bind fun c st => .ok (!c) st
theorem st_of {e : Expr} {f : SemT} (h : SW X oS G W e f) : ST X oS G W e f := L2.PW.pt h
theorem sw_and1 {a : Expr} {f : SemT} {pos : Pos} (ha : ST X oS G W a f) : SW X oS G W (.BoolOp .And [a] pos) f := pw_and1 ha
theorem sw_or1 {a : Expr} {f : SemT} {pos : Pos} (ha : ST X oS G W a f) : SW X oS G W (.BoolOp .Or [a] pos) f := pw_or1 ha
theorem sw_and {a b : Expr} {rest : List Expr} {f g : SemT} {pos : Pos} (ha : ST X oS G W a f) (hb : SW X oS G W (.BoolOp .And (b :: rest) pos) g) : SW X oS G W (.BoolOp .And (a :: b :: rest) pos) (mAndT f g) := by
  refine PW.imp (pw_and ha hb) fun σ H Q ⟨B, ρ, en, st, R, h⟩ => ?_
  refine ⟨B, ρ, en, st, R, (PostE.bind h).mono fun c st1 ρ1 H1 _ s1 R1 h1 => ?_⟩
  by_cases hc : c = true
  · rw [if_pos hc] at h1 ⊢
    exact ⟨B, ρ1, en, st1, R1, h1⟩
  · rw [if_neg hc] at h1 ⊢
    exact h1 ρ1 H1 (Stp.refl _ _) R1
theorem sw_or {a b : Expr} {rest : List Expr} {f g : SemT} {pos : Pos} (ha : ST X oS G W a f) (hb : SW X oS G W (.BoolOp .Or (b :: rest) pos) g) : SW X oS G W (.BoolOp .Or (a :: b :: rest) pos) (mOrT f g) := by
  refine PW.imp (pw_or ha hb) fun σ H Q ⟨B, ρ, en, st, R, h⟩ => ?_
  refine ⟨B, ρ, en, st, R, (PostE.bind h).mono fun c st1 ρ1 H1 _ s1 R1 h1 => ?_⟩
  by_cases hc : c = true
  · rw [if_pos hc] at h1 ⊢
    exact h1 ρ1 H1 (Stp.refl _ _) R1
  · rw [if_neg hc] at h1 ⊢
    exact ⟨B, ρ1, en, st1, R1, h1⟩
theorem st_not {a : Expr} {f : SemT} {pos : Pos} (ha : ST X oS G W a f) : ST X oS G W (.UnaryOp .Not a pos) (mNotT f) := by
  refine PT.imp (pt_not ha) fun σ H Q ⟨B, ρ, en, st, R, h⟩ => ?_
  refine ⟨B, ρ, en, st, R, (PostE.bind h).mono fun c st1 ρ1 H1 _ s1 R1 h1 => ?_⟩
  exact h1 ρ1 H1 (Stp.refl _ _) R1
/-! as values: what is True or False -/
def onB (k : Bool → Sto → Res U) : U → Sto → Res U
  | .d (.bool c), st => k c st
  | _, _ => .bad
def mAndV (f g : SemE) : SemE := fun en st => (f en st).bind (onB fun c st => if c = true then g en st else .ok (.d (.bool false)) st)
def mOrV (f g : SemE) : SemE := fun en st => (f en st).bind (onB fun c st => if c = true then .ok (.d (.bool true)) st else g en st)
def mNotV (f : SemE) : SemE := fun en st => (f en st).bind (onB fun c st => .ok (.d (.bool (!c))) st)
theorem se_one {op} {a : Expr} {f : SemE} {pos : Pos} (ha : SE X oS G W a f) : SE X oS G W (.BoolOp op [a] pos) f := pe_one ha
theorem se_and {a b : Expr} {rest : List Expr} {f g : SemE} {pos : Pos} (ha : SE X oS G W a f) (hb : SE X oS G W (.BoolOp .And (b :: rest) pos) g) : SE X oS G W (.BoolOp .And (a :: b :: rest) pos) (mAndV f g) := by
  refine PE.imp (pe_and ha hb) fun σ H Q ⟨B, ρ, en, st, R, h⟩ => ?_
  refine ⟨B, ρ, en, st, R, (PostE.bind h).mono fun u st1 ρ1 H1 _ s1 R1 h1 v rv => ?_⟩
  unfold onB at h1
  split at h1
  · rename_i c _
    cases rv with
    | d rv =>
      cases rv
      refine ⟨c, rfl, ?_⟩
      dsimp only at h1
      by_cases hc : c = true
      · rw [if_pos hc] at h1 ⊢
        exact ⟨B, ρ1, en, _, R1, h1⟩
      · rw [if_neg hc] at h1 ⊢
        exact h1 ρ1 H1 (Stp.refl _ _) R1 _ (.d (.bool _))
  · exact h1.elim
theorem se_or {a b : Expr} {rest : List Expr} {f g : SemE} {pos : Pos} (ha : SE X oS G W a f) (hb : SE X oS G W (.BoolOp .Or (b :: rest) pos) g) : SE X oS G W (.BoolOp .Or (a :: b :: rest) pos) (mOrV f g) := by
  refine PE.imp (pe_or ha hb) fun σ H Q ⟨B, ρ, en, st, R, h⟩ => ?_
  refine ⟨B, ρ, en, st, R, (PostE.bind h).mono fun u st1 ρ1 H1 _ s1 R1 h1 v rv => ?_⟩
  unfold onB at h1
  split at h1
  · rename_i c _
    cases rv with
    | d rv =>
      cases rv
      refine ⟨c, rfl, ?_⟩
      dsimp only at h1
      by_cases hc : c = true
      · rw [if_pos hc] at h1 ⊢
        exact h1 ρ1 H1 (Stp.refl _ _) R1 _ (.d (.bool _))
      · rw [if_neg hc] at h1 ⊢
        exact ⟨B, ρ1, en, _, R1, h1⟩
  · exact h1.elim
theorem se_not {a : Expr} {f : SemE} {pos : Pos} (ha : SE X oS G W a f) : SE X oS G W (.UnaryOp .Not a pos) (mNotV f) := by
  refine PE.imp (pe_not ha) fun σ H Q ⟨B, ρ, en, st, R, h⟩ => ?_
  refine ⟨B, ρ, en, st, R, (PostE.bind h).mono fun u st1 ρ1 H1 _ s1 R1 h1 v rv => ?_⟩
  unfold onB at h1
  split at h1
  · rename_i c _
    cases rv with
    | d rv =>
      cases rv
      exact ⟨c, rfl, h1 ρ1 H1 (Stp.refl _ _) R1 _ (.d (.bool _))⟩
  · exact h1.elim
def mIf (t : SemT) (f g : SemE) : SemE := fun en st => (t en st).bind fun c st => if c = true then f en st else g en st
theorem se_if {c a b : Expr} {t : SemT} {f g : SemE} {pos : Pos} (hc : ST X oS G W c t) (ha : SE X oS G W a f) (hb : SE X oS G W b g) : SE X oS G W (.IfExp c a b pos) (mIf t f g) := by
  refine PE.imp (pe_ifExp hc ha hb) fun σ H Q ⟨B, ρ, en, st, R, h⟩ => ?_
  refine ⟨B, ρ, en, st, R, (PostE.bind h).mono fun c st1 ρ1 H1 _ s1 R1 h1 => ?_⟩
  by_cases hc : c = true
  · rw [if_pos hc] at h1 ⊢
    exact ⟨B, ρ1, en, st1, R1, h1⟩
  · rw [if_neg hc] at h1 ⊢
    exact ⟨B, ρ1, en, st1, R1, h1⟩
/-! a < b < c -/
def mChain (g g' : D → D → Option D) (fa fb fc : SemE) : SemE := fun en st => (fa en st).bind fun u st => (fb en st).bind fun w st => (gD2 g u w st).bind (onB fun c st => if c = true then (fc en st).bind fun z st => (gD2 g' w z st).bind (onB fun c st => .ok (.d (.bool c)) st) else .ok (.d (.bool false)) st)

/-! ## displays -/
def mTup (f : SemA) : SemE := fun en st => (f en st).bind fun us st => if us.length ≤ sizeLine then .ok (mkTup us) st else .bad
theorem mkTup_rep {B ρ : List Addr} {σ : L2.St} {H : Hp} {us : List U} {vs : List V} {p : Addr} (hB : p ∉ B) (hρ : p ∉ ρ) (hp : H p = none) (hz : vs.length ≤ sizeLine) (r : RepUs G (vis B ρ H) ρ (oS σ) us vs) :
    RepU G (vis B ρ (upd H p (.tup vs))) ρ (oS σ) (mkTup us) (.ref p) := by
  have s : Stp ρ H ρ (upd H p (.tup vs)) := Stp.laid hp
  have r' := r.stp s
  have e : vis B ρ (upd H p (.tup vs)) p = some (.tup vs) := vis_of hB hρ upd_same
  unfold mkTup
  split
  · rename_i l hl
    exact .d (.tuple (SqT.of e) hz (r'.allD hl))
  · exact .tup (SqT.of e) hz r'
theorem se_tup {es : List Expr} {f : SemA} {x1} {pos : Pos} (h : SA X oS G W es f) : SE X oS G W (.Tuple es x1 pos) (mTup f) := by
  refine PE.imp (pe_tup h) fun σ H Q ⟨B, ρ, en, st, R, h⟩ => ?_
  refine ⟨B, ρ, en, st, R, (PostE.bind h).mono fun us st1 ρ1 H1 _ s1 R1 h1 vs rvs => ?_⟩
  split at h1
  · rename_i hz
    rw [rvs.length] at hz
    refine ⟨hz, fun p hp => ?_⟩
    have f := R1.sto.fresh hp
    exact h1 ρ1 _ (Stp.laid hp) (R1.laid hp) _ (mkTup_rep f.1 f.2 hp hz rvs)
  · exact h1.elim
/-- a list that will not be changed -/
def mLst (f : SemA) : SemE := fun en st => (f en st).bind fun us st => if us.length ≤ sizeLine then (match allD us with
  | some l => .ok (.d (.list l)) st
  | none => .bad) else .bad
theorem se_lst {es : List Expr} {f : SemA} {pos : Pos} (h : SA X oS G W es f) : SE X oS G W (.List es pos) (mLst f) := by
  refine PE.imp (pe_lst h) fun σ H Q ⟨B, ρ, en, st, R, h⟩ => ?_
  refine ⟨B, ρ, en, st, R, (PostE.bind h).mono fun us st1 ρ1 H1 _ s1 R1 h1 vs rvs => ?_⟩
  split at h1
  · rename_i hz
    rw [rvs.length] at hz
    split at h1
    · rename_i l hl
      refine ⟨hz, fun p hp => ?_⟩
      have f := R1.sto.fresh hp
      exact h1 ρ1 _ (Stp.laid hp) (R1.laid hp) _ (.d (.list (.inl (vis_of f.1 f.2 upd_same)) hz ((rvs.stp (Stp.laid hp)).allD hl)))
    · exact h1.elim
  · exact h1.elim
/-- a list that will be changed -/
def mRef (f : SemA) : SemE := fun en st => (f en st).bind fun us st => if us.length ≤ sizeLine then .ok (.ref st.length) (st ++ [.lst us]) else .bad
theorem RelS.laidRef {G : Gd} {B ρ : List Addr} {own : OwnV} {st : Sto} {H : Hp} (r : RelS G B ρ own st H) {p : Addr} {c : Cell} {o : HO} (h : H p = none) (rc : RepC G (vis B ρ H) ρ own c o) : RelS G B (ρ ++ [p]) own (st ++ [c]) (upd H p o) := by
  have s : Stp ρ H (ρ ++ [p]) (upd H p o) := Stp.laidRef h
  have f := r.fresh h
  refine ⟨by rw [List.length_append, List.length_append, r.len]; rfl, ?_, fun n c' hc => ?_, fun b hb => ?_, r.tabs.ext fun b o' e => by rw [upd_ne (ne_of_none e h)]; exact e⟩
  · refine List.nodup_append.mpr ⟨r.nd, by simp, fun a ha b hb e => ?_⟩
    have : b = p := by simpa using hb
    subst this
    subst e
    exact f.2 ha
  · by_cases hn : n < st.length
    · rw [List.getElem?_append_left hn] at hc
      obtain ⟨a, o', h1, h2, h3⟩ := r.cell n c' hc
      exact ⟨a, o', s.pre n a h1, by rw [upd_ne (ne_of_none h2 h)]; exact h2, h3.le s.le s.pre fun _ _ z => z⟩
    · rw [List.getElem?_append_right (by omega)] at hc
      have e : n - st.length = 0 := by
        have := (List.getElem?_eq_some_iff.mp hc).1
        simpa using this
      rw [e] at hc
      have : c = c' := by simpa using hc
      subst this
      refine ⟨p, o, ?_, upd_same, rc.le s.le s.pre fun _ _ z => z⟩
      have e2 : n = ρ.length := by rw [← r.len]; omega
      rw [e2]
      simp
  · obtain ⟨h1, o', h2, h3⟩ := r.hid b hb
    refine ⟨fun z => ?_, o', by rw [upd_ne (ne_of_none h2 h)]; exact h2, h3⟩
    rcases List.mem_append.mp z with z | z
    · exact h1 z
    · have : b = p := by simpa using z
      subst this
      exact f.1 hb
theorem Rel.laidRef {B ρ : List Addr} {en : Nv} {st : Sto} {σ : L2.St} {H : Hp} (r : Rel oS G B ρ en st σ H) {p : Addr} {c : Cell} {o : HO} (h : H p = none) (rc : RepC G (vis B ρ H) ρ (oS σ) c o) : Rel oS G B (ρ ++ [p]) en (st ++ [c]) σ (upd H p o) :=
  ⟨r.sto.laidRef h rc, r.len, fun i u hu => by
    obtain ⟨v, h1, h2⟩ := r.env i u hu
    exact ⟨v, h1, h2.stp (Stp.laidRef h)⟩⟩
theorem se_ref {es : List Expr} {f : SemA} {pos : Pos} (h : SA X oS G W es f) : SE X oS G W (.List es pos) (mRef f) := by
  refine PE.imp (pe_lst h) fun σ H Q ⟨B, ρ, en, st, R, h⟩ => ?_
  refine ⟨B, ρ, en, st, R, (PostE.bind h).mono fun us st1 ρ1 H1 _ s1 R1 h1 vs rvs => ?_⟩
  split at h1
  · rename_i hz
    rw [rvs.length] at hz
    refine ⟨hz, fun p hp => ?_⟩
    refine h1 (ρ1 ++ [p]) _ (Stp.laidRef hp) (R1.laidRef hp (.lst hz rvs)) _ (.ref ?_)
    rw [R1.sto.len]
    simp
  · exact h1.elim

/-! ## subscripts -/
def gIx (u w : U) (st : Sto) : Res U := match w with
  | .d (.int i) => (match u with
    | .d (.str z) => if z.length ≤ sizeLine then (match atI z.cps.toList i with
      | some c => .ok (.d (.str ⟨#[c]⟩)) st
      | none => .bad) else .bad
    | _ => (match seqOf st u with
      | some l => (match atI l i with
        | some x => .ok x st
        | none => .bad)
      | none => .bad))
  | _ => .bad
theorem atI_rep {G : Gd} {H : Hp} {ρ : List Addr} {own : OwnV} {l : List U} {vs : List V} {i : Int} {u : U} (r : RepUs G H ρ own l vs) (h : atI l i = some u) : ∃ v, atI vs i = some v ∧ RepU G H ρ own u v := by
  unfold atI at h ⊢
  rw [← r.length]
  cases e : ixN l.length i with
  | none => rw [e] at h; cases h
  | some j =>
    rw [e] at h
    exact r.get h
theorem ops_ix : OpS oS G W (rIx G.K) gIx := by
  intro B ρ en st σ H u w x y Q R ru rw' h
  unfold gIx at h
  split at h
  · rename_i i
    cases rw' with
    | d rw' =>
      cases rw'
      split at h
      · rename_i z
        split at h
        · rename_i hz
          split at h
          · rename_i c hc
            cases ru with
            | d ru => cases ru; exact .inr (.inr ⟨z, i, c, rfl, rfl, hz, hc, h ρ H (Stp.refl _ _) R _ (.d (.str _))⟩)
          · exact h.elim
        · exact h.elim
      · split at h
        · rename_i l hl
          split at h
          · rename_i x0 hx
            obtain ⟨a, vs, rfl, sq, rs, hz⟩ := seq_rep R ru hl
            obtain ⟨v, hv, rv⟩ := atI_rep rs hx
            have q := h ρ H (Stp.refl _ _) R v rv
            rcases sq with sq | sq
            · exact .inl ⟨a, vs, i, v, rfl, rfl, .inl sq, hv, q⟩
            · exact .inr (.inl ⟨a, vs, i, v, rfl, rfl, sq, hv, q⟩)
          · exact h.elim
        · exact h.elim
  · exact h.elim
theorem se_ix {a b : Expr} {fa fb : SemE} {pos : Pos} (hK : X.K = G.K) (ha : SE X oS G W a fa) (hb : SE X oS G W b fb) (hs : PlainIx b := by intro _ _; rfl) : SE X oS G W (.Subscript a b pos) (mOp gIx fa fb) :=
  PE.imp (pe_ix (by rw [← hK]; exact ix_seq) ha hb hs) fun _ _ _ h => rd_op ops_ix h
/-! slices -/
def cutL {α : Type} (xs : List α) (lo hi : Option Int) : List α := (xs.drop (HT.sIx xs.length 0 lo)).take (HT.sIx xs.length xs.length hi - HT.sIx xs.length 0 lo)
theorem RepDs.cut {K : PySem.W.Frag} {H : Hp} {ds : List D} {vs : List V} (q : RepDs K H ds vs) (l u : Option Int) : RepDs K H (cutL ds l u) (cutV vs l u) := by
  unfold cutL cutV
  rw [← q.length]
  exact (q.drop _).take _
abbrev SemO := Nv → Sto → Res (Option Int)
def rdO (oS : OwnS) (G : Gd) (W : WX) (f : SemO) : L2.St → Hp → (Option Int → Hp → Prop) → Prop := fun σ H Q => ∃ B ρ en st, Rel oS G B ρ en st σ H ∧ PostE oS G W B ρ en σ H (fun u ρ' H' _ => Q u H') (f en st)
def SO (X : Cx) (oS : OwnS) (G : Gd) (W : WX) (e : Option Expr) (f : SemO) : Prop := PO X e (rdO oS G W f)
def mNoPart : SemO := fun _ st => .ok none st
def mPart (f : SemE) : SemO := fun en st => (f en st).bind fun u st => match u with
  | .d (.int i) => .ok (some i) st
  | _ => .bad
theorem PO.imp {X : Cx} {e : Option Expr} {t t' : TO} (h : PO X e t) (i : ∀ σ H Q, t' σ H Q → t σ H Q) : PO X e t' := ⟨fun pins s σ H Q I w => h.run pins s σ H Q I (i σ H Q w)⟩
theorem so_none : SO X oS G W none mNoPart := PO.imp po_none fun σ H Q ⟨B, ρ, en, st, R, h⟩ => h ρ H (Stp.refl _ _) R
theorem so_some {e : Expr} {f : SemE} (h : SE X oS G W e f) : SO X oS G W (some e) (mPart f) := by
  refine PO.imp (po_some h) fun σ H Q ⟨B, ρ, en, st, R, h⟩ => ?_
  refine ⟨B, ρ, en, st, R, (PostE.bind h).mono fun u st1 ρ1 H1 _ s1 R1 h1 v rv => ?_⟩
  split at h1
  · cases rv with
    | d rv => cases rv; exact ⟨_, rfl, h1 ρ1 H1 (Stp.refl _ _) R1⟩
  · exact h1.elim
def gSl (u : U) (lo hi : Option Int) (st : Sto) : Res U := match u with
  | .d (.str z) => if z.length ≤ sizeLine then .ok (.d (.str (cutS z lo hi))) st else .bad
  | .d (.tuple l) => .ok (.d (.tuple (cutL l lo hi))) st
  | .d (.list l) => .ok (.d (.list (cutL l lo hi))) st
  | _ => .bad
def mSl (f : SemE) (lo hi : SemO) : SemE := fun en st => (f en st).bind fun u st => (lo en st).bind fun l st => (hi en st).bind fun h st => gSl u l h st
theorem sl_all : SlR X (fun x lo hi H Q => rSlS x lo hi H Q ∨ rSlA X.K x lo hi H Q ∨ rSlL X.K x lo hi H Q) := SlR.or sl_str (SlR.or sl_tupA sl_list)
theorem se_sl {a : Expr} {lo hi : Option Expr} {f : SemE} {fl fh : SemO} {p2 pos : Pos} (hK : X.K = G.K) (ha : SE X oS G W a f) (hl : SO X oS G W lo fl) (hh : SO X oS G W hi fh) : SE X oS G W (.Subscript a (.Slice lo hi none p2) pos) (mSl f fl fh) := by
  refine PE.imp (pe_slice sl_all ha hl hh) fun σ H Q ⟨B, ρ, en, st, R, h⟩ => ?_
  refine ⟨B, ρ, en, st, R, (PostE.bind h).mono fun u st1 ρ1 H1 _ s1 R1 h1 x rx => ?_⟩
  refine ⟨B, ρ1, en, st1, R1, (PostE.bind h1).mono fun l st2 ρ2 H2 _ s2 R2 h2 => ?_⟩
  refine ⟨B, ρ2, en, st2, R2, (PostE.bind h2).mono fun u' st3 ρ3 H3 _ s3 R3 h3 => ?_⟩
  have rx3 := (rx.stp s2).stp s3
  unfold gSl at h3
  split at h3
  · split at h3
    · rename_i hz
      cases rx3 with
      | d rx3 => cases rx3; exact .inl ⟨_, rfl, hz, h3 ρ3 H3 (Stp.refl _ _) R3 _ (.d (.str _))⟩
    · exact h3.elim
  · cases rx3 with
    | d rx3 =>
      cases rx3 with
      | @tuple a0 vs0 l0 s z r =>
        have hz : (cutV vs0 l u').length ≤ sizeLine := Nat.le_trans (cutV_length vs0 l u') z
        have o := out_of R3 h3
        refine .inr (.inl ⟨_, _, rfl, by rw [hK]; exact SqT.le vis_le s, fun w => ?_, fun w p hp => ?_⟩)
        · refine o.1 _ (.tuple s z ?_)
          have e : cutV vs0 l u' = vs0 := by
            unfold cutV
            rw [w.1, w.2]
            simp
          have q := r.cut l u'
          rw [e] at q
          exact q
        · have f := R3.sto.fresh hp
          exact o.2 p _ _ hp (.tuple (SqT.of upd_same) hz ((r.le (le_new vis_le hp)).cut l u'))
  · cases rx3 with
    | d rx3 =>
      cases rx3 with
      | @list a0 vs0 l0 s z r =>
        have hz : (cutV vs0 l u').length ≤ sizeLine := Nat.le_trans (cutV_length vs0 l u') z
        have o := out_of R3 h3
        refine .inr (.inr ⟨_, _, rfl, .inl (Rd.le vis_le nt_lst s), fun p hp => ?_⟩)
        exact o.2 p _ _ hp (.list (.inl upd_same) hz ((r.le (le_new vis_le hp)).cut l u'))
  · exact h3.elim
end
end TT
set_option Elab.async false
set_option linter.all false
set_option maxRecDepth 100000
set_option maxHeartbeats 2000000
namespace TT
open PySem PySem.Spec PyProof.Rows L2

/-! ## calls of what the language has -/
def CallS (oS : OwnS) (G : Gd) (W : WX) (r : List V → Hp → VK → Prop) (g : List U → Sto → Res U) : Prop :=
  ∀ (B ρ : List Addr) (en : Nv) (st : Sto) (σ : L2.St) (H : Hp) (us : List U) (vs : List V) (Q : VK), Rel oS G B ρ en st σ H → RepUs G (vis B ρ H) ρ (oS σ) us vs →
    PostE oS G W B ρ en σ H (fun u ρ' H' _ => ∀ v, RepU G (vis B ρ' H') ρ' (oS σ) u v → Q v H') (g us st) → r vs H Q
def mCB (g : List U → Sto → Res U) (f : SemA) : SemE := fun en st => (f en st).bind g
section
variable {X : Cx} {oS : OwnS} {G : Gd} {W : WX}
theorem rd_CB {r : List V → Hp → VK → Prop} {g : List U → Sto → Res U} {f : SemA} (hg : CallS oS G W r g) {σ : L2.St} {H : Hp} {Q : VK} (h : rdE oS G W (mCB g f) σ H Q) : tCB r (rdA oS G W f) σ H Q := by
  obtain ⟨B, ρ, en, st, R, h⟩ := h
  refine ⟨B, ρ, en, st, R, (PostE.bind h).mono fun us st1 ρ1 H1 _ s1 R1 h1 vs rvs => ?_⟩
  exact hg B ρ1 en st1 σ H1 us vs Q R1 rvs h1
theorem se_callB {r : List V → Hp → VK → Prop} {g : List U → Sto → Res U} {id : String} {x : Str} {p pos : Pos} {e : Expr} {es : List Expr} {f : SemA} (hc : CallR X (.builtin id) r) (hs : CallS oS G W r g) (hg : Gl X x) (hm : X.mg x = none) (hv : bootBuiltins x = some (.builtin id)) (ha : SA X oS G W (e :: es) f)
    (hn : x ≠ "__name__" := by decide) (hdb : (x == ("__debug__" : Str)) = false := by decide) (na : starEach (e :: es) X.env = (false, eval e X.env) :: starEach es X.env := by rfl) (npl : (backTo pos (starEach es X.env)).any (·.1) = false := by rfl) :
    SE X oS G W (.Call (.Name x p) (e :: es) [] pos) (mCB g f) := by
  refine PE.imp (pe_callB hc hg hm hv ha hn hdb ?_ ?_) fun _ _ _ h => rd_CB hs h
  all_goals assumption
theorem se_callTy {r : List V → Hp → VK → Prop} {g : List U → Sto → Res U} {T : String} {x : Str} {p pos : Pos} {e : Expr} {es : List Expr} {f : SemA} (hc : CallR X (.type T) r) (hs : CallS oS G W r g) (hg : Gl X x) (hm : X.mg x = none) (hv : bootBuiltins x = some (.type T)) (ha : SA X oS G W (e :: es) f)
    (hn : x ≠ "__name__" := by decide) (hdb : (x == ("__debug__" : Str)) = false := by decide) (na : starEach (e :: es) X.env = (false, eval e X.env) :: starEach es X.env := by rfl) (npl : (backTo pos (starEach es X.env)).any (·.1) = false := by rfl) :
    SE X oS G W (.Call (.Name x p) (e :: es) [] pos) (mCB g f) := by
  refine PE.imp (pe_callTy hc hg hm hv ha hn hdb ?_ ?_) fun _ _ _ h => rd_CB hs h
  all_goals assumption
/-! ### len -/
def gLen : List U → Sto → Res U
  | [.d (.str z)], st => if z.length ≤ sizeLine then .ok (.d (.int z.length)) st else .bad
  | [u], st => (match seqOf st u with
    | some l => .ok (.d (.int l.length)) st
    | none => .bad)
  | _, _ => .bad
theorem cs_len : CallS oS G W (fun xs H Q => ∃ x n, xs = [x] ∧ LenV G.K x H n ∧ Q (.int n) H) gLen := by
  intro B ρ en st σ H us vs Q R r h
  unfold gLen at h
  split at h
  · rename_i z
    split at h
    · rename_i hz
      cases r with
      | cons a b => cases b; cases a with
        | d a => cases a; exact ⟨_, _, rfl, ⟨hz, rfl⟩, h ρ H (Stp.refl _ _) R _ (.d (.int _))⟩
    · exact h.elim
  · rename_i u _ _
    split at h
    · rename_i l hl
      cases r with
      | cons a b =>
        cases b
        obtain ⟨p, ws, rfl, sq, rs, hz⟩ := seq_rep R a hl
        refine ⟨_, l.length, rfl, ?_, h ρ H (Stp.refl _ _) R _ (.d (.int _))⟩
        rcases sq with sq | sq
        · exact .inl ⟨ws, .inl sq, rs.length⟩
        · exact .inr ⟨ws, sq, rs.length⟩
    · exact h.elim
  · exact h.elim
/-! ### all, any, sum -/
def boolsOf : List U → Option (List Bool)
  | [] => some []
  | .d (.bool b) :: r => (match boolsOf r with
    | some l => some (b :: l)
    | none => none)
  | _ :: _ => none
theorem boolsOf_rep {H : Hp} {ρ : List Addr} {own : OwnV} : ∀ {us : List U} {vs : List V} {l : List Bool}, RepUs G H ρ own us vs → boolsOf us = some l → vs = l.map V.bl
  | _, _, _, .nil, h => by cases h; rfl
  | _, _, _, .cons (d := u) a b, h => by
    cases a with
    | d a =>
      cases a with
      | bool i =>
        rw [boolsOf] at h
        split at h
        · rename_i l' e
          cases h
          rw [boolsOf_rep b e]; rfl
        · cases h
      | _ => simp [boolsOf] at h
    | _ => simp [boolsOf] at h
def gAll : List U → Sto → Res U
  | [u], st => (match (seqOf st u).bind boolsOf with
    | some l => .ok (.d (.bool (l.all id))) st
    | none => .bad)
  | _, _ => .bad
def gAny : List U → Sto → Res U
  | [u], st => (match (seqOf st u).bind boolsOf with
    | some l => .ok (.d (.bool (l.any id))) st
    | none => .bad)
  | _, _ => .bad
/-- a list, whatever is in it -/
def lstOf (st : Sto) : U → Option (List U)
  | .d (.list l) => some (l.map U.d)
  | .ref n => (match st[n]? with
    | some (.lst l) => some l
    | _ => none)
  | _ => none
theorem lst_rep {B ρ : List Addr} {en : Nv} {st : Sto} {σ : L2.St} {H : Hp} {u : U} {x : V} {l : List U} (R : Rel oS G B ρ en st σ H) (ru : RepU G (vis B ρ H) ρ (oS σ) u x) (h : lstOf st u = some l) :
    ∃ a vs, x = .ref a ∧ Rd H a (.lst vs) ∧ RepUs G (vis B ρ H) ρ (oS σ) l vs ∧ vs.length ≤ sizeLine := by
  unfold lstOf at h
  split at h
  · cases h
    cases ru with
    | d r =>
      cases r with
      | list s z r => exact ⟨_, _, rfl, Rd.le vis_le nt_lst s, RepUs.ofD r, z⟩
  · split at h
    · rename_i n l' e
      cases h
      cases ru with
      | ref hn =>
        obtain ⟨c, o, h1, h2, h3⟩ := R.sto.at hn
        rw [e] at h1
        cases h1
        cases h3 with
        | lst z r => exact ⟨_, _, rfl, .inl h2, r, z⟩
    · cases h
  · cases h
def gAllL : List U → Sto → Res U
  | [u], st => (match (lstOf st u).bind boolsOf with
    | some l => .ok (.d (.bool (l.all id))) st
    | none => .bad)
  | _, _ => .bad
def gAnyL : List U → Sto → Res U
  | [u], st => (match (lstOf st u).bind boolsOf with
    | some l => .ok (.d (.bool (l.any id))) st
    | none => .bad)
  | _, _ => .bad
theorem cs_all : CallS oS G W (rAll G.K) gAllL := by
  intro B ρ en st σ H us vs Q R r h
  unfold gAllL at h
  split at h
  · rename_i u
    split at h
    · rename_i l hl
      cases r with
      | cons a b =>
        cases b
        obtain ⟨l0, h0, h1⟩ := Option.bind_eq_some_iff.mp hl
        obtain ⟨p, ws, rfl, sq, rs, hz⟩ := lst_rep R a h0
        have e := boolsOf_rep rs h1
        subst e
        exact ⟨p, l, rfl, .inl sq, h ρ H (Stp.refl _ _) R _ (.d (.bool _))⟩
    · exact h.elim
  · exact h.elim
theorem cs_any : CallS oS G W (rAny G.K) gAnyL := by
  intro B ρ en st σ H us vs Q R r h
  unfold gAnyL at h
  split at h
  · rename_i u
    split at h
    · rename_i l hl
      cases r with
      | cons a b =>
        cases b
        obtain ⟨l0, h0, h1⟩ := Option.bind_eq_some_iff.mp hl
        obtain ⟨p, ws, rfl, sq, rs, hz⟩ := lst_rep R a h0
        have e := boolsOf_rep rs h1
        subst e
        exact ⟨p, l, rfl, .inl sq, h ρ H (Stp.refl _ _) R _ (.d (.bool _))⟩
    · exact h.elim
  · exact h.elim
def intsU : List U → Option (List Int)
  | [] => some []
  | .d (.int b) :: r => (match intsU r with
    | some l => some (b :: l)
    | none => none)
  | _ :: _ => none
theorem intsU_rep {H : Hp} {ρ : List Addr} {own : OwnV} : ∀ {us : List U} {vs : List V} {l : List Int}, RepUs G H ρ own us vs → intsU us = some l → vs = l.map V.int
  | _, _, _, .nil, h => by cases h; rfl
  | _, _, _, .cons (d := u) a b, h => by
    cases a with
    | d a =>
      cases a with
      | int i =>
        rw [intsU] at h
        split at h
        · rename_i l' e
          cases h
          rw [intsU_rep b e]; rfl
        · cases h
      | _ => simp [intsU] at h
    | _ => simp [intsU] at h
theorem intsU_map (l : List Int) : intsU (l.map fun i => U.d (.int i)) = some l := by
  induction l with
  | nil => rfl
  | cons a l ih => rw [List.map_cons, intsU, ih]
def gSum : List U → Sto → Res U
  | [u], st => (match (lstOf st u).bind intsU with
    | some l => .ok (.d (.int l.sum)) st
    | none => .bad)
  | _, _ => .bad
theorem cs_sum : CallS oS G W (rSum G.K) gSum := by
  intro B ρ en st σ H us vs Q R r h
  unfold gSum at h
  split at h
  · rename_i u
    split at h
    · rename_i l hl
      cases r with
      | cons a b =>
        cases b
        obtain ⟨l0, h0, h1⟩ := Option.bind_eq_some_iff.mp hl
        obtain ⟨p, ws, rfl, sq, rs, hz⟩ := lst_rep R a h0
        have e := intsU_rep rs h1
        subst e
        exact ⟨p, l, rfl, .inl sq, h ρ H (Stp.refl _ _) R _ (.d (.int _))⟩
    · exact h.elim
  · exact h.elim
/-! ### ints -/
def g1I (g : Int → D) : List U → Sto → Res U
  | [.d (.int i)], st => .ok (.d (g i)) st
  | _, _ => .bad
def gAbs := g1I fun i => .int (if i < 0 then -i else i)
theorem cs_abs : CallS oS G W (fun xs H Q => ∃ i, xs = [.int i] ∧ Q (.int (if i < 0 then -i else i)) H) gAbs := by
  intro B ρ en st σ H us vs Q R r h
  unfold gAbs g1I at h
  split at h
  · cases r with
    | cons a b => cases b; cases a with
      | d a => cases a; exact ⟨_, rfl, h ρ H (Stp.refl _ _) R _ (.d (.int _))⟩
  · exact h.elim
def g2I (g : Int → Int → D) : List U → Sto → Res U
  | [.d (.int i), .d (.int j)], st => .ok (.d (g i j)) st
  | _, _ => .bad
def gMax2 := g2I fun i j => .int (if j > i then j else i)
def gMin2 := g2I fun i j => .int (if j < i then j else i)
theorem cs_max2 : CallS oS G W (fun xs H Q => ∃ i j, xs = [.int i, .int j] ∧ Q (.int (if j > i then j else i)) H) gMax2 := by
  intro B ρ en st σ H us vs Q R r h
  unfold gMax2 g2I at h
  split at h
  · cases r with
    | cons a b => cases b with
      | cons a2 b => cases b; cases a with
        | d a => cases a; cases a2 with
          | d a2 => cases a2; exact ⟨_, _, rfl, h ρ H (Stp.refl _ _) R _ (.d (.int _))⟩
  · exact h.elim
theorem cs_min2 : CallS oS G W (fun xs H Q => ∃ i j, xs = [.int i, .int j] ∧ Q (.int (if j < i then j else i)) H) gMin2 := by
  intro B ρ en st σ H us vs Q R r h
  unfold gMin2 g2I at h
  split at h
  · cases r with
    | cons a b => cases b with
      | cons a2 b => cases b; cases a with
        | d a => cases a; cases a2 with
          | d a2 => cases a2; exact ⟨_, _, rfl, h ρ H (Stp.refl _ _) R _ (.d (.int _))⟩
  · exact h.elim
def gDivmod : List U → Sto → Res U
  | [.d (.int i), .d (.int j)], st => if 0 < j ∧ j < 1073741824 then .ok (.d (.tuple [.int (i / j), .int (i % j)])) st else .bad
  | _, _ => .bad
theorem cs_divmod : CallS oS G W (fun xs H Q => ∃ i j, xs = [.int i, .int j] ∧ CDiv i j ∧ ∀ p, H p = none → Q (.ref p) (upd H p (.tup [.int (i / j), .int (i % j)]))) gDivmod := by
  intro B ρ en st σ H us vs Q R r h
  unfold gDivmod at h
  split at h
  · split at h
    · rename_i hj
      cases r with
      | cons a b => cases b with
        | cons a2 b => cases b; cases a with
          | d a => cases a; cases a2 with
            | d a2 =>
              cases a2
              refine ⟨_, _, rfl, hj, fun p hp => ?_⟩
              exact (out_of R h).2 p _ _ hp (.tuple (SqT.of upd_same) (by show 2 ≤ sizeLine; rw [sizeLine_eq]; decide) (.cons (.int _) (.cons (.int _) .nil)))
    · exact h.elim
  · exact h.elim
def gInt : List U → Sto → Res U
  | [.d (.int i)], st => .ok (.d (.int i)) st
  | [.d (.bool b)], st => .ok (.d (.int (if b then 1 else 0))) st
  | [.d (.str z)], st => (match PySem.intText? z with
    | some n => if z.length ≤ 640 then .ok (.d (.int n)) st else .bad
    | none => .bad)
  | _, _ => .bad
theorem CallR.or {f : Value} {r r' : List V → Hp → VK → Prop} (h : CallR X f r) (h' : CallR X f r') : CallR X f (fun xs H Q => r xs H Q ∨ r' xs H Q) := fun pins s σ H xs us Q I rs q => q.elim (h pins s σ H xs us Q I rs) (h' pins s σ H xs us Q I rs)
def rInt : List V → Hp → VK → Prop := fun xs H Q => ((∃ i, xs = [.int i] ∧ Q (.int i) H) ∨ ∃ k, xs = [.bl k] ∧ Q (.int (if k then 1 else 0)) H) ∨ (∃ a n, xs = [.str a] ∧ PySem.intText? a = some n ∧ a.length ≤ 640 ∧ Q (.int n) H)
theorem call_int : CallR X (.type "int") rInt := CallR.or call_int1 call_int_str
theorem cs_int : CallS oS G W rInt gInt := by
  intro B ρ en st σ H us vs Q R r h
  unfold gInt at h
  split at h
  · cases r with
    | cons a b => cases b; cases a with
      | d a => cases a; exact .inl (.inl ⟨_, rfl, h ρ H (Stp.refl _ _) R _ (.d (.int _))⟩)
  · cases r with
    | cons a b => cases b; cases a with
      | d a => cases a; exact .inl (.inr ⟨_, rfl, h ρ H (Stp.refl _ _) R _ (.d (.int _))⟩)
  · split at h
    · rename_i n hn
      split at h
      · rename_i hz
        cases r with
        | cons a b => cases b; cases a with
          | d a => cases a; exact .inr ⟨_, n, rfl, hn, hz, h ρ H (Stp.refl _ _) R _ (.d (.int _))⟩
      · exact h.elim
    · exact h.elim
  · exact h.elim
def gStrI : List U → Sto → Res U
  | [.d (.int i)], st => if i.natAbs.log2 < 1920 then .ok (.d (.str (toString i))) st else .bad
  | _, _ => .bad
theorem cs_strI : CallS oS G W (fun xs H Q => ∃ i, xs = [.int i] ∧ i.natAbs.log2 < 1920 ∧ Q (.str (toString i)) H) gStrI := by
  intro B ρ en st σ H us vs Q R r h
  unfold gStrI at h
  split at h
  · split at h
    · rename_i hz
      cases r with
      | cons a b => cases b; cases a with
        | d a => cases a; exact ⟨_, rfl, hz, h ρ H (Stp.refl _ _) R _ (.d (.str _))⟩
    · exact h.elim
  · exact h.elim
/-! ### tuple(..), list(..) -/
def gTuple : List U → Sto → Res U
  | [.d (.tuple l)], st => .ok (.d (.tuple l)) st
  | [u], st => (match (lstOf st u).bind allD with
    | some l => .ok (.d (.tuple l)) st
    | none => .bad)
  | _, _ => .bad
theorem cs_tuple : CallS oS G W (fun xs H Q => ∃ p ys, xs = [.ref p] ∧ ((SqL G.K H p ys ∧ ∀ l, H l = none → Q (.ref l) (upd H l (.tup ys))) ∨ (SqT G.K H p ys ∧ Q (.ref p) H))) gTuple := by
  intro B ρ en st σ H us vs Q R r h
  unfold gTuple at h
  split at h
  · cases r with
    | cons a b => cases b; cases a with
      | d a => cases a with
        | tuple s z r => exact ⟨_, _, rfl, .inr ⟨SqT.le vis_le s, h ρ H (Stp.refl _ _) R _ (.d (.tuple s z r))⟩⟩
  · split at h
    · rename_i l hl
      cases r with
      | cons a b =>
        cases b
        obtain ⟨l0, h0, h1⟩ := Option.bind_eq_some_iff.mp hl
        obtain ⟨p, ws, rfl, sq, rs, hz⟩ := lst_rep R a h0
        refine ⟨p, ws, rfl, .inl ⟨.inl sq, fun q hq => ?_⟩⟩
        exact (out_of R h).2 q _ _ hq (.tuple (SqT.of upd_same) hz ((rs.allD h1).le (le_new vis_le hq)))
    · exact h.elim
  · exact h.elim
def gList : List U → Sto → Res U
  | [u], st => (match (seqOf st u).bind allD with
    | some l => .ok (.d (.list l)) st
    | none => .bad)
  | _, _ => .bad
abbrev rListOf (K : PySem.W.Frag) : List V → Hp → VK → Prop := fun xs H Q => ∃ p ys, xs = [.ref p] ∧ (SqL K H p ys ∨ SqT K H p ys) ∧ ∀ l, H l = none → Q (.ref l) (upd H l (.lst ys))
theorem cs_list : CallS oS G W (rListOf G.K) gList := by
  intro B ρ en st σ H us vs Q R r h
  unfold gList at h
  split at h
  · split at h
    · rename_i l hl
      cases r with
      | cons a b =>
        cases b
        obtain ⟨l0, h0, h1⟩ := Option.bind_eq_some_iff.mp hl
        obtain ⟨p, ws, rfl, sq, rs, hz⟩ := seq_rep R a h0
        refine ⟨p, ws, rfl, ?_, fun q hq => ?_⟩
        · rcases sq with sq | sq
          · exact .inl (.inl sq)
          · exact .inr sq
        · exact (out_of R h).2 q _ _ hq (.list (.inl upd_same) hz ((rs.allD h1).le (le_new vis_le hq)))
    · exact h.elim
  · exact h.elim
/-- .. one that will be changed -/
def gListR : List U → Sto → Res U
  | [u], st => (match seqOf st u with
    | some l => .ok (.ref st.length) (st ++ [.lst l])
    | none => .bad)
  | _, _ => .bad
theorem cs_listR : CallS oS G W (rListOf G.K) gListR := by
  intro B ρ en st σ H us vs Q R r h
  unfold gListR at h
  split at h
  · split at h
    · rename_i l hl
      cases r with
      | cons a b =>
        cases b
        obtain ⟨p, ws, rfl, sq, rs, hz⟩ := seq_rep R a hl
        refine ⟨p, ws, rfl, ?_, fun q hq => ?_⟩
        · rcases sq with sq | sq
          · exact .inl (.inl sq)
          · exact .inr sq
        · refine h (ρ ++ [q]) _ (Stp.laidRef hq) (R.laidRef hq (.lst hz rs)) _ (.ref ?_)
          rw [R.sto.len]
          simp
    · exact h.elim
  · exact h.elim
/-! ### isinstance -/
def tyNm : D → String
  | .none => "NoneType"
  | .bool _ => "bool"
  | .int _ => "int"
  | .str _ => "str"
  | .list _ => "list"
  | .tuple _ => "tuple"
  | .dict _ => "dict"
def isT (T : String) (d : D) : Bool := (tyNm d == T) || (T == "int" && tyNm d == "bool")
theorem kit_all : ∀ t ∈ ["NoneType", "bool", "int", "str", "list", "tuple", "dict"], ∀ T ∈ ["bool", "int", "str", "list", "tuple", "dict"], kitB t T = some ((t == T) || (T == "int" && t == "bool")) := by decide +kernel
theorem tyNm_mem (d : D) : tyNm d ∈ ["NoneType", "bool", "int", "str", "list", "tuple", "dict"] := by cases d <;> simp [tyNm]
def noDct : D → Bool
  | .dict _ => false
  | _ => true
theorem tyx_of {K : PySem.W.Frag} {Hv H : Hp} {d : D} {x : V} (le : Le Hv H) (r : RepD K Hv d x) (hd : noDct d = true) : TyX K H x (.type (tyNm d)) := by
  cases r with
  | none => exact .base .non
  | bool b => exact .base (.bl b)
  | int i => exact .base (.int i)
  | str y => exact .base (.str y)
  | list s z r =>
    rcases Rd.le le nt_lst s with s | ⟨o, s⟩
    · exact .base (.lst s)
    · exact .base (.frz s)
  | tuple s z r =>
    rcases SqT.le le s with (s | ⟨o, s⟩) | ⟨o, its, n, h1, h2, _⟩
    · exact .base (.tup s)
    · exact .fTuple s
    · exact .kTuple h1 h2
  | dK s r => cases hd
  | dT s r => cases hd
def tyNms : List String := ["bool", "int", "str", "list", "tuple", "dict"]
def gIs (T : String) : List U → Sto → Res U
  | [.d x, _], st => if noDct x = true then .ok (.d (.bool (isT T x))) st else .bad
  | _, _ => .bad
/-- isinstance(e, T), T the name of a built-in type -/
def mIs (T : String) (f : SemE) : SemE := fun en st => (f en st).bind fun u st => match u with
  | .d x => if noDct x = true then .ok (.d (.bool (isT T x))) st else .bad
  | _ => .bad
theorem se_is {T : String} {x y : Str} {e : Expr} {f : SemE} {p q pos : Pos} (hT : T ∈ tyNms) (hK : X.K = G.K) (he : SE X oS G W e f) (hg : Gl X x) (hm : X.mg x = none) (hv : bootBuiltins x = some (.builtin "isinstance")) (hg2 : Gl X y) (hm2 : X.mg y = none) (hv2 : bootBuiltins y = some (.type T))
    (hn : x ≠ "__name__" := by decide) (hdb : (x == ("__debug__" : Str)) = false := by decide) (hn2 : y ≠ "__name__" := by decide) (hdb2 : (y == ("__debug__" : Str)) = false := by decide)
    (na : starEach (e :: [.Name y q]) X.env = (false, eval e X.env) :: starEach [.Name y q] X.env := by rfl) (npl : (backTo pos (starEach [.Name y q] X.env)).any (·.1) = false := by rfl) (na2 : starEach (.Name y q :: []) X.env = (false, eval (.Name y q) X.env) :: starEach [] X.env := by rfl) :
    SE X oS G W (.Call (.Name x p) [e, .Name y q] [] pos) (mIs T f) := by
  have ha : PA X [e, .Name y q] (tCons (rdE oS G W f) (tCons (tC (.ty T)) tNil)) := pa_cons he (pa_cons (pe_bltn hg2 hm2 hv2 (show RelV (V.ty T) _ from rfl) hn2 hdb2) pa_nil na2) na
  refine PE.imp (pe_callB call_isi hg hm hv ha hn hdb ?_ ?_) fun σ H Q ⟨B, ρ, en, st, R, h⟩ => ?_
  · assumption
  · assumption
  refine ⟨B, ρ, en, st, R, (PostE.bind h).mono fun u st1 ρ1 H1 _ s1 R1 h1 v rv => ?_⟩
  split at h1
  · split at h1
    · rename_i hd
      cases rv with
      | d rv =>
        refine ⟨v, .ty T, _, _, isT T _, rfl, .ty T, by rw [hK]; exact tyx_of vis_le rv hd, kit_ty (kit_all _ (tyNm_mem _) T hT), h1 ρ1 H1 (Stp.refl _ _) R1 _ (.d (.bool _))⟩
    · exact h1.elim
  · exact h1.elim
/-! ### list(range(..)), tuple(range(..)) -/
abbrev SemR := Nv → Sto → Res (Int × Int)
def rdR (oS : OwnS) (G : Gd) (W : WX) (f : SemR) : L2.St → Hp → (Int → Int → Hp → Prop) → Prop := fun σ H Q => ∃ B ρ en st, Rel oS G B ρ en st σ H ∧ PostE oS G W B ρ en σ H (fun u ρ' H' _ => Q u.1 u.2 H') (f en st)
def SR (X : Cx) (oS : OwnS) (G : Gd) (W : WX) (e : Expr) (f : SemR) : Prop := PRg X e (rdR oS G W f)
theorem PRg.imp {X : Cx} {e : Expr} {t t' : L2.St → Hp → (Int → Int → Hp → Prop) → Prop} (h : PRg X e t) (i : ∀ σ H Q, t' σ H Q → t σ H Q) : PRg X e t' := fun pins s σ H Q I w => h pins s σ H Q I (i σ H Q w)
def mR1 (f : SemE) : SemR := fun en st => (f en st).bind fun u st => match u with
  | .d (.int n) => .ok (0, n) st
  | _ => .bad
def mR2 (f g : SemE) : SemR := fun en st => (f en st).bind fun u st => (g en st).bind fun w st => match u, w with
  | .d (.int n), .d (.int m) => .ok (n, m) st
  | _, _ => .bad
theorem sr_1 {a : Expr} {f : SemE} {p pos : Pos} (hg : Gl X "range") (hm : X.mg "range" = none) (ha : SE X oS G W a f) (na : starEach [a] X.env = (false, eval a X.env) :: starEach [] X.env := by rfl) : SR X oS G W (.Call (.Name "range" p) [a] [] pos) (mR1 f) := by
  refine PRg.imp (prg_1 hg hm ha na) fun σ H Q ⟨B, ρ, en, st, R, h⟩ => ?_
  refine ⟨B, ρ, en, st, R, (PostE.bind h).mono fun u st1 ρ1 H1 _ s1 R1 h1 v rv => ?_⟩
  split at h1
  · cases rv with
    | d rv => cases rv; exact ⟨_, rfl, h1 ρ1 H1 (Stp.refl _ _) R1⟩
  · exact h1.elim
theorem sr_2 {a b : Expr} {f g : SemE} {p pos : Pos} (hg : Gl X "range") (hm : X.mg "range" = none) (ha : SE X oS G W a f) (hb : SE X oS G W b g) (na : starEach [a, b] X.env = (false, eval a X.env) :: starEach [b] X.env := by rfl) (nb : starEach [b] X.env = (false, eval b X.env) :: starEach [] X.env := by rfl) (npl : (backTo pos (starEach [b] X.env)).any (·.1) = false := by rfl) : SR X oS G W (.Call (.Name "range" p) [a, b] [] pos) (mR2 f g) := by
  refine PRg.imp (prg_2 hg hm ha hb na nb npl) fun σ H Q ⟨B, ρ, en, st, R, h⟩ => ?_
  refine ⟨B, ρ, en, st, R, (PostE.bind h).mono fun u st1 ρ1 H1 _ s1 R1 h1 v rv => ?_⟩
  refine ⟨B, ρ1, en, st1, R1, (PostE.bind h1).mono fun w st2 ρ2 H2 _ s2 R2 h2 y ry => ?_⟩
  have rv2 := rv.stp s2
  split at h2
  · cases rv2 with
    | d rv2 => cases rv2; cases ry with
      | d ry => cases ry; exact ⟨_, _, rfl, rfl, h2 ρ2 H2 (Stp.refl _ _) R2⟩
  · exact h2.elim
def rgD (a b : Int) : List D := (List.range (b - a).toNat).map fun i => .int (a + (i : Nat))
theorem rg_rep {K : PySem.W.Frag} {H : Hp} (a b : Int) : RepDs K H (rgD a b) (rgV a b) := by
  unfold rgD rgV
  generalize List.range (b - a).toNat = l
  induction l with
  | nil => exact .nil
  | cons x l ih => exact .cons (.int _) ih
def rgOk (a b : Int) : Prop := -(2 ^ 62) ≤ a ∧ a < 2 ^ 62 ∧ -(2 ^ 62) ≤ b ∧ b < 2 ^ 62 ∧ (b - a).toNat ≤ 2 ^ 24
instance (a b : Int) : Decidable (rgOk a b) := by unfold rgOk; infer_instance
def mLstRg (f : SemR) : SemE := fun en st => (f en st).bind fun u st => if rgOk u.1 u.2 then .ok (.d (.list (rgD u.1 u.2))) st else .bad
def mTupRg (f : SemR) : SemE := fun en st => (f en st).bind fun u st => if rgOk u.1 u.2 then .ok (.d (.tuple (rgD u.1 u.2))) st else .bad
theorem se_listRg {e : Expr} {f : SemR} {p pos : Pos} (hc : X.calm = true) (hg : Gl X "list") (hm : X.mg "list" = none) (he : SR X oS G W e f) (na : starEach [e] X.env = (false, eval e X.env) :: starEach [] X.env := by rfl) : SE X oS G W (.Call (.Name "list" p) [e] [] pos) (mLstRg f) := by
  refine PE.imp (pe_listRg hc hg hm he na) fun σ H Q ⟨B, ρ, en, st, R, h⟩ => ?_
  refine ⟨B, ρ, en, st, R, (PostE.bind h).mono fun u st1 ρ1 H1 _ s1 R1 h1 => ?_⟩
  split at h1
  · rename_i ok
    refine ⟨ok, fun q hq => ?_⟩
    exact (out_of R1 h1).2 q _ _ hq (.list (.inl upd_same) (by rw [rgV_length, sizeLine_eq]; exact ok.2.2.2.2) (rg_rep _ _))
  · exact h1.elim
theorem se_tupRg {e : Expr} {f : SemR} {p pos : Pos} (hc : X.calm = true) (hg : Gl X "tuple") (hm : X.mg "tuple" = none) (he : SR X oS G W e f) (na : starEach [e] X.env = (false, eval e X.env) :: starEach [] X.env := by rfl) : SE X oS G W (.Call (.Name "tuple" p) [e] [] pos) (mTupRg f) := by
  refine PE.imp (pe_tupRg hc hg hm he na) fun σ H Q ⟨B, ρ, en, st, R, h⟩ => ?_
  refine ⟨B, ρ, en, st, R, (PostE.bind h).mono fun u st1 ρ1 H1 _ s1 R1 h1 => ?_⟩
  split at h1
  · rename_i ok
    refine ⟨ok, fun q hq => ?_⟩
    exact (out_of R1 h1).2 q _ _ hq (.tuple (SqT.of upd_same) (by rw [rgV_length, sizeLine_eq]; exact ok.2.2.2.2) (rg_rep _ _))
  · exact h1.elim
end
end TT
set_option Elab.async false
set_option linter.all false
set_option maxRecDepth 100000
set_option maxHeartbeats 2000000
namespace TT
open PySem PySem.Spec PyProof.Rows L2

/-! ## statements -/
abbrev SemS := Nv → Sto → RS
def PostS (oS : OwnS) (G : Gd) (W : WX) (B ρ : List Addr) (H : Hp) (Dn : Ends) : RS → Prop
  | .nx e s => ∀ ρ' H' σ', Stp ρ H ρ' H' → Rel oS G B ρ' e s σ' H' → Dn.nx σ' H'
  | .rt u s => ∀ ρ' H' σ' v, Stp ρ H ρ' H' → RelS G B ρ' (oS σ') s H' → RepU G (vis B ρ' H') ρ' (oS σ') u v → Dn.rt v H'
  | .bk e s => ∀ ρ' H' σ', Stp ρ H ρ' H' → Rel oS G B ρ' e s σ' H' → Dn.bk σ' H'
  | .ct e s => ∀ ρ' H' σ', Stp ρ H ρ' H' → Rel oS G B ρ' e s σ' H' → Dn.ct σ' H'
  | .exn c u e s => ∀ ρ' H' σ' (C : Addr) (d : Option Addr), Stp ρ H ρ' H' → Rel oS G B ρ' e s σ' H' → ExcR oS G B ρ' σ' H' c u C d → W (.ref C) d σ' H'
  | .bad => False
def rdS (oS : OwnS) (G : Gd) (W : WX) (f : SemS) : TS := fun Dn σ H => ∃ B ρ en st, Rel oS G B ρ en st σ H ∧ PostS oS G W B ρ H Dn (f en st)
def SS (X : Cx) (oS : OwnS) (G : Gd) (W : WX) (s : Stmt) (f : SemS) : Prop := PS X s (rdS oS G W f)
def SL (X : Cx) (oS : OwnS) (G : Gd) (W : WX) (s : List Stmt) (f : SemS) : Prop := PSs X s (rdS oS G W f)
theorem PS.imp {X : Cx} {e : Stmt} {t t' : TS} (h : PS X e t) (i : ∀ Dn σ H, t' Dn σ H → t Dn σ H) : PS X e t' := ⟨fun pins s σ H Dn I w => h.run pins s σ H Dn I (i Dn σ H w)⟩
theorem PSs.imp {X : Cx} {e : List Stmt} {t t' : TS} (h : PSs X e t) (i : ∀ Dn σ H, t' Dn σ H → t Dn σ H) : PSs X e t' := ⟨fun pins s σ H Dn I w => h.run pins s σ H Dn I (i Dn σ H w)⟩
section
variable {X : Cx} {oS : OwnS} {G : Gd} {W : WX} {B ρ ρ' : List Addr} {H H' : Hp}
theorem PostS.step {Dn : Ends} {r : RS} (s : Stp ρ H ρ' H') (h : PostS oS G W B ρ H Dn r) : PostS oS G W B ρ' H' Dn r := by
  cases r with
  | nx e st => exact fun ρ2 H2 σ2 s2 r2 => h ρ2 H2 σ2 (s.trans s2) r2
  | rt u st => exact fun ρ2 H2 σ2 v s2 r2 => h ρ2 H2 σ2 v (s.trans s2) r2
  | bk e st => exact fun ρ2 H2 σ2 s2 r2 => h ρ2 H2 σ2 (s.trans s2) r2
  | ct e st => exact fun ρ2 H2 σ2 s2 r2 => h ρ2 H2 σ2 (s.trans s2) r2
  | exn c u e st => exact fun ρ2 H2 σ2 C d s2 r2 => h ρ2 H2 σ2 C d (s.trans s2) r2
  | bad => exact h
/-- from an expression on -/
def Res.toS {α : Type} (en : Nv) : Res α → (α → Sto → RS) → RS
  | .ok a s, k => k a s
  | .exn c u s, _ => .exn c u en s
  | .bad, _ => .bad
theorem Rel.ofS {oS : OwnS} {G : Gd} {B ρ ρ' : List Addr} {en : Nv} {st st' : Sto} {σ : L2.St} {H H' : Hp} (R : Rel oS G B ρ en st σ H) (s : Stp ρ H ρ' H') (r : RelS G B ρ' (oS σ) st' H') : Rel oS G B ρ' en st' σ H' :=
  ⟨r, R.len, fun i u hu => by
    obtain ⟨v, h1, h2⟩ := R.env i u hu
    exact ⟨v, h1, h2.stp s⟩⟩
theorem postE_of {α : Type} {en : Nv} {st : Sto} {σ : L2.St} {Dn : Ends} {r : Res α} {k : α → Sto → RS} {Q : α → List Addr → Hp → Sto → Prop} (R : Rel oS G B ρ en st σ H) (h : PostS oS G W B ρ H Dn (r.toS en k))
    (i : ∀ u st' ρ' H', Stp ρ H ρ' H' → Rel oS G B ρ' en st' σ H' → PostS oS G W B ρ' H' Dn (k u st') → Q u ρ' H' st') : PostE oS G W B ρ en σ H Q r := by
  cases r with
  | ok u st' => exact fun ρ2 H2 s2 r2 => i u st' ρ2 H2 s2 r2 (PostS.step s2 h)
  | exn c u st' => exact fun ρ2 H2 C d s2 r2 x => h ρ2 H2 σ C d s2 (R.ofS s2 r2) x
  | bad => exact h
end
section
variable {X : Cx} {oS : OwnS} {G : Gd} {W : WX}
def mNext : SemS := fun en st => .nx en st
def RS.then : RS → SemS → RS
  | .nx e s, g => g e s
  | r, _ => r
def mSeq (f g : SemS) : SemS := fun en st => (f en st).then g
theorem sl_nil : SL X oS G W [] mNext := PSs.imp pss_nil fun Dn σ H ⟨B, ρ, en, st, R, h⟩ => h ρ H σ (Stp.refl _ _) R
theorem sl_cons {s : Stmt} {r : List Stmt} {f g : SemS} (h1 : SS X oS G W s f) (h2 : SL X oS G W r g) : SL X oS G W (s :: r) (mSeq f g) := by
  refine PSs.imp (pss_cons h1 h2) fun Dn σ H ⟨B, ρ, en, st, R, h⟩ => ?_
  refine ⟨B, ρ, en, st, R, ?_⟩
  unfold mSeq at h
  cases q : f en st with
  | nx e s => rw [q] at h; exact fun ρ1 H1 σ1 s1 R1 => ⟨B, ρ1, e, s, R1, PostS.step s1 h⟩
  | rt u s => rw [q] at h; exact h
  | bk e s => rw [q] at h; exact h
  | ct e s => rw [q] at h; exact h
  | exn c u e s => rw [q] at h; exact h
  | bad => rw [q] at h; exact h
theorem sl_one {s : Stmt} {f : SemS} (h1 : SS X oS G W s f) : SL X oS G W [s] f := pss_one h1
def mPass : SemS := fun en st => .nx en st
theorem ss_pass {pos : Pos} : SS X oS G W (.Pass pos) mPass := PS.imp ps_pass fun Dn σ H ⟨B, ρ, en, st, R, h⟩ => h ρ H σ (Stp.refl _ _) R
theorem ss_break {pos : Pos} : SS X oS G W (.Break pos) (fun en st => .bk en st) := PS.imp ps_break fun Dn σ H ⟨B, ρ, en, st, R, h⟩ => h ρ H σ (Stp.refl _ _) R
theorem ss_continue {pos : Pos} : SS X oS G W (.Continue pos) (fun en st => .ct en st) := PS.imp ps_continue fun Dn σ H ⟨B, ρ, en, st, R, h⟩ => h ρ H σ (Stp.refl _ _) R
def mExpr (f : SemE) : SemS := fun en st => (f en st).toS en fun _ st => .nx en st
theorem ss_expr {e : Expr} {f : SemE} {pos : Pos} (he : SE X oS G W e f) (hs : swapsWith e none pos.line X.env = pure false := by rfl) : SS X oS G W (.Expr e pos) (mExpr f) := by
  refine PS.imp (ps_expr he hs) fun Dn σ H ⟨B, ρ, en, st, R, h⟩ => ?_
  exact ⟨B, ρ, en, st, R, postE_of R h fun u st1 ρ1 H1 s1 R1 h1 v rv => h1 ρ1 H1 σ (Stp.refl _ _) R1⟩
def mRet (f : SemE) : SemS := fun en st => (f en st).toS en fun u st => .rt u st
theorem ss_ret {e : Expr} {f : SemE} {pos : Pos} (he : SE X oS G W e f) : SS X oS G W (.Return (some e) pos) (mRet f) := by
  refine PS.imp (ps_ret he) fun Dn σ H ⟨B, ρ, en, st, R, h⟩ => ?_
  exact ⟨B, ρ, en, st, R, postE_of R h fun u st1 ρ1 H1 s1 R1 h1 v rv => h1 ρ1 H1 σ v (Stp.refl _ _) R1.sto rv⟩
def mRetN : SemS := fun _ st => .rt (.d .none) st
theorem ss_retN {pos : Pos} : SS X oS G W (.Return none pos) mRetN := PS.imp ps_retN fun Dn σ H ⟨B, ρ, en, st, R, h⟩ => h ρ H σ .non (Stp.refl _ _) R.sto (.d .none)
def mIfS (t : SemT) (f g : SemS) : SemS := fun en st => (t en st).toS en fun c st => if c = true then f en st else g en st
theorem ss_if {c : Expr} {a b : List Stmt} {t : SemT} {f g : SemS} {pos : Pos} (hc : ST X oS G W c t) (ha : SL X oS G W a f) (hb : SL X oS G W b g) : SS X oS G W (.If c a b pos) (mIfS t f g) := by
  refine PS.imp (ps_if hc ha hb) fun Dn σ H ⟨B, ρ, en, st, R, h⟩ => ?_
  refine ⟨B, ρ, en, st, R, postE_of R h fun c st1 ρ1 H1 s1 R1 h1 => ?_⟩
  by_cases hc : c = true
  · rw [if_pos hc] at h1 ⊢
    exact ⟨B, ρ1, en, st1, R1, h1⟩
  · rw [if_neg hc] at h1 ⊢
    exact ⟨B, ρ1, en, st1, R1, h1⟩

/-! ## targets -/
mutual
def hasOwn : U → Bool
  | .clo own _ caps => own || hasOwnL caps
  | .tup l => hasOwnL l
  | _ => false
def hasOwnL : List U → Bool
  | [] => false
  | u :: r => hasOwn u || hasOwnL r
end
mutual
theorem RepU.noOwn {H : Hp} {ρ : List Addr} {own own' : OwnV} : ∀ {u : U} {v : V}, RepU G H ρ own u v → hasOwn u = false → RepU G H ρ own' u v
  | _, _, .d r, _ => .d r
  | _, _, .ref h, _ => .ref h
  | _, _, .fn h, _ => .fn h
  | _, _, .tup s z r, h => .tup s z (RepUs.noOwn r (by simpa only [hasOwn] using h))
  | _, _, .cloO k h h' co q r, e => by simp [hasOwn] at e
  | _, _, .cloH k h h' co q r, e => .cloH k h h' co q (RepUs.noOwn r (by simpa only [hasOwn, Bool.false_or] using e))
theorem RepUs.noOwn {H : Hp} {ρ : List Addr} {own own' : OwnV} : ∀ {u : List U} {v : List V}, RepUs G H ρ own u v → hasOwnL u = false → RepUs G H ρ own' u v
  | _, _, .nil, _ => .nil
  | _, _, .cons a b, h => by
    simp only [hasOwnL, Bool.or_eq_false_iff] at h
    exact .cons (RepU.noOwn a h.1) (RepUs.noOwn b h.2)
end
def enOwn (en : Nv) : Bool := en.any fun o => match o with
  | some u => hasOwn u
  | none => false
def cellOwn : Cell → Bool
  | .lst l => hasOwnL l
  | .dct l => l.any fun p => hasOwn p.2
def stOwn (st : Sto) : Bool := st.any cellOwn
abbrev SemG := U → Nv → Sto → RS
def rdG (oS : OwnS) (G : Gd) (W : WX) (g : SemG) : TG := fun v σ H Q => ∃ B ρ en st u, Rel oS G B ρ en st σ H ∧ RepU G (vis B ρ H) ρ (oS σ) u v ∧ PostS oS G W B ρ H ⟨Q, fun _ _ => False, fun _ _ => False, fun _ _ => False⟩ (g u en st)
def rdGs (oS : OwnS) (G : Gd) (W : WX) (g : List U → Nv → Sto → RS) : TGs := fun vs σ H Q => ∃ B ρ en st us, Rel oS G B ρ en st σ H ∧ RepUs G (vis B ρ H) ρ (oS σ) us vs ∧ PostS oS G W B ρ H ⟨Q, fun _ _ => False, fun _ _ => False, fun _ _ => False⟩ (g us en st)
def SG (X : Cx) (oS : OwnS) (G : Gd) (W : WX) (t : Expr) (g : SemG) : Prop := PG X t (rdG oS G W g)
def SGs (X : Cx) (oS : OwnS) (G : Gd) (W : WX) (t : List Expr) (g : List U → Nv → Sto → RS) : Prop := PGs X t (rdGs oS G W g)
theorem PG.imp {t : Expr} {g g' : TG} (h : PG X t g) (i : ∀ v σ H Q, g' v σ H Q → g v σ H Q) : PG X t g' := ⟨fun pins s σ H v u Q I r w => h.run pins s σ H v u Q I r (i v σ H Q w)⟩
theorem PGs.imp {t : List Expr} {g g' : TGs} (h : PGs X t g) (i : ∀ v σ H Q, g' v σ H Q → g v σ H Q) : PGs X t g' := ⟨fun pins s σ H v u Q I r w => h.run pins s σ H v u Q I r (i v σ H Q w)⟩
/-- a store to the i-th name turns no captured cell -/
def NoCell (oS : OwnS) (i : Nat) : Prop := ∀ (σ : L2.St) (v : V) (c : Addr) (w : V), oS σ c w → oS (σ.set i (some v)) c w
theorem noCell_def {X : Cx} {i : Nat} {x : Str} (hi : X.N[i]? = some x) (hx : X.env.cells.lookup x = none) : NoCell (ownV X) i := by
  intro σ v c w h
  obtain ⟨j, y, h1, h2, h3⟩ := h
  refine ⟨j, y, h1, h2, ?_⟩
  rw [List.getElem?_set_ne]
  · exact h3
  · rintro rfl
    rw [hi] at h1
    cases h1
    rw [hx] at h2
    cases h2
def noOwnS : OwnS := fun _ _ _ => False
theorem noCell_no {i : Nat} : NoCell noOwnS i := fun _ _ _ _ h => h
theorem Rel.setL {B ρ : List Addr} {en : Nv} {st : Sto} {σ : L2.St} {H : Hp} {i : Nat} {u : U} {v : V} (R : Rel oS G B ρ en st σ H) (ru : RepU G (vis B ρ H) ρ (oS σ) u v) (hi : NoCell oS i) :
    Rel oS G B ρ (en.set i (some u)) st (σ.set i (some v)) H := by
  have ow : ∀ c w, oS σ c w → oS (σ.set i (some v)) c w := fun c w h => hi σ v c w h
  refine ⟨R.sto.own ow, by rw [List.length_set, List.length_set, R.len], fun j w hw => ?_⟩
  by_cases hj : i = j
  · subst hj
    have hl : i < en.length := by
      have := (List.getElem?_eq_some_iff.mp hw).1
      simpa using this
    rw [List.getElem?_set_self hl] at hw
    cases hw
    refine ⟨v, List.getElem?_set_self (by rw [← R.len]; exact hl), ru.le (Le.refl _) (fun _ _ z => z) ow⟩
  · rw [List.getElem?_set_ne hj] at hw
    obtain ⟨v', h1, h2⟩ := R.env j w hw
    exact ⟨v', by rw [List.getElem?_set_ne hj]; exact h1, h2.le (Le.refl _) (fun _ _ z => z) ow⟩
theorem RelS.noOwn {B ρ : List Addr} {own own' : OwnV} {st : Sto} {H : Hp} (r : RelS G B ρ own st H) (h : stOwn st = false) : RelS G B ρ own' st H :=
  ⟨r.len, r.nd, fun n c hc => by
    obtain ⟨a, o, h1, h2, h3⟩ := r.cell n c hc
    refine ⟨a, o, h1, h2, ?_⟩
    have hcO : cellOwn c = false := by
      unfold stOwn at h
      rw [List.any_eq_false] at h
      simpa using h c (List.mem_of_getElem? hc)
    cases h3 with
    | lst z r => exact .lst z (r.noOwn (by simpa only [cellOwn] using hcO))
    | @dK l0 kvs0 r =>
      refine .dK ?_
      have hq : ∀ p ∈ l0, hasOwn p.2 = false := fun p hp => by
        simp only [cellOwn, List.any_eq_false] at hcO
        simpa using hcO p hp
      clear hcO hc h1 h2 h
      induction r with
      | nil => exact .nil
      | cons a b ih => exact .cons ⟨a.1, a.2.noOwn (hq _ List.mem_cons_self)⟩ (ih fun p hp => hq p (List.mem_cons_of_mem _ hp))
    | @dT l0 kvs0 r =>
      refine .dT ?_
      have hq : ∀ p ∈ l0, hasOwn p.2 = false := fun p hp => by
        simp only [cellOwn, List.any_eq_false] at hcO
        simpa using hcO p hp
      clear hcO hc h1 h2 h
      induction r with
      | nil => exact .nil
      | cons a b ih => exact .cons ⟨a.1, a.2.noOwn (hq _ List.mem_cons_self)⟩ (ih fun p hp => hq p (List.mem_cons_of_mem _ hp)), r.hid, r.tabs⟩
theorem Rel.setC {B ρ : List Addr} {en : Nv} {st : Sto} {σ : L2.St} {H : Hp} {i : Nat} {u : U} {v : V} (R : Rel oS G B ρ en st σ H) (ru : RepU G (vis B ρ H) ρ (oS σ) u v) (h1 : enOwn en = false) (h2 : stOwn st = false) (h3 : hasOwn u = false) :
    Rel oS G B ρ (en.set i (some u)) st (σ.set i (some v)) H := by
  refine ⟨R.sto.noOwn h2, by rw [List.length_set, List.length_set, R.len], fun j w hw => ?_⟩
  by_cases hj : i = j
  · subst hj
    have hl : i < en.length := by
      have := (List.getElem?_eq_some_iff.mp hw).1
      simpa using this
    rw [List.getElem?_set_self hl] at hw
    cases hw
    exact ⟨v, List.getElem?_set_self (by rw [← R.len]; exact hl), ru.noOwn h3⟩
  · rw [List.getElem?_set_ne hj] at hw
    obtain ⟨v', q1, q2⟩ := R.env j w hw
    refine ⟨v', by rw [List.getElem?_set_ne hj]; exact q1, q2.noOwn ?_⟩
    unfold enOwn at h1
    rw [List.any_eq_false] at h1
    simpa using h1 _ (List.mem_of_getElem? hw)
/-- a local name -/
def mG (i : Nat) : SemG := fun u en st => .nx (en.set i (some u)) st
/-- a name that others capture -/
def mGC (i : Nat) : SemG := fun u en st => if enOwn en = false ∧ stOwn st = false ∧ hasOwn u = false then .nx (en.set i (some u)) st else .bad
theorem sg_name {i : Nat} {x : Str} {pos : Pos} (hN : X.N.Nodup) (hi : X.N[i]? = some x) (hx : Loc X.env.scope x) (hc : NoCell oS i) (hf : X.fn x = true ∨ X.env.scope.names.lookup x = some .local := by first | exact .inl rfl | exact .inr rfl | assumption) : SG X oS G W (.Name x pos) (mG i) := by
  refine PG.imp (pg_name hN hi hx hf) fun v σ H Q ⟨B, ρ, en, st, u, R, ru, h⟩ => ?_
  exact h ρ H _ (Stp.refl _ _) (R.setL ru hc)
theorem sg_cell {i : Nat} {x : Str} {pos : Pos} (hN : X.N.Nodup) (hi : X.N[i]? = some x) (hx : Loc X.env.scope x) (hf : X.fn x = true ∨ X.env.scope.names.lookup x = some .local := by first | exact .inl rfl | exact .inr rfl | assumption) : SG X oS G W (.Name x pos) (mGC i) := by
  refine PG.imp (pg_name hN hi hx hf) fun v σ H Q ⟨B, ρ, en, st, u, R, ru, h⟩ => ?_
  unfold mGC at h
  split at h
  · rename_i e
    exact h ρ H _ (Stp.refl _ _) (R.setC ru e.1 e.2.1 e.2.2)
  · exact h.elim
def mGNil : List U → Nv → Sto → RS := fun us en st => match us with
  | [] => .nx en st
  | _ => .bad
def mGCons (g : SemG) (gs : List U → Nv → Sto → RS) : List U → Nv → Sto → RS := fun us en st => match us with
  | u :: r => (g u en st).then (gs r)
  | [] => .bad
theorem sgs_nil : SGs X oS G W [] mGNil := by
  refine PGs.imp pgs_nil fun v σ H Q ⟨B, ρ, en, st, us, R, ru, h⟩ => ?_
  unfold mGNil at h
  split at h
  · cases ru
    exact ⟨rfl, h ρ H σ (Stp.refl _ _) R⟩
  · exact h.elim
theorem sgs_cons {e : Expr} {es : List Expr} {g : SemG} {gs : List U → Nv → Sto → RS} (h1 : SG X oS G W e g) (h2 : SGs X oS G W es gs)
    (hs : (assignEach (e :: es) X.env).map (·.2) = assign e X.env :: (assignEach es X.env).map (·.2) := by rfl) (hno : ∀ us, hasOwnL us = false → True := by intros; trivial) :
    SGs X oS G W (e :: es) (fun us en st => if hasOwnL us.tail = false then mGCons g gs us en st else .bad) := by
  refine PGs.imp (pgs_cons h1 h2 hs) fun v σ H Q ⟨B, ρ, en, st, us, R, ru, h⟩ => ?_
  dsimp only at h
  split at h
  · rename_i ho
    unfold mGCons at h
    split at h
    · rename_i u r
      cases ru with
      | cons a b =>
        refine ⟨_, _, rfl, B, ρ, en, st, u, R, a, ?_⟩
        cases q : g u en st with
        | nx e s => rw [q] at h; exact fun ρ1 H1 σ1 s1 R1 => ⟨B, ρ1, e, s, r, R1, (b.stp s1).noOwn (by simpa using ho), PostS.step s1 h⟩
        | rt u s => rw [q] at h; exact h
        | bk e s => rw [q] at h; exact h
        | ct e s => rw [q] at h; exact h
        | exn c u e s => rw [q] at h; exact h
        | bad => rw [q] at h; exact h
    · exact h.elim
  · exact h.elim
/-- a tuple is taken apart -/
def tupOf (u : U) : Option (List U) := match u with
  | .d (.tuple l) => some (l.map U.d)
  | .tup l => some l
  | _ => none
def mGTup (n : Nat) (gs : List U → Nv → Sto → RS) : SemG := fun u en st => match tupOf u with
  | some l => if l.length = n then gs l en st else .bad
  | none => .bad
theorem sg_tup {es : List Expr} {k : Nat} {gs : List U → Nv → Sto → RS} {n : Nat} {pos : Pos} (hK : X.K = G.K) (hc : X.calm = true) (h : SGs X oS G W es gs)
    (hn : (assignEach es X.env).length = n := by rfl) (hst : (assignEach es X.env).findIdx? (·.1) = none := by rfl) : SG X oS G W (.Tuple es k pos) (mGTup n gs) := by
  refine PG.imp (pg_tup hc h hn hst) fun v σ H Q ⟨B, ρ, en, st, u, R, ru, h⟩ => ?_
  unfold mGTup at h
  split at h
  · rename_i l hl
    split at h
    · rename_i hn
      have q : ∃ a vs, v = .ref a ∧ SqT G.K H a vs ∧ RepUs G (vis B ρ H) ρ (oS σ) l vs := by
        unfold tupOf at hl
        split at hl
        · cases hl
          cases ru with
          | d r => cases r with
            | tuple s z r => exact ⟨_, _, rfl, SqT.le vis_le s, RepUs.ofD r⟩
        · cases hl
          cases ru with
          | tup s z r => exact ⟨_, _, rfl, SqT.le vis_le s, r⟩
        · cases hl
      obtain ⟨a, vs, rfl, sq, rs⟩ := q
      exact ⟨a, vs, rfl, by rw [hK]; exact sq, by rw [← rs.length]; exact hn, B, ρ, en, st, l, R, rs, h⟩
    · exact h.elim
  · exact h.elim
/-! a cell is written -/
theorem tabs_write {T : List NdefX.NTab} {H : Hp} {a : Addr} {o o' : HO} (t : NdefX.TabsN T H) (h : H a = some o) (n : TT.nt o) (n2 : ∀ c q, o ≠ LamX.CodeO c q) : NdefX.TabsN T (upd H a o') := fun p hp => by
  obtain ⟨ps, h1, h2, h3⟩ := t p hp
  refine ⟨ps, ?_, h2, fun pos cv hc => ?_⟩
  · rw [upd_ne]
    · exact h1
    · intro z
      rw [z, h] at h1
      exact n ps (Option.some.inj h1)
  · obtain ⟨c, e1, e2⟩ := h3 pos cv hc
    refine ⟨c, e1, ?_⟩
    rw [upd_ne]
    · exact e2
    · intro z
      rw [z, h] at e2
      exact n2 _ _ (Option.some.inj e2)
theorem RelS.write {B ρ : List Addr} {own : OwnV} {st : Sto} {H : Hp} (r : RelS G B ρ own st H) {n : Nat} {a : Addr} {c : Cell} {o : HO} (h : ρ[n]? = some a) (rc : RepC G (vis B ρ H) ρ own c o) : RelS G B ρ own (st.set n c) (upd H a o) := by
  have ha : a ∈ ρ := List.mem_of_getElem? h
  obtain ⟨c0, o0, q1, q2, q3⟩ := r.at h
  have s : Stp ρ H ρ (upd H a o) := Stp.write ha
  refine ⟨by rw [List.length_set, r.len], r.nd, fun m c' hc => ?_, fun b hb => ?_, tabs_write r.tabs q2 (fun ps e => q3.nt ps e) (by intro c q e; unfold LamX.CodeO at e; cases q3 <;> cases e)⟩
  · by_cases hm : n = m
    · subst hm
      have hl : n < st.length := by
        have := (List.getElem?_eq_some_iff.mp hc).1
        simpa using this
      rw [List.getElem?_set_self hl] at hc
      cases hc
      exact ⟨a, o, h, upd_same, rc.le s.le s.pre fun _ _ z => z⟩
    · rw [List.getElem?_set_ne hm] at hc
      obtain ⟨b, o', h1, h2, h3⟩ := r.cell m c' hc
      refine ⟨b, o', h1, ?_, h3.le s.le s.pre fun _ _ z => z⟩
      rw [upd_ne]
      · exact h2
      · rintro rfl
        have hn' : n < ρ.length := (List.getElem?_eq_some_iff.mp h).1
        have hm' : m < ρ.length := (List.getElem?_eq_some_iff.mp h1).1
        rw [List.getElem?_eq_getElem hn'] at h
        rw [List.getElem?_eq_getElem hm'] at h1
        exact hm ((List.getElem_inj r.nd).mp (Option.some.inj (h.trans h1.symm)))
  · obtain ⟨h1, o', h2, h3⟩ := r.hid b hb
    refine ⟨h1, o', ?_, h3⟩
    rw [upd_ne]
    · exact h2
    · rintro rfl
      exact h1 ha
theorem Rel.write {B ρ : List Addr} {en : Nv} {st : Sto} {σ : L2.St} {H : Hp} (r : Rel oS G B ρ en st σ H) {n : Nat} {a : Addr} {c : Cell} {o : HO} (h : ρ[n]? = some a) (rc : RepC G (vis B ρ H) ρ (oS σ) c o) :
    Stp ρ H ρ (upd H a o) ∧ Rel oS G B ρ en (st.set n c) σ (upd H a o) := by
  obtain ⟨c0, o0, q1, q2, q3⟩ := r.sto.at h
  have s : Stp ρ H ρ (upd H a o) := Stp.write (List.mem_of_getElem? h)
  exact ⟨s, r.ofS s (r.sto.write h rc)⟩
/-- o[i] = .., o a list that changes -/
def gSetL (o i u : U) (en : Nv) (st : Sto) : RS := match o, i with
  | .ref n, .d (.int k) => (match st[n]? with
    | some (.lst l) => (match ixN l.length k with
      | some j => .nx en (st.set n (.lst (l.set j u)))
      | none => .bad)
    | _ => .bad)
  | _, _ => .bad
def mGSub (fo fi : SemE) : SemG := fun u en st => (fo en st).toS en fun o st => (fi en st).toS en fun i st => gSetL o i u en st
theorem sg_sub {o i : Expr} {fo fi : SemE} {pos : Pos} (ho : SE X oS G W o fo) (hi : SE X oS G W i fi)
    (ha : ∀ v, assign (.Subscript o i pos) X.env v = (do
      let ov ← holding [v] (eval o X.env)
      let iv ← holding [v, ov] (eval i X.env)
      standAt pos
      holding [v, ov, iv] (setItem ov iv v)
      release [v, ov, iv] []) := by intro _; rfl) : SG X oS G W (.Subscript o i pos) (mGSub fo fi) := by
  refine PG.imp (pg_sub ho hi set_list ha) fun v σ H Q ⟨B, ρ, en, st, u, R, ru, h⟩ => ?_
  refine ⟨B, ρ, en, st, R, postE_of R h fun o st1 ρ1 H1 s1 R1 h1 x rx => ?_⟩
  refine ⟨B, ρ1, en, st1, R1, postE_of R1 h1 fun i st2 ρ2 H2 s2 R2 h2 y ry => ?_⟩
  have ru2 := (ru.stp s1).stp s2
  have rx2 := rx.stp s2
  unfold gSetL at h2
  split at h2
  · rename_i n k
    split at h2
    · rename_i l hl
      split at h2
      · rename_i j hj
        cases rx2 with
        | ref hn =>
          cases ry with
          | d ry =>
            cases ry
            obtain ⟨c, o, q1, q2, q3⟩ := R2.sto.at hn
            rw [hl] at q1
            cases q1
            cases q3 with
            | lst z r =>
              refine ⟨_, _, k, j, rfl, rfl, q2, by rw [← r.length]; exact hj, ?_⟩
              obtain ⟨s3, R3⟩ := R2.write hn (c := .lst (l.set j u)) (.lst (by rw [List.length_set]; exact z) (r.set ru2 j))
              exact h2 _ _ σ s3 R3
      · exact h2.elim
    · exact h2.elim
  · exact h2.elim
/-- target = value -/
def mAsg (f : SemE) (g : SemG) : SemS := fun en st => (f en st).toS en fun u st => g u en st
theorem PostS.nxOnly {B ρ : List Addr} {H : Hp} {r : RS} {Q : L2.St → Hp → Prop} (h : PostS oS G W B ρ H ⟨Q, fun _ _ => True, fun _ _ => True, fun _ _ => True⟩ r) (hr : match r with | .nx _ _ => True | .exn _ _ _ _ => True | _ => False) : PostS oS G W B ρ H ⟨Q, fun _ _ => False, fun _ _ => False, fun _ _ => False⟩ r := by
  cases r with
  | nx e s => exact h
  | exn c u e s => exact h
  | _ => exact hr.elim
/-- only going on, or an error -/
def onlyNx : RS → RS
  | .nx e s => .nx e s
  | .exn c u e s => .exn c u e s
  | _ => .bad
theorem PostS.only {B ρ : List Addr} {H : Hp} {r : RS} {Dn : Ends} (h : PostS oS G W B ρ H Dn (onlyNx r)) : PostS oS G W B ρ H ⟨Dn.nx, fun _ _ => False, fun _ _ => False, fun _ _ => False⟩ r := by
  cases r with
  | nx e s => exact h
  | exn c u e s => exact h
  | rt u s => exact h.elim
  | bk e s => exact h.elim
  | ct e s => exact h.elim
  | bad => exact h.elim
def mAsgT (f : SemE) (g : SemG) : SemS := fun en st => (f en st).toS en fun u st => onlyNx (g u en st)
theorem ss_asg {tg e : Expr} {f : SemE} {g : SemG} {pos : Pos} (he : SE X oS G W e f) (hg : SG X oS G W tg g) (hs : swapsWithSole [tg] e pos.line X.env = pure false := by rfl) (hw : swappedStores [tg] e X.env = pure none := by rfl)
    (h1 : (assignEach [tg] X.env).map (·.2) = [assign tg X.env] := by rfl) : SS X oS G W (.Assign [tg] e pos) (mAsgT f g) := by
  refine PS.imp (ps_asg he hg hs hw h1) fun Dn σ H ⟨B, ρ, en, st, R, h⟩ => ?_
  exact ⟨B, ρ, en, st, R, postE_of R h fun u st1 ρ1 H1 s1 R1 h1 v rv => ⟨B, ρ1, en, st1, u, R1, rv, h1.only⟩⟩
/-- name = value -/
theorem ss_set {i : Nat} {x : Str} {e : Expr} {f : SemE} {pos pos' : Pos} (hN : X.N.Nodup) (hi : X.N[i]? = some x) (hx : Loc X.env.scope x) (he : SE X oS G W e f) (hc : NoCell oS i) (hs : swapsWith e (some (.Name x pos')) pos.line X.env = pure false := by rfl) (hf : X.fn x = true ∨ X.env.scope.names.lookup x = some .local := by first | exact .inl rfl | exact .inr rfl | assumption) : SS X oS G W (.Assign [.Name x pos'] e pos) (mAsgT f (mG i)) := by
  refine PS.imp (ps_set hN hi hx he hs hf) fun Dn σ H ⟨B, ρ, en, st, R, h⟩ => ?_
  exact ⟨B, ρ, en, st, R, postE_of R h fun u st1 ρ1 H1 s1 R1 h1 v rv => h1 ρ1 H1 _ (Stp.refl _ _) (R1.setL rv hc)⟩
theorem ss_setC {i : Nat} {x : Str} {e : Expr} {f : SemE} {pos pos' : Pos} (hN : X.N.Nodup) (hi : X.N[i]? = some x) (hx : Loc X.env.scope x) (he : SE X oS G W e f) (hs : swapsWith e (some (.Name x pos')) pos.line X.env = pure false := by rfl) (hf : X.fn x = true ∨ X.env.scope.names.lookup x = some .local := by first | exact .inl rfl | exact .inr rfl | assumption) : SS X oS G W (.Assign [.Name x pos'] e pos) (mAsgT f (mGC i)) := by
  refine PS.imp (ps_set hN hi hx he hs hf) fun Dn σ H ⟨B, ρ, en, st, R, h⟩ => ?_
  refine ⟨B, ρ, en, st, R, postE_of R h fun u st1 ρ1 H1 s1 R1 h1 v rv => ?_⟩
  unfold mGC at h1
  split at h1
  · rename_i e
    exact h1 ρ1 H1 _ (Stp.refl _ _) (R1.setC rv e.1 e.2.1 e.2.2)
  · exact h1.elim
/-! ## loops -/
/-- what an iterator J yields: the items in turn, while chk holds of the store -/
def ItOk (G : Gd) (B ρ0 : List Addr) (H0 : Hp) (J : It) (items : List U) (chk : Sto → Bool) : Prop :=
  ∀ (oS : OwnS) (Bx : List Addr), (∀ b ∈ Bx, H0 b = none) → ∀ ρ H en st σ, Stp ρ0 H0 ρ H → Rel oS G (Bx ++ B) ρ en st σ H → chk st = true → ∀ i,
    (i < items.length → J.go i H ∧ ∀ x H', J.yld i H x H' → ∃ u, items[i]? = some u ∧ Stp ρ H ρ H' ∧ Rel oS G (Bx ++ B) ρ en st σ H' ∧ RepU G (vis (Bx ++ B) ρ H') ρ (oS σ) u x) ∧ (items.length ≤ i → J.stop i H)
abbrev SemI := Nv → Sto → Res (List U × (Sto → Bool))
def rdI (oS : OwnS) (G : Gd) (W : WX) (f : SemI) : TI := fun σ H R => ∃ B ρ en st, Rel oS G B ρ en st σ H ∧ PostE oS G W B ρ en σ H (fun it ρ' H' _ => ∀ J, ItOk G B ρ' H' J it.1 it.2 → it.1.length ≤ sizeLine → R J H') (f en st)
def SI (X : Cx) (oS : OwnS) (G : Gd) (W : WX) (tg iter : Expr) (f : SemI) : Prop := PI X tg iter (rdI oS G W f)
theorem PI.imp {tg iter : Expr} {t t' : TI} (h : PI X tg iter t) (i : ∀ σ H R, t' σ H R → t σ H R) : PI X tg iter t' := ⟨fun pins s σ H R I w => h.run pins s σ H R I (i σ H R w)⟩
def forL (g : SemG) (body : SemS) (chk : Sto → Bool) : List U → SemS
  | [], en, st => if chk st = true then .nx en st else .bad
  | u :: r, en, st => if chk st = true then (onlyNx (g u en st)).then fun en st => match body en st with
    | .nx en st => forL g body chk r en st
    | .ct en st => forL g body chk r en st
    | .bk en st => .nx en st
    | z => z
    else .bad
def mFor (fi : SemI) (g : SemG) (body : SemS) : SemS := fun en st => (fi en st).toS en fun it st => forL g body it.2 it.1 en st
theorem ss_for {tg iter : Expr} {body : List Stmt} {fi : SemI} {g : SemG} {fb : SemS} {pos : Pos} (hp : PassesOwn (model X.prog X.w) X.A X.env X.xe) (hc : X.calm = true) (hi : SI X oS G W tg iter fi) (hg : SG X oS G W tg g) (hb : SL X oS G W body fb)
    (hs : ∀ x, foldedSetIterable iter X.env x = pure x := by intro _; rfl) : SS X oS G W (.For tg iter body [] pos) (mFor fi g fb) := by
  refine PS.imp (ps_for hp hc hi hg hb hs) fun Dn σ H ⟨B, ρ, en, st, R, h⟩ => ?_
  refine ⟨B, ρ, en, st, R, postE_of R h fun it st1 ρ1 H1 s1 R1 h1 J ok _ => ?_⟩
  refine ⟨fun i m σ H => m = it.1.length - i ∧ i ≤ it.1.length ∧ ∃ ρ en st, Stp ρ1 H1 ρ H ∧ Rel oS G B ρ en st σ H ∧ PostS oS G W B ρ H Dn (forL g fb it.2 (it.1.drop i) en st), ⟨it.1.length, by simp, Nat.zero_le _, ρ1, en, st1, Stp.refl _ _, R1, by simpa using h1⟩, ?_⟩
  rintro i m σ H ⟨rfl, hi, ρ, en, st, s, R, h⟩
  by_cases hl : i < it.1.length
  · rw [List.drop_eq_getElem_cons hl, forL] at h
    split at h
    · rename_i hk
      obtain ⟨go, yl⟩ := (ok oS [] (fun b hb => by cases hb) ρ H en st σ s R hk i).1 hl
      refine .inr ⟨go, fun σ' H' => ∃ ρ' en' st', Stp ρ H ρ' H' ∧ Rel oS G B ρ' en' st' σ' H' ∧ PostS oS G W B ρ' H' Dn (forL g fb it.2 (it.1.drop (i + 1)) en' st'), fun σ' H' ⟨ρ', en', st', s', R', h'⟩ => ⟨_, by omega, rfl, hl, ρ', en', st', s.trans s', R', h'⟩, fun x H' y => ?_⟩
      obtain ⟨u, hu, sy, Ry, ru⟩ := yl x H' y
      rw [List.getElem?_eq_getElem hl] at hu
      cases hu
      refine ⟨B, ρ, en, st, _, Ry, ru, ?_⟩
      refine PostS.only (Dn := ⟨fun σ2 H2 => rdS oS G W fb _ σ2 H2, fun _ _ => False, fun _ _ => False, fun _ _ => False⟩) ?_
      cases q : onlyNx (g it.1[i] en st) with
      | nx e2 s2 =>
        rw [q] at h
        intro ρ2 H2 σ2 st2 R2
        refine ⟨B, ρ2, e2, s2, R2, ?_⟩
        have h := PostS.step (sy.trans st2) h
        simp only [RS.then] at h
        cases q3 : fb e2 s2 with
        | nx e3 s3 => rw [q3] at h; exact fun ρ3 H3 σ3 t3 R3 => ⟨ρ3, e3, s3, (sy.trans st2).trans t3, R3, PostS.step t3 h⟩
        | ct e3 s3 => rw [q3] at h; exact fun ρ3 H3 σ3 t3 R3 => ⟨ρ3, e3, s3, (sy.trans st2).trans t3, R3, PostS.step t3 h⟩
        | bk e3 s3 => rw [q3] at h; exact fun ρ3 H3 σ3 t3 R3 => h ρ3 H3 σ3 t3 R3
        | rt u3 s3 => rw [q3] at h; exact h
        | exn c3 u3 e3 s3 => rw [q3] at h; exact h
        | bad => rw [q3] at h; exact h
      | exn c2 u2 e2 s2 => rw [q] at h; exact PostS.step sy h
      | rt u2 s2 => rw [q] at h; cases q4 : g it.1[i] en st <;> rw [q4] at q <;> cases q
      | bk e2 s2 => rw [q] at h; cases q4 : g it.1[i] en st <;> rw [q4] at q <;> cases q
      | ct e2 s2 => rw [q] at h; cases q4 : g it.1[i] en st <;> rw [q4] at q <;> cases q
      | bad => rw [q] at h; exact h
    · exact h.elim
  · have e : i = it.1.length := by omega
    subst e
    rw [List.drop_length, forL] at h
    split at h
    · rename_i hk
      exact .inl ⟨(ok oS [] (fun b hb => by cases hb) ρ H en st σ s R hk _).2 (Nat.le_refl _), h ρ H σ (Stp.refl _ _) R⟩
    · exact h.elim
def whileL (t : SemT) (body : SemS) : Nat → SemS
  | 0, _, _ => .bad
  | n + 1, en, st => (t en st).toS en fun c st => if c = true then (match body en st with
    | .nx en st => whileL t body n en st
    | .ct en st => whileL t body n en st
    | .bk en st => .nx en st
    | z => z) else .nx en st
theorem ss_while {c : Expr} {body : List Stmt} {t : SemT} {fb : SemS} {pos : Pos} (fuel : Nat) (hp : PassesOwn (model X.prog X.w) X.A X.env X.xe) (hc : ST X oS G W c t) (hb : SL X oS G W body fb) : SS X oS G W (.While c body [] pos) (whileL t fb fuel) := by
  refine PS.imp (ps_while hp hc hb) fun Dn σ H ⟨B, ρ, en, st, R, h⟩ => ?_
  refine ⟨fun m σ H => ∃ ρ en st, Rel oS G B ρ en st σ H ∧ PostS oS G W B ρ H Dn (whileL t fb m en st), ⟨fuel, ρ, en, st, R, h⟩, ?_⟩
  rintro m σ H ⟨ρ, en, st, R, h⟩
  cases m with
  | zero => exact h.elim
  | succ m =>
    rw [whileL] at h
    refine ⟨B, ρ, en, st, R, postE_of R h fun c st1 ρ1 H1 s1 R1 h1 => ?_⟩
    by_cases hc : c = true
    · rw [if_pos hc] at h1 ⊢
      refine ⟨fun σ' H' => ∃ ρ' en' st', Rel oS G B ρ' en' st' σ' H' ∧ PostS oS G W B ρ' H' Dn (whileL t fb m en' st'), fun σ' H' q => ⟨m, Nat.lt_succ_self m, q⟩, B, ρ1, en, st1, R1, ?_⟩
      cases q3 : fb en st1 with
      | nx e3 s3 => rw [q3] at h1; exact fun ρ3 H3 σ3 t3 R3 => ⟨ρ3, e3, s3, R3, PostS.step t3 h1⟩
      | ct e3 s3 => rw [q3] at h1; exact fun ρ3 H3 σ3 t3 R3 => ⟨ρ3, e3, s3, R3, PostS.step t3 h1⟩
      | bk e3 s3 => rw [q3] at h1; exact fun ρ3 H3 σ3 t3 R3 => h1 ρ3 H3 σ3 t3 R3
      | rt u3 s3 => rw [q3] at h1; exact h1
      | exn c3 u3 e3 s3 => rw [q3] at h1; exact h1
      | bad => rw [q3] at h1; exact h1
    · rw [if_neg hc] at h1 ⊢
      exact h1 ρ1 H1 σ (Stp.refl _ _) R1
end
end TT
set_option Elab.async false
set_option linter.all false
set_option maxRecDepth 100000
set_option maxHeartbeats 2000000
/-! enumerate over a tuple: the steps of a walk -/
namespace TT
open PySem PySem.Spec PyProof.Rows L2
section
variable {prog : Program} {w : World} {A : Around} {E : Value → Shared → Prop} {s : Shared}
theorem nextOf_tuple_item {it t : Addr} {i : Nat} {items} {x : Value} {Q : Value → Shared → Prop} (hit : s.heap.IsTupleIter it t i)
    (ht : s.heap.IsTuple t items) (hx : items[i]? = some x)
    (hQ : ∀ h', h'.IsTupleIter it t (i + 1) → Heap.SameBut it s.heap h' → Q x { s with heap := h' }) :
    wpAny (model prog w) A (Builtin.SmallTypes.nextOf (.ref it)) Q E s := by
  obtain ⟨o, ho, hc, hd⟩ := id hit
  obtain ⟨ol, hol, _, nl, hdl⟩ := ht
  unfold Builtin.SmallTypes.nextOf
  refine wpAny_bind (wpAny_callSpecial?_slot (name := Str.ofString "__next__") hit.typeIs F.slot_tuple_iterator_next
    (wpAny_call_entry F.slot_tuple_iterator_next hit.typeIs F.entry_tuple_iterator_next ?_ (F.args_tuple_iterator_next_1 _)))
  show wpAny _ _ (field (.ref it) 0 >>= _) _ _ s
  refine wpAny_bind (wpAny_field ho hd (x := .ref t) rfl ?_)
  show wpAny _ _ (if (Value.ref t == Value.none) = true then _ else _) _ _ s
  rw [if_neg (show ¬ ((Value.ref t == Value.none) = true) from Bool.false_ne_true)]
  show wpAny _ _ (field (.ref it) 1 >>= _) _ _ s
  refine wpAny_bind (wpAny_field ho hd (x := .int i 0) rfl ?_)
  show wpAny _ _ (seqItems? (.ref t) >>= _) _ _ s
  refine wpAny_bind (wpAny_seqItems hol hdl ?_)
  simp only [Int.toNat_natCast, hx]
  refine wpAny_bind (wpAny_setField ho hd (by simp) (wpAny_pure ⟨x, rfl, wpAny_pure (hQ _ ?_ (Heap.SameBut.update ..))⟩))
  exact ⟨_, Heap.get?_update_self _ ho (Obj.isFreed_of_fields (Obj.data_mapFields hd _)), (Obj.cls_mapFields ..).trans hc, by
    rw [Obj.data_mapFields hd]; simp [rawInt]⟩
theorem nextOf_tuple_end {it t : Addr} {i : Nat} {items} {Q : Value → Shared → Prop} (hh : A.handled = none)
    (hit : s.heap.IsTupleIter it t i) (ht : s.heap.IsTuple t items) (hx : items[i]? = none)
    (hE : ∀ h' e, Heap.ExtBut it s.heap h' → (∃ o, h'.get? e = some o ∧ o.cls = .type "StopIteration") → E (.ref e) { s with heap := h' }) :
    wpAny (model prog w) A (Builtin.SmallTypes.nextOf (.ref it)) Q E s := by
  obtain ⟨o, ho, hc, hd⟩ := id hit
  obtain ⟨ol, hol, _, nl, hdl⟩ := ht
  unfold Builtin.SmallTypes.nextOf
  refine wpAny_bind (wpAny_callSpecial?_slot (name := Str.ofString "__next__") hit.typeIs F.slot_tuple_iterator_next
    (wpAny_call_entry F.slot_tuple_iterator_next hit.typeIs F.entry_tuple_iterator_next ?_ (F.args_tuple_iterator_next_1 _)))
  show wpAny _ _ (field (.ref it) 0 >>= _) _ _ s
  refine wpAny_bind (wpAny_field ho hd (x := .ref t) rfl ?_)
  show wpAny _ _ (if (Value.ref t == Value.none) = true then _ else _) _ _ s
  rw [if_neg (show ¬ ((Value.ref t == Value.none) = true) from Bool.false_ne_true)]
  show wpAny _ _ (field (.ref it) 1 >>= _) _ _ s
  refine wpAny_bind (wpAny_field ho hd (x := .int i 0) rfl ?_)
  show wpAny _ _ (seqItems? (.ref t) >>= _) _ _ s
  refine wpAny_bind (wpAny_seqItems hol hdl ?_)
  simp only [Int.toNat_natCast, hx]
  refine wpAny_bind (wpAny_rule (wpAny_bind (wpAny_setField ho hd (by simp) ?_)))
  show wpAny _ _ (newExc (.type "StopIteration") [] >>= _) _ _ _
  refine wpAny_bind ?_
  simp only [newExc, newTuple]
  refine wpAny_bind (wpAny_newObj_type ?_ (by size_fits))
  refine wpAny_bind (m := firstArgMember _ _) (wpAny_of_eq (a := Value.none) (by first | rfl | (simp only [firstArgMember]; rfl)) ?_)
  refine wpAny_newObj_type ?_ (by size_fits)
  simp only [raiseNew]
  refine wpAny_bind (wpAny_handled ?_)
  first | rw [show A.in1.handled = none from hh] | rw [hh]
  refine wpAny_bind (wpAny_pure (wpAny_throw ?_))
  exact hE _ _ (((Heap.SameBut.update ..).extBut.push _).push _) ⟨_, Heap.get?_push_size _ rfl, rfl⟩
theorem drawsTuple (hh : A.handled = none) (it l : Addr) (hne : l ≠ it) (items : Array Value) :
    Draws prog w A it [it, l] items.size (fun i v => items[i]? = some v) (fun i h => h.IsTupleIter it l i ∧ h.IsTuple l items) where
  live := fun _ _ st => let ⟨o, ho, _⟩ := st.1; ⟨o, ho⟩
  frame := fun _ _ _ st hk => ⟨st.1.at fun o e => hk it (by simp) o e, let ⟨o, ho, r⟩ := st.2; ⟨o, hk l (by simp) o ho, r⟩⟩
  item := fun i s Q E hi st hQ => by
    refine nextOf_tuple_item st.1 st.2 (x := items[i]) (by simp [hi]) fun h' hit' hs' => ?_
    exact hQ _ h' s.toks (by simp [hi]) ⟨hit', let ⟨o, ho, r⟩ := st.2; ⟨o, hs'.extBut l o hne ho, r⟩⟩ hs'
  done := fun s Q E st hE => nextOf_tuple_end hh st.1 st.2 (by simp) hE
set_option maxHeartbeats 4000000 in
theorem meets_enumerate_newT (l : Addr) (items : Array Value) (n : Nat) (dd : Option Addr) (sl : Array (Option Value)) :
    Meets (Builtin.«enumerate.__new__» ⟨[.type "enumerate", .ref l], []⟩) (fun _ R s => s.heap.get? l = some { cls := .type "tuple", dict := dd, data := .seq items n, slots := sl } ∧
      R (.ok (.ret (.ref (s.heap.push { cls := .type "tuple_iterator", data := .fields #[.ref l, .int 0 0] }).objs.size)))
        { s with heap := (s.heap.push { cls := .type "tuple_iterator", data := .fields #[.ref l, .int 0 0] }).push { cls := .type "enumerate", data := .fields #[.none, .bool false, .ref s.heap.objs.size, rawInt 0, .none, .none] } }) :=
  .of_wp fun prog w A R s h => by
    obtain ⟨hp, g, d, tk, os⟩ := s; obtain ⟨hl, h⟩ := h
    have hsub := sub_enumerate
    have hL : Heap.IsTuple (Shared.heap ⟨hp, g, d, tk, os⟩) l items := ⟨_, hl, rfl, n, rfl⟩
    wp_walk using wpAny_loadPart' hl
    refine wpAny_stack_any fun st => wpAny_pure ?_
    split
    · rename_i c _ _ _ _ _
      cases (c == Value.type "enumerate")
      · wp_walk using wpAny_loadPart' hl, wpAny_pyIter_tuple hL
        exact ⟨_, rfl, h⟩
      · wp_walk using wpAny_loadPart' hl, wpAny_pyIter_tuple hL
        exact ⟨_, rfl, h⟩
    · wp_walk using wpAny_loadPart' hl, wpAny_pyIter_tuple hL
      exact ⟨_, rfl, h⟩
theorem call_enumerate_tuple {l : Addr} {items : Array Value} {Q : Value → Shared → Prop} (hL : s.heap.IsTuple l items)
    (h : ∀ h', IsEnum h' (s.heap.objs.size + 1) s.heap.objs.size 0 .none → h'.IsTupleIter s.heap.objs.size l 0 → h'.objs.size = s.heap.objs.size + 2 →
      (∀ b o, s.heap.get? b = some o → h'.get? b = some o) → Q (.ref (s.heap.objs.size + 1)) { s with heap := h' }) :
    wpAny (model prog w) A (call (.type "enumerate") [.ref l]) Q E s := by
  obtain ⟨⟨c, dct, dt, sl⟩, hl, hc, n, hd⟩ := hL
  replace hc : c = .type "tuple" := hc
  replace hd : dt = .seq items n := hd
  subst hc hd
  refine callType_new F.called_enumerate (by decide) (F.typeCall_enumerate_1 _) (F.newCall_enumerate_1 _) (fun obj => F.args_object_init_2 obj _) F.entry_enumerate_new
    (meets_enumerate_newT l items n dct sl) ⟨hl, ?_⟩
  have hz : (s.heap.push { cls := .type "tuple_iterator", data := .fields #[.ref l, .int 0 0] }).objs.size = s.heap.objs.size + 1 := Heap.size_push ..
  show _ ∧ _
  rw [hz]
  have he : IsEnum ((s.heap.push { cls := .type "tuple_iterator", data := .fields #[.ref l, .int 0 0] }).push
      { cls := .type "enumerate", data := .fields #[.none, .bool false, .ref s.heap.objs.size, rawInt 0, .none, .none] }) (s.heap.objs.size + 1) s.heap.objs.size 0 .none := by
    have := Heap.get?_push_size (s.heap.push { cls := .type "tuple_iterator", data := .fields #[.ref l, .int 0 0] })
      (o := { cls := .type "enumerate", data := .fields #[.none, .bool false, .ref s.heap.objs.size, rawInt 0, .none, .none] }) rfl
    rw [hz] at this; exact this
  refine ⟨⟨_, he, rfl⟩, h _ he ⟨_, Heap.get?_push_of_some _ (Heap.get?_push_size _ rfl), rfl, rfl⟩ (by rw [Heap.size_push, hz]) fun b o x => Heap.get?_push_of_some _ (Heap.get?_push_of_some _ x)⟩
end
/-- the tuple at a, each item in a new pair -/
def IteT (K : PySem.W.Frag) (a : Addr) : It :=
  ⟨fun i H => ∃ (xs : List V) (x : V), SqT K H a xs ∧ xs[i]? = some x, fun i H v H' => ∃ T x, v = .ref T ∧ H T = none ∧ H' = upd H T (.tup [.int (i : Nat), x]) ∧ ∀ xs, SqT K H a xs → xs[i]? = some x, fun i H => ∃ xs : List V, SqT K H a xs ∧ xs.length ≤ i⟩
theorem turn_enumT {P : Program} {w : World} {K : PySem.W.Frag} {elts : List Expr} {kk : Nat} {tpos : Pos} (a e it : Addr) :
    Turn P w K (.Tuple elts kk tpos) (IteT K a) [e, it] e (fun i h => (∃ old, IsEnum h e it ((i : Nat) : Int) old) ∧ h.IsTupleIter it a i ∧ e ≠ it ∧ a ≠ it ∧ e ≠ a) where
  mem := by simp
  obj := fun i h st b hb => by
    obtain ⟨⟨old, he⟩, ⟨o, ho, hc, hd⟩, _⟩ := st
    have e' : b = e ∨ b = it := by simpa using hb
    rcases e' with z | z
    · rw [z]; exact ⟨_, he, fun v q => nomatch q⟩
    · rw [z]; exact ⟨o, ho, fun v q => by rw [hd] at q; cases q⟩
  keep := fun i h h' st k => let ⟨⟨old, he⟩, hi, hne⟩ := st; ⟨⟨old, k e (by simp) _ he⟩, hi.at fun o q => k it (by simp) o q, hne⟩
  item := by
    intro X hP hw hK hc i pins s σ H E I hf st hg
    subst hP hw hK
    obtain ⟨⟨old, he⟩, hit, hne, hai, hea⟩ := st
    obtain ⟨xs, x, hq, hx⟩ := hg
    obtain ⟨its, rv, p, hz⟩ := I.tuple hq
    obtain ⟨u, hu, ru⟩ := rv.get hx
    have hel : e < s.heap.objs.size := Heap.lt_size he
    have hil : it < s.heap.objs.size := by obtain ⟨_, q, _⟩ := hit; exact Heap.lt_size q
    have hlt : i < its.toArray.size := by
      have := (List.getElem?_eq_some_iff.mp hu).1
      simpa using this
    have Dr := drawsTuple (prog := X.prog) (w := X.w) (A := X.A.in1) (show X.A.in1.handled = none from I.ok.hd hc) it a hai its.toArray
    refine wpAny_pyNext_enum_itemD Dr he ⟨hit, p⟩ hlt hne (by simp [hne, hea]) fun y h' tk hy ho hst' hT hsz hk => ?_
    have ey : y = u := by
      have z : its[i]? = some y := by simpa using hy
      rw [hu] at z
      exact (Option.some.inj z).symm
    subst ey
    refine ⟨_, rfl, wpAny_letOwnedTupleGo_enum (s := { s with heap := h', toks := tk + 1 }) ho fun h'' he' sb => ?_⟩
    have hT2 : h''.get? s.heap.objs.size = some { cls := .type "tuple", data := .seq #[.int i tk, y] } := (sb.2 _ (Nat.ne_of_gt hel)).trans hT
    have new : ObjOk X.prog X.w (upd H s.heap.objs.size (.tup [.int (i : Nat), x])) h'' s.heap.objs.size (.tup [.int (i : Nat), x]) :=
      ⟨by show 2 ≤ sizeLine; decide, [.int i tk, y], .cons ⟨_, rfl⟩ (.cons ru .nil), ⟨_, hT2, rfl, _, rfl⟩⟩
    have I1 : Inv X pins σ (upd H s.heap.objs.size (.tup [.int (i : Nat), x])) { s with heap := h'', toks := tk + 1 } :=
      I.turnedNew (ch := [e, it]) (fun b ob hb q => (sb.2 b (fun z => hb (by simp [z]))).trans (hk b ob (fun z => hb (by simp [z])) (fun z => hb (by simp [z])) q)) hf (Nat.le_refl _) new
    refine ⟨.ref s.heap.objs.size, _, I1, rfl, ⟨_, x, rfl, I.hok.fresh (Nat.le_refl _), rfl, fun ys hy => by rw [I.tuple_inj hy hq]; exact hx⟩, ⟨⟨y, ?_⟩, hst'.1.at fun o q => (sb.2 it (Ne.symm hne)).trans q, hne, hai, hea⟩, fun b hb => ?_⟩
    · have e1 : ((i + 1 : Nat) : Int) = (i : Int) + 1 := by omega
      rw [e1]; exact he'
    · have hb' : b < s.heap.objs.size := by
        have e' : b = e ∨ b = it := by simpa using hb
        rcases e' with z | z
        · rw [z]; exact hel
        · rw [z]; exact hil
      rw [upd_ne (Nat.ne_of_lt hb')]
      exact (hf b hb).1
  done := by
    intro X hP hw hK hc i pins s σ H E I hf st hg
    subst hP hw hK
    obtain ⟨⟨old, he⟩, hit, hne, hai, hea⟩ := st
    obtain ⟨xs, hq, hx⟩ := hg
    obtain ⟨its, rv, p, hz⟩ := I.tuple hq
    obtain ⟨f0, f1, f2, f3, f4, f5⟩ := hf it (by simp)
    have hl := rv.length
    -- the walk's place may lie at the end alone
    have hT : s.TypeIs (.ref e) "enumerate" := ⟨_, he, rfl⟩
    unfold pyNext
    refine wpAny_bind (wpAny_attempt (wpAny_callSpecial?_slot (name := Str.ofString "__next__") hT F.slot_enumerate_next
      (wpAny_call_entry F.slot_enumerate_next hT F.entry_enumerate_next ?_ (F.args_enumerate_next_1 _))))
    show wpAny _ _ (field (.ref e) 2 >>= _) _ _ _
    refine wpAny_bind (wpAny_field he rfl (x := .ref it) rfl ?_)
    refine wpAny_bind (nextOf_tuple_end (show X.A.in1.handled = none from I.ok.hd hc) hit p (by simp; omega) fun h' x eb hx' => ?_)
    obtain ⟨o, ho, hc'⟩ := hx'
    refine wpAny_bind (wpAny_isInstance (T := "StopIteration") (b := true) ⟨o, ho, hc'⟩ isSubtype_stop ?_)
    exact wpAny_pure ⟨rfl, I.turned (t' := s.toks) (fun b o hb q => eb b o hb q) f0 f1 f3 f4 f5⟩
  self := fun A i s Q E st h => let ⟨⟨_, he⟩, _⟩ := st; wpAny_pyIter_enum he h
end TT
set_option Elab.async false
set_option linter.all false
set_option maxRecDepth 100000
set_option maxHeartbeats 2000000
namespace TT
open PySem PySem.Spec PyProof.Rows L2
section
variable {X : Cx} {oS : OwnS} {G : Gd} {W : WX} {tg : Expr}
/-- a list or a tuple, whichever it is -/
def iSeq (K : PySem.W.Frag) (tl : TE) : TI := fun σ H R => tl σ H fun x H1 => (∃ z, x = .str z ∧ R (Its z) H1) ∨ ∃ a, x = .ref a ∧ (((∃ xs, SqL K H1 a xs) ∧ R (Itl K a) H1) ∨ ((∃ xs, SqT K H1 a xs) ∧ R (Itt K a) H1))
theorem pi_seq {l : Expr} {tl : TE} (hl : PE X l tl) : PI X tg l (iSeq X.K tl) := by
  refine ⟨fun pins s σ H R I h => ?_⟩
  refine thn (hl.run pins s σ H _ I h) fun v s1 ⟨x, H1, I1, r1, q1⟩ => ?_
  rcases q1 with ⟨z, e, q⟩ | q1
  · subst e
    obtain ⟨t, rfl⟩ := r1
    cases ha : z.cps.all (· < 128)
    · exact wpAny_pyIter_wide ha (pi_one (tk := s1.toks) I1 _ (turn_str _ z t "str_iterator" (.inr rfl)) ⟨_, Heap.get?_push_size _ rfl, rfl, rfl⟩ q)
    · exact wpAny_pyIter_ascii ha (pi_one (tk := s1.toks) I1 _ (turn_str _ z t "str_ascii_iterator" (.inl rfl)) ⟨_, Heap.get?_push_size _ rfl, rfl, rfl⟩ q)
  obtain ⟨a, e, ⟨⟨xs, hq⟩, q⟩ | ⟨⟨xs, hq⟩, q⟩⟩ := q1
  · subst e
    cases r1
    obtain ⟨its, rv, p, hz⟩ := I1.list hq
    refine wpAny_pyIter_list p.isList ?_
    refine ⟨s1.heap.objs.size, [s1.heap.objs.size], _, _, H1, rfl, I1.kept (t' := s1.toks) fun b o e => Heap.get?_push_of_some _ e, turn_list a _, ⟨_, Heap.get?_push_size _ rfl, rfl, rfl⟩, fun b hb => ?_, q⟩
    have e : b = s1.heap.objs.size := by simpa using hb
    subst e
    exact I1.fpOk (Nat.le_refl _) (I1.hok.fresh (Nat.le_refl _))
  · subst e
    cases r1
    obtain ⟨its, rv, p, hz⟩ := I1.tuple hq
    refine wpAny_pyIter_tuple (show s1.heap.IsTuple a its.toArray from p) ?_
    refine ⟨s1.heap.objs.size, [s1.heap.objs.size], _, _, H1, rfl, I1.kept (t' := s1.toks) fun b o e => Heap.get?_push_of_some _ e, turn_tuple a _, ⟨_, Heap.get?_push_size _ rfl, rfl, rfl⟩, fun b hb => ?_, q⟩
    have e : b = s1.heap.objs.size := by simpa using hb
    subst e
    exact I1.fpOk (Nat.le_refl _) (I1.hok.fresh (Nat.le_refl _))
/-- enumerate of one -/
def iEnumA (K : PySem.W.Frag) (ta : TA) : TI := fun σ H R => ta σ H fun vs H1 => ∃ a, vs = [.ref a] ∧ (((∃ xs, SqL K H1 a xs) ∧ R (Ite K a) H1) ∨ ((∃ xs, SqT K H1 a xs) ∧ R (IteT K a) H1))
theorem pi_enumA {e : Expr} {ta : TA} {p pos tpos : Pos} {elts : List Expr} {kk : Nat} (hg : Gl X "enumerate") (hm : X.mg "enumerate" = none) (ha : PA X [e] ta) (hs : starEach [e] X.env = [(false, eval e X.env)] := by rfl) :
    PI X (.Tuple elts kk tpos) (.Call (.Name "enumerate" p) [e] [] pos) (iEnumA X.K ta) := by
  refine ⟨fun pins s σ H R I h => ?_⟩
  refine Call_ (ld_blt I hg hm boot_enumerate (PyProof.Rows.callWith_type1 (thn (ha.run pos pins s σ H _ I h) fun us s1 ⟨vs, H1, I1, r1, q1⟩ => ?_) hs rfl))
  obtain ⟨a, ex, ⟨⟨xs, hq⟩, q⟩ | ⟨⟨xs, hq⟩, q⟩⟩ := q1
  · subst ex
    cases r1 with
    | cons r rr =>
      cases rr
      cases r
      obtain ⟨its, rv, p', hz⟩ := I1.list hq
      refine call_enumerate_list p'.isList fun h' he hit hsz hk => wpAny_pyIter_enum he ?_
      have I2 : Inv X pins σ H1 { s1 with heap := h' } := I1.kept (t' := s1.toks) hk
      refine ⟨s1.heap.objs.size + 1, [s1.heap.objs.size + 1, s1.heap.objs.size], _, _, H1, rfl, I2, turn_enum a (s1.heap.objs.size + 1) s1.heap.objs.size, ⟨⟨.none, he⟩, hit, Nat.succ_ne_self _⟩, fun b hb => ?_, q⟩
      have e' : b = s1.heap.objs.size + 1 ∨ b = s1.heap.objs.size := by simpa using hb
      have hle : s1.heap.objs.size ≤ b := by
        rcases e' with z | z
        · rw [z]; exact Nat.le_add_right _ _
        · rw [z]; exact Nat.le_refl _
      exact I1.fpOk hle (I1.hok.fresh hle)
  · subst ex
    cases r1 with
    | cons r rr =>
      cases rr
      cases r
      obtain ⟨its, rv, p', hz⟩ := I1.tuple hq
      have hlt : a < s1.heap.objs.size := by
        obtain ⟨o, ho, _⟩ := p'
        exact Heap.lt_size ho
      refine call_enumerate_tuple p' fun h' he hit hsz hk => wpAny_pyIter_enum he ?_
      have I2 : Inv X pins σ H1 { s1 with heap := h' } := I1.kept (t' := s1.toks) hk
      refine ⟨s1.heap.objs.size + 1, [s1.heap.objs.size + 1, s1.heap.objs.size], _, _, H1, rfl, I2, turn_enumT a (s1.heap.objs.size + 1) s1.heap.objs.size, ⟨⟨.none, he⟩, hit, Nat.succ_ne_self _, Nat.ne_of_lt hlt, Nat.ne_of_gt (Nat.lt_succ_of_lt hlt)⟩, fun b hb => ?_, q⟩
      have e' : b = s1.heap.objs.size + 1 ∨ b = s1.heap.objs.size := by simpa using hb
      have hle : s1.heap.objs.size ≤ b := by
        rcases e' with z | z
        · rw [z]; exact Nat.le_add_right _ _
        · rw [z]; exact Nat.le_refl _
      exact I1.fpOk hle (I1.hok.fresh hle)

/-! ## what is walked -/
/-- a row that stays -/
def stayOf : U → Option (List U)
  | .d (.tuple l) => some (l.map U.d)
  | .d (.list l) => some (l.map U.d)
  | .tup l => if hasOwnL l = false then some l else none
  | _ => none
abbrev yes : Sto → Bool := fun _ => true
/-- a text's signs -/
def signsU (z : Str) : List U := z.cps.toList.map fun c => .d (.str ⟨#[c]⟩)
def iterOf : U → Option (List U)
  | .d (.str z) => if z.length ≤ sizeLine then some (signsU z) else none
  | u => stayOf u
def mSeqI (f : SemE) : SemI := fun en st => (f en st).bind fun u st => match iterOf u with
  | some l => .ok (l, yes) st
  | none => .bad
theorem ownL_map (l : List D) : hasOwnL (l.map U.d) = false := by
  induction l with
  | nil => simp [hasOwnL]
  | cons a l ih => simp [hasOwnL, hasOwn, ih]
theorem ownL_get : ∀ {l : List U} {i : Nat} {u : U}, hasOwnL l = false → l[i]? = some u → hasOwn u = false
  | [], _, _, _, h => by simp at h
  | a :: l, 0, u, o, h => by
    simp only [hasOwnL, Bool.or_eq_false_iff] at o
    simp at h
    subst h
    exact o.1
  | a :: l, i + 1, u, o, h => by
    simp only [hasOwnL, Bool.or_eq_false_iff] at o
    exact ownL_get o.2 (by simpa using h)
/-- a row stands in the part of the heap that stays -/
theorem stay_rep {B ρ : List Addr} {own : OwnV} {H : Hp} {u : U} {x : V} {l : List U} (ru : RepU G (vis B ρ H) ρ own u x) (h : stayOf u = some l) :
    hasOwnL l = false ∧ ∃ a vs, x = .ref a ∧ (Rd (vis B ρ H) a (.lst vs) ∨ SqT G.K (vis B ρ H) a vs) ∧ RepUs G (vis B ρ H) ρ own l vs ∧ vs.length ≤ sizeLine := by
  unfold stayOf at h
  split at h
  · cases h
    cases ru with
    | d r => cases r with
      | tuple s z r => exact ⟨ownL_map _, _, _, rfl, .inr s, RepUs.ofD r, z⟩
  · cases h
    cases ru with
    | d r => cases r with
      | list s z r => exact ⟨ownL_map _, _, _, rfl, .inl s, RepUs.ofD r, z⟩
  · split at h
    · rename_i ho
      cases h
      cases ru with
      | tup s z r => exact ⟨ho, _, _, rfl, .inr s, r, z⟩
    · cases h
  · cases h
theorem RepUs.getV {H : Hp} {ρ : List Addr} {own : OwnV} : ∀ {l : List U} {vs : List V} {i : Nat} {v : V}, RepUs G H ρ own l vs → vs[i]? = some v → ∃ u, l[i]? = some u ∧ RepU G H ρ own u v
  | _, _, _, _, .nil, e => by simp at e
  | _, _, 0, _, .cons a _, e => by simp at e; subst e; exact ⟨_, rfl, a⟩
  | _, _, i + 1, d, .cons _ b, e => by
    obtain ⟨v, h1, h2⟩ := RepUs.getV (i := i) (v := d) b (by simpa using e)
    exact ⟨v, by simpa using h1, h2⟩
theorem leX {B Bx ρ0 ρ : List Addr} {H0 H : Hp} (s : Stp ρ0 H0 ρ H) (hb : ∀ b ∈ Bx, H0 b = none) : Le (vis B ρ0 H0) (vis (Bx ++ B) ρ H) := fun b o h t => by
  obtain ⟨h1, h2, h3⟩ := vis_some h
  obtain ⟨q1, q2, q3⟩ := vis_some (s.le b o h t)
  refine vis_of (fun z => ?_) q2 q3
  rcases List.mem_append.mp z with z | z
  · rw [hb b z] at h3
    cases h3
  · exact h1 z
theorem item_rep {B Bx ρ0 ρ : List Addr} {H0 H : Hp} {own own' : OwnV} {l : List U} {vs : List V} {i : Nat} {x : V} (s : Stp ρ0 H0 ρ H) (hb : ∀ b ∈ Bx, H0 b = none) (r : RepUs G (vis B ρ0 H0) ρ0 own l vs) (ho : hasOwnL l = false) (hx : vs[i]? = some x) :
    ∃ u, l[i]? = some u ∧ RepU G (vis (Bx ++ B) ρ H) ρ own' u x := by
  obtain ⟨u, hu, ru⟩ := r.getV hx
  exact ⟨u, hu, (ru.noOwn (own' := own') (ownL_get ho hu)).le (leX s hb) s.pre fun _ _ z => z⟩
theorem itok_list {own0 : OwnV} {B ρ0 : List Addr} {H0 : Hp} {a : Addr} {l : List U} {vs : List V} (hq : Rd (vis B ρ0 H0) a (.lst vs)) (r : RepUs G (vis B ρ0 H0) ρ0 own0 l vs) (ho : hasOwnL l = false) : ItOk G B ρ0 H0 (Itl G.K a) l yes := by
  intro oS Bx hbx ρ H en st σ s R _ i
  have q : SqL G.K H a vs := .inl (Rd.le vis_le nt_lst (Rd.le s.le nt_lst hq))
  refine ⟨fun hi => ?_, fun hi => ⟨vs, q, by rw [← r.length]; exact hi⟩⟩
  obtain ⟨v, hv, _⟩ := r.get (List.getElem?_eq_getElem hi)
  refine ⟨⟨vs, v, q, hv⟩, fun x H' y => ?_⟩
  obtain ⟨rfl, y⟩ := y
  obtain ⟨u, hu, ru⟩ := item_rep (own' := oS σ) s hbx r ho (y vs q)
  exact ⟨u, hu, Stp.refl _ _, R, ru⟩
theorem itok_tup {own0 : OwnV} {B ρ0 : List Addr} {H0 : Hp} {a : Addr} {l : List U} {vs : List V} (hq : SqT G.K (vis B ρ0 H0) a vs) (r : RepUs G (vis B ρ0 H0) ρ0 own0 l vs) (ho : hasOwnL l = false) : ItOk G B ρ0 H0 (Itt G.K a) l yes := by
  intro oS Bx hbx ρ H en st σ s R _ i
  have q : SqT G.K H a vs := SqT.le vis_le (SqT.le s.le hq)
  refine ⟨fun hi => ?_, fun hi => ⟨vs, q, by rw [← r.length]; exact hi⟩⟩
  obtain ⟨v, hv, _⟩ := r.get (List.getElem?_eq_getElem hi)
  refine ⟨⟨vs, v, q, hv⟩, fun x H' y => ?_⟩
  obtain ⟨rfl, y⟩ := y
  obtain ⟨u, hu, ru⟩ := item_rep (own' := oS σ) s hbx r ho (y vs q)
  exact ⟨u, hu, Stp.refl _ _, R, ru⟩
theorem itok_str {B ρ0 : List Addr} {H0 : Hp} {z : Str} : ItOk G B ρ0 H0 (Its z) (signsU z) yes := by
  intro oS Bx hbx ρ H en st σ s R _ i
  have len : (signsU z).length = z.cps.size := by unfold signsU; simp
  refine ⟨fun hi => ⟨(by rw [len] at hi; exact hi : i < z.cps.size), fun x H' y => ?_⟩, fun hi => (by rw [len] at hi; exact hi : z.cps.size ≤ i)⟩
  obtain ⟨rfl, c, hc, rfl⟩ := y
  refine ⟨.d (.str ⟨#[c]⟩), ?_, Stp.refl _ _, R, .d (.str _)⟩
  unfold signsU
  rw [List.getElem?_map, Array.getElem?_toList, hc]
  rfl
theorem si_seq {e : Expr} {f : SemE} (hK : X.K = G.K) (he : SE X oS G W e f) : SI X oS G W tg e (mSeqI f) := by
  refine PI.imp (pi_seq he) fun σ H R ⟨B, ρ, en, st, RR, h⟩ => ?_
  refine ⟨B, ρ, en, st, RR, (PostE.bind h).mono fun u st1 ρ1 H1 _ s1 R1 h1 v rv => ?_⟩
  split at h1
  · rename_i l hl
    unfold iterOf at hl
    split at hl
    · split at hl
      · rename_i hz
        cases hl
        cases rv with
        | d rv =>
          cases rv
          exact .inl ⟨_, rfl, h1 ρ1 H1 (Stp.refl _ _) R1 _ itok_str (by unfold signsU; rw [List.length_map]; exact hz)⟩
      · cases hl
    · obtain ⟨ho, a, vs, rfl, sq, rs, hz⟩ := stay_rep rv hl
      rw [hK]
      refine .inr ⟨a, rfl, ?_⟩
      rcases sq with sq | sq
      · exact .inl ⟨⟨vs, .inl (Rd.le vis_le nt_lst sq)⟩, h1 ρ1 H1 (Stp.refl _ _) R1 _ (itok_list sq rs ho) (by rw [rs.length]; exact hz)⟩
      · exact .inr ⟨⟨vs, SqT.le vis_le sq⟩, h1 ρ1 H1 (Stp.refl _ _) R1 _ (itok_tup sq rs ho) (by rw [rs.length]; exact hz)⟩
  · exact h1.elim
/-! enumerate -/
def enumL (l : List U) : List U := l.zipIdx.map fun p => mkTup [.d (.int p.2), p.1]
theorem enumL_get {l : List U} {i : Nat} : (enumL l)[i]? = (l[i]?).map fun u => mkTup [.d (.int i), u] := by
  unfold enumL
  rw [List.getElem?_map, List.getElem?_zipIdx]
  cases l[i]? <;> simp
theorem enumL_length (l : List U) : (enumL l).length = l.length := by unfold enumL; simp
def mEnum (f : SemE) : SemI := fun en st => (f en st).bind fun u st => match stayOf u with
  | some l => .ok (enumL l, yes) st
  | none => .bad
theorem pair_rep {B ρ : List Addr} {en : Nv} {st : Sto} {σ : L2.St} {H : Hp} {T : Addr} {u w : U} {x y : V} (R : Rel oS G B ρ en st σ H) (hT : H T = none) (ru : RepU G (vis B ρ H) ρ (oS σ) u x) (rw' : RepU G (vis B ρ H) ρ (oS σ) w y) :
    Stp ρ H ρ (upd H T (.tup [x, y])) ∧ Rel oS G B ρ en st σ (upd H T (.tup [x, y])) ∧ RepU G (vis B ρ (upd H T (.tup [x, y]))) ρ (oS σ) (mkTup [u, w]) (.ref T) := by
  have f := R.sto.fresh hT
  exact ⟨Stp.laid hT, R.laid hT, mkTup_rep f.1 f.2 hT (by show 2 ≤ sizeLine; rw [sizeLine_eq]; decide) (.cons ru (.cons rw' .nil))⟩
theorem si_enum {e : Expr} {f : SemE} {p pos tpos : Pos} {elts : List Expr} {kk : Nat} (hK : X.K = G.K) (hg : Gl X "enumerate") (hm : X.mg "enumerate" = none) (he : SE X oS G W e f) (hs : starEach [e] X.env = [(false, eval e X.env)] := by rfl) :
    SI X oS G W (.Tuple elts kk tpos) (.Call (.Name "enumerate" p) [e] [] pos) (mEnum f) := by
  have ha : PA X [e] (tCons (rdE oS G W f) tNil) := pa_cons he pa_nil hs
  refine PI.imp (pi_enumA hg hm ha hs) fun σ H R ⟨B, ρ, en, st, RR, h⟩ => ?_
  refine ⟨B, ρ, en, st, RR, (PostE.bind h).mono fun u st1 ρ1 H1 _ s1 R1 h1 v rv => ?_⟩
  split at h1
  · rename_i l hl
    obtain ⟨ho, a, vs, rfl, sq, rs, hz⟩ := stay_rep rv hl
    rw [hK]
    refine ⟨a, rfl, ?_⟩
    rcases sq with sq | sq
    · refine .inl ⟨⟨vs, .inl (Rd.le vis_le nt_lst sq)⟩, h1 ρ1 H1 (Stp.refl _ _) R1 _ ?_ (by show (enumL l).length ≤ _; rw [enumL_length, rs.length]; exact hz)⟩
      intro oS Bx hbx ρ H en st σ s R _ i
      have q : SqL G.K H a vs := .inl (Rd.le vis_le nt_lst (Rd.le s.le nt_lst sq))
      dsimp only
      rw [enumL_length]
      refine ⟨fun hi => ?_, fun hi => ⟨vs, q, by rw [← rs.length]; exact hi⟩⟩
      obtain ⟨v, hv, _⟩ := rs.get (List.getElem?_eq_getElem hi)
      refine ⟨⟨vs, v, q, hv⟩, fun x H' y => ?_⟩
      obtain ⟨T, x0, rfl, hT, rfl, y⟩ := y
      obtain ⟨u, hu, ru⟩ := item_rep (own' := oS σ) s hbx rs ho (y vs q)
      obtain ⟨z1, z2, z3⟩ := pair_rep R hT (.d (.int (i : Nat))) ru
      exact ⟨_, by rw [enumL_get, hu]; rfl, z1, z2, z3⟩
    · refine .inr ⟨⟨vs, SqT.le vis_le sq⟩, h1 ρ1 H1 (Stp.refl _ _) R1 _ ?_ (by show (enumL l).length ≤ _; rw [enumL_length, rs.length]; exact hz)⟩
      intro oS Bx hbx ρ H en st σ s R _ i
      have q : SqT G.K H a vs := SqT.le vis_le (SqT.le s.le sq)
      dsimp only
      rw [enumL_length]
      refine ⟨fun hi => ?_, fun hi => ⟨vs, q, by rw [← rs.length]; exact hi⟩⟩
      obtain ⟨v, hv, _⟩ := rs.get (List.getElem?_eq_getElem hi)
      refine ⟨⟨vs, v, q, hv⟩, fun x H' y => ?_⟩
      obtain ⟨T, x0, rfl, hT, rfl, y⟩ := y
      obtain ⟨u, hu, ru⟩ := item_rep (own' := oS σ) s hbx rs ho (y vs q)
      obtain ⟨z1, z2, z3⟩ := pair_rep R hT (.d (.int (i : Nat))) ru
      exact ⟨_, by rw [enumL_get, hu]; rfl, z1, z2, z3⟩
  · exact h1.elim
/-! zip of two lists, of two tuples -/
def zipL (l m : List U) : List U := List.zipWith (fun u w => mkTup [u, w]) l m
def kindOf : U → Nat
  | .d (.list _) => 1
  | .d (.tuple _) => 2
  | .tup _ => 2
  | _ => 0
def mZip (f g : SemE) : SemI := fun en st => (f en st).bind fun u st => (g en st).bind fun w st => match stayOf u, stayOf w with
  | some l, some m => if kindOf u = kindOf w then .ok (zipL l m, yes) st else .bad
  | _, _ => .bad
theorem stay_list {B ρ : List Addr} {own : OwnV} {H : Hp} {u : U} {x : V} {l : List U} (ru : RepU G (vis B ρ H) ρ own u x) (h : stayOf u = some l) (k : kindOf u = 1) :
    hasOwnL l = false ∧ ∃ a vs, x = .ref a ∧ Rd (vis B ρ H) a (.lst vs) ∧ RepUs G (vis B ρ H) ρ own l vs ∧ vs.length ≤ sizeLine := by
  unfold stayOf at h
  split at h
  · cases k
  · cases h
    cases ru with
    | d r => cases r with
      | list s z r => exact ⟨ownL_map _, _, _, rfl, s, RepUs.ofD r, z⟩
  · cases k
  · cases h
theorem stay_tup {B ρ : List Addr} {own : OwnV} {H : Hp} {u : U} {x : V} {l : List U} (ru : RepU G (vis B ρ H) ρ own u x) (h : stayOf u = some l) (k : kindOf u ≠ 1) :
    kindOf u = 2 ∧ hasOwnL l = false ∧ ∃ a vs, x = .ref a ∧ SqT G.K (vis B ρ H) a vs ∧ RepUs G (vis B ρ H) ρ own l vs ∧ vs.length ≤ sizeLine := by
  unfold stayOf at h
  split at h
  · cases h
    cases ru with
    | d r => cases r with
      | tuple s z r => exact ⟨rfl, ownL_map _, _, _, rfl, s, RepUs.ofD r, z⟩
  · exact absurd rfl k
  · split at h
    · rename_i ho
      cases h
      cases ru with
      | tup s z r => exact ⟨rfl, ho, _, _, rfl, s, r, z⟩
    · cases h
  · cases h
theorem zipL_get {l m : List U} {i : Nat} {u w : U} (h1 : l[i]? = some u) (h2 : m[i]? = some w) : (zipL l m)[i]? = some (mkTup [u, w]) := by
  unfold zipL
  rw [List.getElem?_zipWith, h1, h2]
theorem si_zip {e e2 : Expr} {f g : SemE} {p pos tpos : Pos} {elts : List Expr} {kk : Nat} (hK : X.K = G.K) (hg : Gl X "zip") (hm : X.mg "zip" = none) (he : SE X oS G W e f) (he2 : SE X oS G W e2 g)
    (hs : starEach [e, e2] X.env = (false, eval e X.env) :: starEach [e2] X.env := by rfl) (hs2 : starEach [e2] X.env = (false, eval e2 X.env) :: starEach [] X.env := by rfl) (hpl : (backTo pos (starEach [e2] X.env)).any (·.1) = false := by rfl) :
    SI X oS G W (.Tuple elts kk tpos) (.Call (.Name "zip" p) [e, e2] [] pos) (mZip f g) := by
  have ha : PA X [e, e2] (tCons (rdE oS G W f) (tCons (rdE oS G W g) tNil)) := pa_cons he (pa_cons he2 pa_nil hs2) hs
  refine PI.imp (RZ.pi_zipA hg hm ha hs hpl) fun σ H R ⟨B, ρ, en, st, RR, h⟩ => ?_
  refine ⟨B, ρ, en, st, RR, (PostE.bind h).mono fun u st1 ρ1 H1 _ s1 R1 h1 v rv => ?_⟩
  refine ⟨B, ρ1, en, st1, R1, (PostE.bind h1).mono fun w st2 ρ2 H2 _ s2 R2 h2 y ry => ?_⟩
  have rv := rv.stp s2
  split at h2
  · rename_i l m hl hm'
    split at h2
    · rename_i hk
      rw [hK]
      by_cases k1 : kindOf u = 1
      · obtain ⟨ho, a, vs, rfl, sq, rs, hz⟩ := stay_list rv hl k1
        obtain ⟨ho2, a2, vs2, rfl, sq2, rs2, _⟩ := stay_list ry hm' (hk ▸ k1)
        refine ⟨a, a2, vs, vs2, rfl, .inl ⟨.inl (Rd.le vis_le nt_lst sq), .inl (Rd.le vis_le nt_lst sq2), h2 ρ2 H2 (Stp.refl _ _) R2 _ ?_ (by show (zipL l m).length ≤ _; unfold zipL; rw [List.length_zipWith, rs.length]; exact Nat.le_trans (Nat.min_le_left _ _) hz)⟩⟩
        intro oS Bx hbx ρ H en st σ s R _ i
        have q : SqL G.K H a vs := .inl (Rd.le vis_le nt_lst (Rd.le s.le nt_lst sq))
        have q2 : SqL G.K H a2 vs2 := .inl (Rd.le vis_le nt_lst (Rd.le s.le nt_lst sq2))
        have hlen : (zipL l m).length = min l.length m.length := by unfold zipL; simp
        dsimp only
        refine ⟨fun hi => ?_, fun hi => ⟨vs, vs2, q, q2, by rw [← rs.length, ← rs2.length]; omega⟩⟩
        obtain ⟨v, hv, _⟩ := rs.get (List.getElem?_eq_getElem (show i < l.length by omega))
        obtain ⟨v2, hv2, _⟩ := rs2.get (List.getElem?_eq_getElem (show i < m.length by omega))
        refine ⟨⟨vs, vs2, v, v2, q, q2, hv, hv2⟩, fun x H' y => ?_⟩
        obtain ⟨T, x0, y0, rfl, hT, rfl, y1, y2⟩ := y
        obtain ⟨u', hu, ru⟩ := item_rep (own' := oS σ) s hbx rs ho (y1 vs q)
        obtain ⟨w', hw, rw'⟩ := item_rep (own' := oS σ) s hbx rs2 ho2 (y2 vs2 q2)
        obtain ⟨z1, z2, z3⟩ := pair_rep R hT ru rw'
        exact ⟨_, zipL_get hu hw, z1, z2, z3⟩
      · obtain ⟨k2, ho, a, vs, rfl, sq, rs, hz⟩ := stay_tup rv hl k1
        obtain ⟨_, ho2, a2, vs2, rfl, sq2, rs2, _⟩ := stay_tup ry hm' (hk ▸ k1)
        refine ⟨a, a2, vs, vs2, rfl, .inr ⟨SqT.le vis_le sq, SqT.le vis_le sq2, h2 ρ2 H2 (Stp.refl _ _) R2 _ ?_ (by show (zipL l m).length ≤ _; unfold zipL; rw [List.length_zipWith, rs.length]; exact Nat.le_trans (Nat.min_le_left _ _) hz)⟩⟩
        intro oS Bx hbx ρ H en st σ s R _ i
        have q : SqT G.K H a vs := SqT.le vis_le (SqT.le s.le sq)
        have q2 : SqT G.K H a2 vs2 := SqT.le vis_le (SqT.le s.le sq2)
        have hlen : (zipL l m).length = min l.length m.length := by unfold zipL; simp
        dsimp only
        refine ⟨fun hi => ?_, fun hi => ⟨vs, vs2, q, q2, by rw [← rs.length, ← rs2.length]; omega⟩⟩
        obtain ⟨v, hv, _⟩ := rs.get (List.getElem?_eq_getElem (show i < l.length by omega))
        obtain ⟨v2, hv2, _⟩ := rs2.get (List.getElem?_eq_getElem (show i < m.length by omega))
        refine ⟨⟨vs, vs2, v, v2, q, q2, hv, hv2⟩, fun x H' y => ?_⟩
        obtain ⟨T, x0, y0, rfl, hT, rfl, y1, y2⟩ := y
        obtain ⟨u', hu, ru⟩ := item_rep (own' := oS σ) s hbx rs ho (y1 vs q)
        obtain ⟨w', hw, rw'⟩ := item_rep (own' := oS σ) s hbx rs2 ho2 (y2 vs2 q2)
        obtain ⟨z1, z2, z3⟩ := pair_rep R hT ru rw'
        exact ⟨_, zipL_get hu hw, z1, z2, z3⟩
    · exact h2.elim
  · exact h2.elim
/-! range -/
def rgU (lo hi : Int) : List U := (List.range (hi - lo).toNat).map fun i => U.d (.int (lo + (i : Nat)))
theorem itok_rg {B ρ0 : List Addr} {H0 : Hp} (lo hi : Int) : ItOk G B ρ0 H0 (Itr lo (hi - lo).toNat) (rgU lo hi) yes := by
  intro oS Bx hbx ρ H en st σ s R _ i
  have hl : (rgU lo hi).length = (hi - lo).toNat := by unfold rgU; simp
  rw [hl]
  refine ⟨fun hi' => ⟨hi', fun x H' y => ?_⟩, fun h => h⟩
  obtain ⟨rfl, rfl⟩ := y
  refine ⟨.d (.int (lo + (i : Nat))), ?_, Stp.refl _ _, R, .d (.int _)⟩
  unfold rgU
  rw [List.getElem?_map, List.getElem?_range hi']
  rfl
theorem rgU_len {lo hi : Int} (h : rgOk lo hi) : (rgU lo hi).length ≤ sizeLine := by
  have e : (rgU lo hi).length = (hi - lo).toNat := by unfold rgU; simp
  rw [e, sizeLine_eq]
  exact h.2.2.2.2
def b62 (i : Int) : Prop := -(2 ^ 62) ≤ i ∧ i < 2 ^ 62
instance (i : Int) : Decidable (b62 i) := by unfold b62; infer_instance
def mRg1 (f : SemE) : SemI := fun en st => (f en st).bind fun u st => match u with
  | .d (.int j) => if rgOk 0 j then .ok (rgU 0 j, yes) st else .bad
  | _ => .bad
def mRg2 (f g : SemE) : SemI := fun en st => (f en st).bind fun u st => (g en st).bind fun w st => match u, w with
  | .d (.int i), .d (.int j) => if rgOk i j then .ok (rgU i j, yes) st else .bad
  | _, _ => .bad
theorem si_range1 {a : Expr} {f : SemE} {p pos : Pos} (hg : Gl X "range") (hm : X.mg "range" = none) (ha : SE X oS G W a f) (hs : starEach [a] X.env = [(false, eval a X.env)] := by rfl) : SI X oS G W tg (.Call (.Name "range" p) [a] [] pos) (mRg1 f) := by
  have ha' : PA X [a] (tCons (rdE oS G W f) tNil) := pa_cons ha pa_nil hs
  refine PI.imp (pi_range1 hg hm ha' hs) fun σ H R ⟨B, ρ, en, st, RR, h⟩ => ?_
  refine ⟨B, ρ, en, st, RR, (PostE.bind h).mono fun u st1 ρ1 H1 _ s1 R1 h1 v rv => ?_⟩
  split at h1
  · split at h1
    · rename_i hb
      cases rv with
      | d rv =>
        cases rv
        refine ⟨_, rfl, hb.2.2.1, hb.2.2.2.1, ?_⟩
        have q := h1 ρ1 H1 (Stp.refl _ _) R1 _ (itok_rg 0 _) (rgU_len hb)
        simpa using q
    · exact h1.elim
  · exact h1.elim
theorem si_range2 {a b : Expr} {f g : SemE} {p pos : Pos} (hg : Gl X "range") (hm : X.mg "range" = none) (ha : SE X oS G W a f) (hb : SE X oS G W b g) (hs : starEach [a, b] X.env = [(false, eval a X.env), (false, eval b X.env)] := by rfl) (hs2 : starEach [b] X.env = [(false, eval b X.env)] := by rfl) (hs3 : starEach [a, b] X.env = (false, eval a X.env) :: starEach [b] X.env := by rfl) (hs4 : starEach [b] X.env = (false, eval b X.env) :: starEach [] X.env := by rfl) : SI X oS G W tg (.Call (.Name "range" p) [a, b] [] pos) (mRg2 f g) := by
  have ha' : PA X [a, b] (tCons (rdE oS G W f) (tCons (rdE oS G W g) tNil)) := pa_cons ha (pa_cons hb pa_nil hs4) hs3
  refine PI.imp (pi_range2 hg hm ha' hs hs2) fun σ H R ⟨B, ρ, en, st, RR, h⟩ => ?_
  refine ⟨B, ρ, en, st, RR, (PostE.bind h).mono fun u st1 ρ1 H1 _ s1 R1 h1 v rv => ?_⟩
  refine ⟨B, ρ1, en, st1, R1, (PostE.bind h1).mono fun w st2 ρ2 H2 _ s2 R2 h2 y ry => ?_⟩
  have rv := rv.stp s2
  split at h2
  · split at h2
    · rename_i hb
      cases rv with
      | d rv =>
        cases rv
        cases ry with
        | d ry =>
          cases ry
          exact ⟨_, _, rfl, ⟨hb.1, hb.2.1, hb.2.2.1, hb.2.2.2.1⟩, h2 ρ2 H2 (Stp.refl _ _) R2 _ (itok_rg _ _) (rgU_len hb)⟩
    · exact h2.elim
  · exact h2.elim
end
end TT
set_option Elab.async false
set_option linter.all false
set_option maxRecDepth 100000
set_option maxHeartbeats 2000000
namespace TT
open PySem PySem.Spec PyProof.Rows L2

/-! ## comprehensions -/
def wipeN (en : Nv) : List Nat → Nv
  | [] => en
  | v :: vs => (wipeN en vs).set v none
theorem wipeN_length (en : Nv) : ∀ vs : List Nat, (wipeN en vs).length = en.length
  | [] => rfl
  | v :: vs => by unfold wipeN; rw [List.length_set, wipeN_length en vs]
theorem wipeN_some {en : Nv} {i : Nat} {x : U} : ∀ {vs : List Nat}, (wipeN en vs)[i]? = some (some x) → en[i]? = some (some x) ∧ i ∉ vs
  | [], h => ⟨h, by simp⟩
  | v :: vs, h => by
    unfold wipeN at h
    by_cases hi : v = i
    · subst hi
      by_cases hv : v < (wipeN en vs).length
      · rw [List.getElem?_set_self hv] at h; cases h
      · rw [List.getElem?_eq_none (by simpa using hv)] at h; cases h
    · rw [List.getElem?_set_ne hi] at h
      obtain ⟨h1, h2⟩ := wipeN_some h
      exact ⟨h1, by simp only [List.mem_cons, not_or]; exact ⟨fun e => hi e.symm, h2⟩⟩
theorem wipe_set {σ : L2.St} {i : Nat} {x : Option V} : ∀ {vs : List Nat}, i ∈ vs → wipe (σ.set i x) vs = wipe σ vs
  | [], h => by cases h
  | v :: vs, h => by
    unfold wipe
    by_cases hv : i ∈ vs
    · rw [wipe_set hv]
    · have e : i = v := by
        rcases List.mem_cons.mp h with z | z
        · exact z
        · exact absurd z hv
      subst e
      have comm : ∀ ws : List Nat, i ∉ ws → wipe (σ.set i x) ws = (wipe σ ws).set i x := fun ws => by
        induction ws with
        | nil => intro _; rfl
        | cons w ws ih =>
          intro hw
          simp only [List.mem_cons, not_or] at hw
          unfold wipe
          rw [ih hw.2, List.set_comm _ _ hw.1]
      rw [comm vs hv, List.set_set]
theorem wipe_sub {σ : L2.St} : ∀ {ws vs : List Nat}, (∀ w ∈ ws, w ∈ vs) → wipe (wipe σ ws) vs = wipe σ vs
  | [], vs, _ => rfl
  | w :: ws, vs, h => by
    show wipe ((wipe σ ws).set w none) vs = wipe σ vs
    rw [wipe_set (h w List.mem_cons_self)]
    exact wipe_sub fun z hz => h z (List.mem_cons_of_mem _ hz)
theorem wipe_wipe (σ : L2.St) (vs : List Nat) : wipe (wipe σ vs) vs = wipe σ vs := wipe_sub fun _ h => h
theorem onlyNx_rt {r : RS} {u : U} {s : Sto} : onlyNx r ≠ .rt u s := by cases r <;> simp [onlyNx]
section
variable {X : Cx} {oS : OwnS} {G : Gd} {W : WX}
abbrev W0 : WX := fun _ _ _ _ => False
/-- a store to a name of the block's own -/
def rdW (vs : List Nat) (G : Gd) (g : SemG) : TG := fun v σ H Q => ∃ B ρ en st u, Rel noOwnS G B ρ en st σ H ∧ RepU G (vis B ρ H) ρ (noOwnS σ) u v ∧ PostS noOwnS G W0 B ρ H ⟨fun σ2 H2 => wipe σ2 vs = wipe σ vs → Q σ2 H2, fun _ _ => False, fun _ _ => False, fun _ _ => False⟩ (g u en st)
def rdWs (vs : List Nat) (G : Gd) (g : List U → Nv → Sto → RS) : TGs := fun v σ H Q => ∃ B ρ en st us, Rel noOwnS G B ρ en st σ H ∧ RepUs G (vis B ρ H) ρ (noOwnS σ) us v ∧ PostS noOwnS G W0 B ρ H ⟨fun σ2 H2 => wipe σ2 vs = wipe σ vs → Q σ2 H2, fun _ _ => False, fun _ _ => False, fun _ _ => False⟩ (g us en st)
def WG (X : Cx) (vs : List Nat) (G : Gd) (t : Expr) (g : SemG) : Prop := PG X t (rdW vs G g)
def WGs (X : Cx) (vs : List Nat) (G : Gd) (t : List Expr) (g : List U → Nv → Sto → RS) : Prop := PGs X t (rdWs vs G g)
theorem wg_name {vs : List Nat} {i : Nat} {x : Str} {pos : Pos} (hv : i ∈ vs) (hN : X.N.Nodup) (hi : X.N[i]? = some x) (hx : Loc X.env.scope x) (hf : X.fn x = true ∨ X.env.scope.names.lookup x = some .local := by first | exact .inl rfl | exact .inr rfl | assumption) : WG X vs G (.Name x pos) (mG i) := by
  refine PG.imp (pg_name hN hi hx hf) fun v σ H Q ⟨B, ρ, en, st, u, R, ru, h⟩ => ?_
  exact h ρ H _ (Stp.refl _ _) (R.setL ru noCell_no) (wipe_set hv)
theorem wgs_nil {vs : List Nat} : WGs X vs G [] mGNil := by
  refine PGs.imp pgs_nil fun v σ H Q ⟨B, ρ, en, st, us, R, ru, h⟩ => ?_
  unfold mGNil at h
  split at h
  · cases ru
    exact ⟨rfl, h ρ H σ (Stp.refl _ _) R rfl⟩
  · exact h.elim
def mGConsW (g : SemG) (gs : List U → Nv → Sto → RS) : List U → Nv → Sto → RS := fun us en st => match us with
  | u :: r => (onlyNx (g u en st)).then (gs r)
  | [] => .bad
theorem wgs_cons {vs : List Nat} {e : Expr} {es : List Expr} {g : SemG} {gs : List U → Nv → Sto → RS} (h1 : WG X vs G e g) (h2 : WGs X vs G es gs)
    (hs : (assignEach (e :: es) X.env).map (·.2) = assign e X.env :: (assignEach es X.env).map (·.2) := by rfl) : WGs X vs G (e :: es) (mGConsW g gs) := by
  refine PGs.imp (pgs_cons h1 h2 hs) fun v σ H Q ⟨B, ρ, en, st, us, R, ru, h⟩ => ?_
  unfold mGConsW at h
  split at h
  · rename_i u r
    cases ru with
    | cons a b =>
      refine ⟨_, _, rfl, B, ρ, en, st, u, R, a, ?_⟩
      refine PostS.only (Dn := ⟨fun σ2 H2 => wipe σ2 vs = wipe σ vs → rdWs vs G gs _ σ2 H2 Q, fun _ _ => False, fun _ _ => False, fun _ _ => False⟩) ?_
      cases q : onlyNx (g u en st) with
      | nx e s =>
        rw [q] at h
        intro ρ1 H1 σ1 s1 R1 hw
        refine ⟨B, ρ1, e, s, r, R1, b.stp s1, ?_⟩
        have h := PostS.step s1 h
        simp only [RS.then] at h
        rw [hw]
        exact h
      | exn c u e s => rw [q] at h; exact h
      | rt u s => exact absurd q onlyNx_rt
      | bk e s => rw [q] at h; exact h
      | ct e s => rw [q] at h; exact h
      | bad => rw [q] at h; exact h
  · exact h.elim
theorem wg_tup {vs : List Nat} {es : List Expr} {k : Nat} {gs : List U → Nv → Sto → RS} {n : Nat} {pos : Pos} (hK : X.K = G.K) (hc : X.calm = true) (h : WGs X vs G es gs)
    (hn : (assignEach es X.env).length = n := by rfl) (hst : (assignEach es X.env).findIdx? (·.1) = none := by rfl) : WG X vs G (.Tuple es k pos) (mGTup n gs) := by
  refine PG.imp (pg_tup hc h hn hst) fun v σ H Q ⟨B, ρ, en, st, u, R, ru, h⟩ => ?_
  unfold mGTup at h
  split at h
  · rename_i l hl
    split at h
    · rename_i hn
      have q : ∃ a vs, v = .ref a ∧ SqT G.K H a vs ∧ RepUs G (vis B ρ H) ρ (noOwnS σ) l vs := by
        unfold tupOf at hl
        split at hl
        · cases hl
          cases ru with
          | d r => cases r with
            | tuple s z r => exact ⟨_, _, rfl, SqT.le vis_le s, RepUs.ofD r⟩
        · cases hl
          cases ru with
          | tup s z r => exact ⟨_, _, rfl, SqT.le vis_le s, r⟩
        · cases hl
      obtain ⟨a, vs, rfl, sq, rs⟩ := q
      exact ⟨a, vs, rfl, by rw [hK]; exact sq, by rw [← rs.length]; exact hn, B, ρ, en, st, l, R, rs, h⟩
    · exact h.elim
  · exact h.elim
/-- the tests of a clause -/
def ST1 (X : Cx) (G : Gd) (ifs : List Expr) (t : SemT) : Prop := PTs X ifs (rdT noOwnS G W0 t)
theorem sts_nil : ST1 X G [] (fun _ st => .ok true st) := ⟨fun pins s σ H Q I ⟨B, ρ, en, st, R, h⟩ => (pts_nil : PTs X [] tYes).run pins s σ H Q I (h ρ H (Stp.refl _ _) R)⟩
theorem sts_one {c : Expr} {t : SemT} (h : ST X noOwnS G W0 c t) : ST1 X G [c] t := pts_one h

/-- the items, one after the other; what is made so far -/
def lcL (g : SemG) (t : SemT) (fe : SemE) (chk : Sto → Bool) (en : Nv) : List U → List U → Sto → Res (List U)
  | [], acc, st => if chk st = true then .ok acc st else .bad
  | u :: r, acc, st => if chk st = true then (match g u en st with
    | .nx en1 st1 => (match t en1 st1 with
      | .ok b st2 => if b = true then (match fe en1 st2 with
          | .ok y st3 => lcL g t fe chk en r (acc ++ [y]) st3
          | _ => .bad)
        else lcL g t fe chk en r acc st2
      | _ => .bad)
    | _ => .bad) else .bad
def mLc (fi : SemI) (vs : List Nat) (g : SemG) (t : SemT) (fe : SemE) : SemE := fun en st => (fi en st).bind fun it st =>
  if enOwn en = false ∧ stOwn st = false then (lcL g t fe it.2 (wipeN en vs) it.1 [] st).bind fun l st => (match allD l with
    | some l => .ok (.d (.list l)) st
    | none => .bad) else .bad
theorem Rel.block {B ρ : List Addr} {en : Nv} {st : Sto} {σ : L2.St} {H : Hp} {D : Addr} {o : HO} (R : Rel oS G B ρ en st σ H) (h1 : enOwn en = false) (h2 : stOwn st = false) (hD : H D = none) (ho : dat o) (vs : List Nat) :
    Rel noOwnS G (D :: B) ρ (wipeN en vs) st (wipe σ vs) (upd H D o) := by
  have f := R.sto.fresh hD
  have s : Stp ρ H ρ (upd H D o) := Stp.laid hD
  have l : Le (vis B ρ H) (vis (D :: B) ρ (upd H D o)) := leX (Bx := [D]) s fun b hb => by
    have e : b = D := by simpa using hb
    rw [e]; exact hD
  have S := R.sto.noOwn (own' := noOwnS σ) h2
  refine ⟨⟨S.len, S.nd, fun n c hc => ?_, fun b hb => ?_, S.tabs.ext fun b o' e => by rw [upd_ne (ne_of_none e hD)]; exact e⟩, by rw [wipeN_length, wipe_length, R.len], fun i u hu => ?_⟩
  · obtain ⟨a, o', q1, q2, q3⟩ := S.cell n c hc
    exact ⟨a, o', q1, by rw [upd_ne (ne_of_none q2 hD)]; exact q2, q3.le l (fun _ _ z => z) fun _ _ z => z⟩
  · rcases List.mem_cons.mp hb with e | hb
    · subst e
      exact ⟨f.2, o, upd_same, ho⟩
    · obtain ⟨q1, o', q2, q3⟩ := S.hid b hb
      exact ⟨q1, o', by rw [upd_ne (ne_of_none q2 hD)]; exact q2, q3⟩
  · obtain ⟨hu, hv⟩ := wipeN_some hu
    obtain ⟨v, q1, q2⟩ := R.env i u hu
    refine ⟨v, by rw [wipe_out hv]; exact q1, (q2.noOwn ?_).le l (fun _ _ z => z) fun _ _ z => z⟩
    unfold enOwn at h1
    rw [List.any_eq_false] at h1
    simpa using h1 _ (List.mem_of_getElem? hu)
/-- a block's state at a later heap -/
theorem Rel.again {B ρ ρ' : List Addr} {en en' : Nv} {st st' : Sto} {σ σ' : L2.St} {H H' : Hp} (R : Rel noOwnS G B ρ en st σ H) (s : Stp ρ H ρ' H') (R' : Rel noOwnS G B ρ' en' st' σ' H') : Rel noOwnS G B ρ' en st' σ H' :=
  R.ofS s (R'.sto.own fun _ _ z => z)
/-- the list that grows is written -/
theorem Rel.grow {B ρ : List Addr} {en : Nv} {st : Sto} {σ : L2.St} {H : Hp} {D : Addr} {o : HO} {ws : List V} (R : Rel noOwnS G (D :: B) ρ en st σ H) (ho : dat o) (hws : H D = some (.lst ws)) : Rel noOwnS G (D :: B) ρ en st σ (upd H D o) := by
  obtain ⟨hD, o0, hH, hn⟩ := R.sto.hid D (List.mem_cons_self)
  have l : Le (vis (D :: B) ρ H) (vis (D :: B) ρ (upd H D o)) := fun b o' e _ => by
    obtain ⟨q1, q2, q3⟩ := vis_some e
    refine vis_of q1 q2 ?_
    rw [upd_ne (fun z => q1 (by rw [z]; exact List.mem_cons_self))]
    exact q3
  refine ⟨⟨R.sto.len, R.sto.nd, fun n c hc => ?_, fun b hb => ?_, tabs_write R.sto.tabs hws nt_lst (by intro c q e; unfold LamX.CodeO at e; cases e)⟩, R.len, fun i u hu => ?_⟩
  · obtain ⟨a, o', q1, q2, q3⟩ := R.sto.cell n c hc
    refine ⟨a, o', q1, ?_, q3.le l (fun _ _ z => z) fun _ _ z => z⟩
    rw [upd_ne (fun z => hD (by rw [← z]; exact List.mem_of_getElem? q1))]
    exact q2
  · obtain ⟨q1, o', q2, q3⟩ := R.sto.hid b hb
    by_cases e : b = D
    · subst e
      exact ⟨q1, o, upd_same, ho⟩
    · exact ⟨q1, o', by rw [upd_ne e]; exact q2, q3⟩
  · obtain ⟨v, q1, q2⟩ := R.env i u hu
    exact ⟨v, q1, q2.le l (fun _ _ z => z) fun _ _ z => z⟩
/-- the list is done: it stays from now on -/
theorem Rel.leave {B ρ0 ρ : List Addr} {en en' : Nv} {st st' : Sto} {σ σ' : L2.St} {H0 H : Hp} {D : Addr} (R0 : Rel oS G B ρ0 en st σ H0) (s : Stp ρ0 H0 ρ H) (R : Rel noOwnS G (D :: B) ρ en' st' σ' H) : Rel oS G B ρ en st' σ H := by
  refine R0.ofS s ⟨R.sto.len, R.sto.nd, fun n c hc => ?_, fun b hb => R.sto.hid b (List.mem_cons_of_mem _ hb), R.sto.tabs⟩
  obtain ⟨a, o', q1, q2, q3⟩ := R.sto.cell n c hc
  refine ⟨a, o', q1, q2, q3.le (fun b o e t => ?_) (fun _ _ z => z) fun _ _ z => z.elim⟩
  obtain ⟨z1, z2, z3⟩ := vis_some e
  exact vis_of (fun z => z1 (List.mem_cons_of_mem _ z)) z2 z3
theorem rd_lc {fi : SemI} {vs : List Nat} {g : SemG} {t : SemT} {fe : SemE} {σ : L2.St} {H : Hp} {Q : VK} (h : rdE oS G W (mLc fi vs g t fe) σ H Q) :
    tLc (rdI oS G W fi) (rdW vs G g) (rdT noOwnS G W0 t) (rdE noOwnS G W0 fe) vs σ H Q := by
  obtain ⟨B, ρ, en, st, R, h⟩ := h
  refine ⟨B, ρ, en, st, R, (PostE.bind h).mono fun it st1 ρ1 H1 _ s1 R1 h1 J ok hlen D hD => ?_⟩
  split at h1
  case isFalse => exact h1.elim
  rename_i hno
  have RB := R1.block hno.1 hno.2 hD (dat_lst (xs := [])) vs
  have sD : Stp ρ1 H1 ρ1 (upd H1 D (.lst [])) := Stp.laid hD
  have hDx : ∀ b ∈ [D], H1 b = none := fun b hb => by
    have e : b = D := by simpa using hb
    rw [e]; exact hD
  refine ⟨fun i m H => m = it.1.length - i ∧ i ≤ it.1.length ∧ ∃ ρ st acc ws, Stp ρ1 H1 ρ H ∧ Rel noOwnS G (D :: B) ρ (wipeN en vs) st (wipe σ vs) H ∧ H D = some (.lst ws) ∧ RepUs G (vis (D :: B) ρ H) ρ (noOwnS σ) acc ws ∧ acc.length ≤ i ∧
    PostE oS G W B ρ1 en σ H1 (fun u ρ' H' _ => ∀ v, RepU G (vis B ρ' H') ρ' (oS σ) u v → Q v H') ((lcL g t fe it.2 (wipeN en vs) (it.1.drop i) acc st).bind fun l st => (match allD l with
    | some l => .ok (.d (.list l)) st
    | none => .bad)), ⟨_, rfl, Nat.zero_le _, ρ1, st1, [], [], sD, RB, upd_same, .nil, Nat.le_refl _, h1⟩, ?_⟩
  rintro i m H ⟨rfl, hi, ρ, st, acc, ws, s, RR, hDH, racc, hacc, h⟩
  by_cases hl : i < it.1.length
  · rw [List.drop_eq_getElem_cons hl, lcL] at h
    split at h
    case isFalse => exact h.elim
    rename_i hk
    obtain ⟨go, yl⟩ := (ok noOwnS [D] hDx ρ H _ st _ s RR hk i).1 hl
    refine .inr ⟨go, fun H' => ∃ ρ st acc ws, Stp ρ1 H1 ρ H' ∧ Rel noOwnS G (D :: B) ρ (wipeN en vs) st (wipe σ vs) H' ∧ H' D = some (.lst ws) ∧ RepUs G (vis (D :: B) ρ H') ρ (noOwnS σ) acc ws ∧ acc.length ≤ i + 1 ∧
      PostE oS G W B ρ1 en σ H1 (fun u ρ' H' _ => ∀ v, RepU G (vis B ρ' H') ρ' (oS σ) u v → Q v H') ((lcL g t fe it.2 (wipeN en vs) (it.1.drop (i + 1)) acc st).bind fun l st => (match allD l with
      | some l => .ok (.d (.list l)) st
      | none => .bad)), fun H' ⟨ρ', st', acc', ws', q⟩ => ⟨_, by omega, rfl, hl, ρ', st', acc', ws', q⟩, fun x H' y => ?_⟩
    obtain ⟨u, hu, sy, Ry, ru⟩ := yl x H' y
    rw [List.getElem?_eq_getElem hl] at hu
    cases hu
    have hDH' : H' D = some (.lst ws) := sy.keep D _ hDH (RR.sto.hid D List.mem_cons_self).1 nt_lst
    refine ⟨D :: B, ρ, wipeN en vs, st, it.1[i], Ry, ru, ?_⟩
    cases q : g it.1[i] (wipeN en vs) st with
    | nx en1 st1' =>
      rw [q] at h
      intro ρ2 H2 σ2 s2 R2 hw
      refine ⟨by rw [hw]; clear hw; exact wipe_wipe _ _, D :: B, ρ2, en1, st1', R2, ?_⟩
      dsimp only at h
      cases q2 : t en1 st1' with
      | ok b st2 =>
        rw [q2] at h
        intro ρ3 H3 s3 R3
        have s13 : Stp ρ H ρ3 H3 := (sy.trans s2).trans s3
        have hD3 : H3 D = some (.lst ws) := s13.keep D _ hDH (RR.sto.hid D List.mem_cons_self).1 nt_lst
        have racc3 := racc.le s13.le s13.pre fun _ _ z => z
        dsimp only at h ⊢
        by_cases hb : b = true
        · rw [if_pos hb] at h ⊢
          refine ⟨D :: B, ρ3, en1, st2, R3, ?_⟩
          cases q3 : fe en1 st2 with
          | ok y0 st3 =>
            rw [q3] at h
            intro ρ4 H4 s4 R4 v rv
            have s14 := s13.trans s4
            have hD4 : H4 D = some (.lst ws) := s4.keep D _ hD3 (R3.sto.hid D List.mem_cons_self).1 nt_lst
            have hz : ws.length < sizeLine := by
              have := racc.length
              omega
            refine ⟨ws, hD4, hz, ρ4, st3, acc ++ [y0], ws ++ [v], ?_, ?_, upd_same, ?_, by rw [List.length_append]; simp; omega, ?_⟩
            · have s1' := s.trans s14
              exact ⟨fun b o e hb' ht => by
                rw [upd_ne (ne_of_none e hD)]
                exact s1'.keep b o e hb' ht, fun b e => s1'.dom b (upd_dom e), s1'.pre, s1'.new⟩
            · exact (RR.again s14 R4).grow dat_lst hD4
            · have l : Le (vis (D :: B) ρ4 H4) (vis (D :: B) ρ4 (upd H4 D (.lst (ws ++ [v])))) := fun b o' e _ => by
                obtain ⟨z1, z2, z3⟩ := vis_some e
                refine vis_of z1 z2 ?_
                rw [upd_ne (fun z => z1 (by rw [z]; exact List.mem_cons_self))]
                exact z3
              exact ((racc3.le s4.le s4.pre fun _ _ z => z).append (.cons (rv.le (Le.refl _) (fun _ _ z => z) fun _ _ z => z.elim) .nil)).le l (fun _ _ z => z) fun _ _ z => z
            · exact h
          | exn c u0 st3 => rw [q3] at h; exact h.elim
          | bad => rw [q3] at h; exact h.elim
        · rw [if_neg hb] at h ⊢
          exact ⟨ρ3, st2, acc, ws, s.trans s13, RR.again s13 R3, hD3, racc3, by omega, h⟩
      | exn c u0 st2 => rw [q2] at h; exact h.elim
      | bad => rw [q2] at h; exact h.elim
    | rt u0 s0 => rw [q] at h; exact h.elim
    | bk e0 s0 => rw [q] at h; exact h.elim
    | ct e0 s0 => rw [q] at h; exact h.elim
    | exn c u0 e0 s0 => rw [q] at h; exact h.elim
    | bad => rw [q] at h; exact h.elim
  · have e : i = it.1.length := by omega
    subst e
    rw [List.drop_length, lcL] at h
    split at h
    case isFalse => exact h.elim
    rename_i hk
    refine .inl ⟨(ok noOwnS [D] hDx ρ H _ st _ s RR hk _).2 (Nat.le_refl _), ?_⟩
    dsimp only [Res.bind] at h
    split at h
    · rename_i l hl
      refine h ρ H s (Rel.leave R1 s RR) _ (.d (.list (.inl (vis_of ?_ (RR.sto.hid D List.mem_cons_self).1 hDH)) ?_ ?_))
      · intro hb
        obtain ⟨_, o', q2, _⟩ := R1.sto.hid D hb
        rw [hD] at q2
        cases q2
      · have := racc.length
        omega
      · have r := (racc.allD hl)
        exact r.le fun b o e t => by
          obtain ⟨z1, z2, z3⟩ := vis_some e
          exact vis_of (fun z => z1 (List.mem_cons_of_mem _ z)) z2 z3
    · exact h.elim
theorem se_lc {elt tg iter : Expr} {ifs : List Expr} {scope : Scope} {own : List (Str × Nat)} {pos : Pos} {fi : SemI} {g : SemG} {t : SemT} {fe : SemE} (hc : X.calm = true) (hN : X.N.Nodup) (hi : SI X oS G W tg iter fi) (ok : BlkOk X.N X.env.scope scope own)
    (hg : ∀ (s : Shared) (H : Hp) (C : Addr) (cl : List (Str × Addr)) (fp : List Addr), WG (X.blk s H scope (compEnvC scope cl C X.env) fp) (own.map (·.2)) G tg g) (ht : ∀ (s : Shared) (H : Hp) (C : Addr) (cl : List (Str × Addr)) (fp : List Addr), ST1 (X.blk s H scope (compEnvC scope cl C X.env) fp) G ifs t)
    (he : ∀ (s : Shared) (H : Hp) (C : Addr) (cl : List (Str × Addr)) (fp : List Addr), SE (X.blk s H scope (compEnvC scope cl C X.env) fp) noOwnS G W0 elt fe) (hs : ∀ x, foldedSetIterable iter X.env x = pure x := by intro _; rfl) :
    SE X oS G W (.ListComp elt [⟨tg, iter, ifs, 0⟩] scope pos) (mLc fi (own.map (·.2)) g t fe) :=
  PE.imp (pe_lc hc hN hi ok hg ht he hs) fun _ _ _ h => rd_lc h
/-- name = [..] on one line, the name a local -/
theorem ss_setLc {i : Nat} {y : Str} {py : Pos} {elt tg iter : Expr} {ifs : List Expr} {scope : Scope} {own : List (Str × Nat)} {pos spos : Pos} {fi : SemI} {g : SemG} {t : SemT} {fe : SemE} (hc : X.calm = true) (hN : X.N.Nodup) (hy : X.N[i]? = some y) (hyl : X.env.scope.names.lookup y = some .local) (hnc : NoCell oS i)
    (hsw : swapsWith (.ListComp elt [⟨tg, iter, ifs, 0⟩] scope pos) (some (.Name y py)) spos.line X.env = pure true) (hi : SI X oS G W tg iter fi) (ok : BlkOk X.N X.env.scope scope own)
    (hg : ∀ (s : Shared) (H : Hp) (C : Addr) (cl : List (Str × Addr)) (fp : List Addr), WG (X.blk s H scope (compEnvC scope cl C X.env) fp) (own.map (·.2)) G tg g) (ht : ∀ (s : Shared) (H : Hp) (C : Addr) (cl : List (Str × Addr)) (fp : List Addr), ST1 (X.blk s H scope (compEnvC scope cl C X.env) fp) G ifs t)
    (he : ∀ (s : Shared) (H : Hp) (C : Addr) (cl : List (Str × Addr)) (fp : List Addr), SE (X.blk s H scope (compEnvC scope cl C X.env) fp) noOwnS G W0 elt fe) (hs : ∀ x, foldedSetIterable iter X.env x = pure x := by intro _; rfl) :
    SS X oS G W (.Assign [.Name y py] (.ListComp elt [⟨tg, iter, ifs, 0⟩] scope pos) spos) (mAsgT (mLc fi (own.map (·.2)) g t fe) (mG i)) := by
  refine PS.imp (ps_setLc hc hN hy hyl hsw hi ok hg ht he hs) fun Dn σ H ⟨B, ρ, en, st, R, h⟩ => ?_
  refine rd_lc (oS := oS) (W := W) ⟨B, ρ, en, st, R, postE_of R h fun u st1 ρ1 H1 s1 R1 h1 v rv => ?_⟩
  exact h1 ρ1 H1 _ (Stp.refl _ _) (R1.setL rv hnc)
end
end TT
set_option Elab.async false
set_option linter.all false
set_option maxRecDepth 100000
set_option maxHeartbeats 2000000
namespace TT
open PySem PySem.Spec PyProof.Rows L2

/-! ## defs -/
structure RoomG (k : Nat) (A : Around) : Prop where
  room : Room k A
  g : A.guards = some []
theorem RoomG.mono {j k : Nat} {A : Around} (r : RoomG k A) (h : j ≤ k) : RoomG j A := ⟨r.room.mono h, r.g⟩
theorem RoomG.deeper {k : Nat} {A : Around} (r : RoomG (k + 1) A) (env : Env) : RoomG k (A.deeper env) := ⟨r.room.deeper env, by
  have e : (A.deeper env).guards = A.guards := by first | rfl | (simp [Around.deeper])
  rw [e]; exact r.g⟩
abbrev noOwn : OwnV := fun _ _ => False
abbrev SemF := List U → Sto → Res U
/-- an error, as the heap has it -/
def ExcF (G : Gd) (B ρ' : List Addr) (H' : Hp) (c : Str) (u : Option U) (C : Addr) (d : Option Addr) : Prop := G.clsA c = some C ∧
  match u with
  | some u => ∃ dd v, d = some dd ∧ H' dd = some (.xd [(G.clsF c, v)]) ∧ RepU G (vis B ρ' H') ρ' noOwn u v
  | none => d = none
/-- behind a call -/
def PostF (G : Gd) (B ρ : List Addr) (H : Hp) (Q : VK) (E : XK) : Res U → Prop
  | .ok u st' => ∀ ρ' H' v, Stp ρ H ρ' H' → RelS G B ρ' noOwn st' H' → RepU G (vis B ρ' H') ρ' noOwn u v → Q v H'
  | .exn c u st' => ∀ ρ' H' (C : Addr) (d : Option Addr), Stp ρ H ρ' H' → RelS G B ρ' noOwn st' H' → ExcF G B ρ' H' c u C d → E (.ref C) d H'
  | .bad => False
def spF (G : Gd) (n : Nat) (F : SemF) : Sp := fun vs H Q E => ∃ B ρ us st, us.length = n ∧ RelS G B ρ noOwn st H ∧ RepUs G (vis B ρ H) ρ noOwn us vs ∧ PostF G B ρ H Q E (F us st)
/-- the def at f is F -/
structure FOk (P : Program) (w : World) (K : PySem.W.Frag) (mg : Str → Option Value) (base : Heap) (G : Gd) (k : Nat) (f : Addr) (fd : FuncData) (ps : List Str) (F : SemF) : Prop where
  run : ∀ (A : Around) (outer : List Env) (s : Shared) (H : Hp) (args : Args) (us : List Value) (vs : List V) (Q : VK) (E : XK), RoomG k A → Env0 P w K mg base A outer s H → BindsTo s fd args (ps.zip us) → Vals vs us → spF G ps.length F vs H Q E →
    codeAny (model P w) A (.call (.ref f) args) (CR (L2.CX P w) outer P w H s Q E) s
theorem spF.len {G : Gd} {n : Nat} {F : SemF} {vs : List V} {H : Hp} {Q : VK} {E : XK} (h : spF G n F vs H Q E) : vs.length = n := by
  obtain ⟨B, ρ, us, st, e, _, r, _⟩ := h
  rw [← r.length, e]
section
variable {P : Program} {w : World} {K : PySem.W.Frag} {mg : Str → Option Value} {base : Heap} {G : Gd}
theorem FOk.mono {j k : Nat} {f : Addr} {fd : FuncData} {ps : List Str} {F : SemF} (h : FOk P w K mg base G j f fd ps F) (hj : j ≤ k) : FOk P w K mg base G k f fd ps F :=
  ⟨fun A outer s H args us vs Q E hr => h.run A outer s H args us vs Q E (hr.mono hj)⟩
theorem FOk.congr {k : Nat} {f : Addr} {fd : FuncData} {ps : List Str} {F F' : SemF} (h : FOk P w K mg base G k f fd ps F) (e : ∀ us st, us.length = ps.length → F' us st ≠ .bad → F us st = F' us st) : FOk P w K mg base G k f fd ps F' :=
  ⟨fun A outer s H args us vs Q E hr h0 hb hv ⟨B, ρ, us', st, el, S, r, q⟩ => h.run A outer s H args us vs Q E hr h0 hb hv ⟨B, ρ, us', st, el, S, r, by
    by_cases hbad : F' us' st = .bad
    · rw [hbad] at q; exact q.elim
    · rw [e us' st el hbad]; exact q⟩⟩
/-- a body, as a call has it: the names' number -/
def runF (n : Nat) (f : SemS) : SemF := fun us st => match f (us.map some ++ List.replicate (n - us.length) none) st with
  | .nx _ st => if stOwn st = false then .ok (.d .none) st else .bad
  | .rt u st => if hasOwn u = false ∧ stOwn st = false then .ok u st else .bad
  | .exn c u _ st => (match u with
    | some u => if hasOwn u = false ∧ stOwn st = false then .exn c (some u) st else .bad
    | none => if stOwn st = false then .exn c none st else .bad)
  | _ => .bad
theorem start_rel {X : Cx} {N : List Str} {B ρ : List Addr} {us : List U} {vs : List V} {st : Sto} {H : Hp} (S : RelS G B ρ noOwn st H) (r : RepUs G (vis B ρ H) ρ noOwn us vs) (oS : OwnS) :
    Rel oS G B ρ (us.map some ++ List.replicate (N.length - us.length) none) st (L2.start N vs) H := by
  refine ⟨S.own fun _ _ z => z.elim, by unfold L2.start; simp [r.length], fun i u hu => ?_⟩
  by_cases hi : i < us.length
  · rw [List.getElem?_append_left (by simpa using hi), List.getElem?_map] at hu
    cases e : us[i]? with
    | none => rw [e] at hu; cases hu
    | some u' =>
      rw [e] at hu
      cases hu
      obtain ⟨v, hv, rv⟩ := r.get e
      refine ⟨v, ?_, rv.le (Le.refl _) (fun _ _ z => z) fun _ _ z => z.elim⟩
      unfold L2.start
      have hi' : i < vs.length := by rw [← r.length]; exact hi
      rw [List.getElem?_append_left (by simpa using hi'), List.getElem?_map, hv]
      rfl
  · rw [List.getElem?_append_right (by simpa using hi), List.getElem?_replicate] at hu
    split at hu <;> cases hu
/-- THE RULE for a def: its body -/
theorem fok_of {x qual : Str} {st : Stmt} {f : Addr} {fd : FuncData} {N ps : List Str} {k : Nat} {fb : SemS} (F : Fun K x qual st f fd) (S : FnScope N ps (defScope st))
    (hbody : ∀ (cdv : Value) (A : Around) (outer : List Env) (s : Shared) (H : Hp) (E : XK), cdv = fd.code → Env0 P w K mg base A outer s H → RoomG k (A.deeper (envOfC qual (defScope st) s.heap.objs.size f cdv)) →
      ∀ X, X = cxOf (L2.CX P w) P w K mg base N qual (defScope st) f cdv A outer s H E → Takes X (fun cls d _ H => E cls d H) → PassesOwn (model X.prog X.w) X.A X.env X.xe →
      SL X (ownV X) G (fun cls d _ H => E cls d H) (defBody st) fb) : FOk P w K mg base G (k + 1) f fd ps (runF N.length fb) := by
  obtain ⟨oc, od, kV, doc, pm, an, cdv, ct, osl, rfl, lk, hcd⟩ := F.ex
  refine ⟨fun A outer s H args us vs Q E hr e0 hb r hsp => ?_⟩
  have hl := spF.len hsp
  have KX : K.In s.heap := e0.mod.kin.keeps fun b o e => (e0.bs b o e).1
  have lim : s.heap.NoLimit := e0.mod.nolimit.keeps fun b o e => (e0.bs b o e).1
  have hkind : ∀ y ∈ ps.zip us, (defScope st).names.lookup y.1 = some .local ∨ ((defScope st).names.lookup y.1 = some .cell ∧ ((cellsFrom (s.heap.objs.size + 1) (defScope st).names []).lookup y.1).isSome = true) := fun ⟨n, v⟩ hy => by
    rcases S.par n (List.of_mem_zip hy).1 with q | q
    · exact .inl q
    · exact .inr ⟨q, PySem.W.cellsFrom_some _ _ _ (.inl q)⟩
  refine codeAny_call_function hr.room.depth (KX _ _ lk) rfl S.co S.gen rfl (PySem.W.codeRec_of KX hcd) (hb _ _ _ _ ?_)
  refine wpAny_newFunctionEnv_cells S.kind hkind fun env he s1 x => ?_
  subst he
  refine ⟨lim.keeps x.toInCall.keep, codeAny_func ?_⟩
  have hb := hbody cdv A outer s H E rfl e0 (hr.deeper _) _ rfl (takes_of rfl rfl rfl rfl) (passes_of rfl)
  have I : Inv (cxOf (L2.CX P w) P w K mg base N qual (defScope st) f cdv A outer s H E) [] (L2.start N vs) H s1 := inv_start S hr.room.hd e0 hl r x
  obtain ⟨B, ρ, us', st', el, S0, rr, q⟩ := hsp
  have R := start_rel (X := cxOf (L2.CX P w) P w K mg base N qual (defScope st) f cdv A outer s H E) (N := N) S0 rr (ownV (cxOf (L2.CX P w) P w K mg base N qual (defScope st) f cdv A outer s H E))
  have body := (hb : PSs _ _ _).run [] s1 (L2.start N vs) H { nx := fun _ H' => Q .non H', rt := Q } I ⟨B, ρ, _, st', R, by
    unfold runF at q
    split at q
    · rename_i e2 st2 heq
      rw [heq]
      split at q
      · rename_i hno
        exact fun ρ' H' σ' s' R' => q ρ' H' .non s' (R'.sto.noOwn hno) (.d .none)
      · exact q.elim
    · rename_i u2 st2 heq
      rw [heq]
      split at q
      · rename_i hno
        exact fun ρ' H' σ' v s' R' rv => q ρ' H' v s' (R'.noOwn hno.2) (rv.noOwn hno.1)
      · exact q.elim
    · rename_i c2 u2 e2 st2 heq
      rw [heq]
      intro ρ' H' σ' C d s' R' hx
      split at q
      · split at q
        · rename_i hno
          obtain ⟨x1, dd, v, x2, x3, x4⟩ := hx
          exact q ρ' H' C d s' (R'.sto.noOwn hno.2) ⟨x1, dd, v, x2, x3, x4.noOwn hno.1⟩
        · exact q.elim
      · split at q
        · rename_i hno
          exact q ρ' H' C d s' (R'.sto.noOwn hno) hx
        · exact q.elim
    · exact q.elim⟩
  refine wpAny_mono body (fun fl s' hs => ?_) fun e s' hs => hs
  have fin : ∀ {σ' : L2.St} {H' : Hp} {v : V} {u : Value}, Inv (cxOf (L2.CX P w) P w K mg base N qual (defScope st) f cdv A outer s H E) [] σ' H' s' → RelV v u → Q v H' → CE outer P w H s Q u s' :=
    fun {σ' H' v u} J rv q => ⟨v, H', J.os, J.bare, J.base, J.hok, rv, q⟩
  cases fl with
  | ret u =>
    obtain ⟨v, σ', H', J, rv, q⟩ := hs
    exact fin J rv q
  | next =>
    obtain ⟨σ', H', J, q⟩ := hs
    exact fin (v := V.non) (u := Value.none) J rfl q
  | brk =>
    obtain ⟨_, _, _, q⟩ := hs
    exact False.elim q
  | cont =>
    obtain ⟨_, _, _, q⟩ := hs
    exact False.elim q
end
/-! ## calls -/
section
variable {X : Cx} {oS : OwnS} {G : Gd} {W : WX} {k : Nat} {f : Addr} {fd : FuncData} {ps : List Str} {F : SemF} {x : Str} {p pos : Pos} {e : Expr} {es : List Expr}
/-- a call: nothing of one's own is handed on -/
def mCall (F : SemF) (fs : SemA) : SemE := fun en st => (fs en st).bind fun us st => if hasOwnL us = false ∧ stOwn st = false then F us st else .bad
theorem run_f {pins : List (Addr × Obj)} {σ : L2.St} {H : Hp} {s : Shared} {Q : VK} {us : List Value} {vs : List V} {B ρ : List Addr} {en : Nv} {st : Sto} {uu : List U} (FF : FOk X.prog X.w X.K X.mg X.base G k f fd ps F) (hr : RoomG k X.A) (hb : Binds X.K fd ps []) (tk : Takes X W)
    (I : L2.Inv X pins σ H s) (r : Vals vs us) (R : Rel oS G B ρ en st σ H) (ru : RepUs G (vis B ρ H) ρ (oS σ) uu vs) (hl : uu.length = ps.length)
    (h : PostE oS G W B ρ en σ H (fun u ρ' H' _ => ∀ v, RepU G (vis B ρ' H') ρ' (oS σ) u v → Q v H') (if hasOwnL uu = false ∧ stOwn st = false then F uu st else .bad)) : wpAny (model X.prog X.w) X.A (call (.ref f) us) (EP X pins σ Q) X.xe s := by
  split at h
  case isFalse => exact h.elim
  rename_i hno
  have r2 : Vals vs (us ++ []) := by rw [List.append_nil]; exact r
  have hlen : (us ++ []).length = ps.length := by rw [← r2.length, ← ru.length, hl]
  have hsp : spF G ps.length F vs H Q (fun cls d H' => W cls d σ H') := by
    refine ⟨B, ρ, uu, st, hl, R.sto.noOwn hno.2, ru.noOwn hno.1, ?_⟩
    cases q : F uu st with
    | ok u st' =>
      rw [q] at h
      exact fun ρ' H' v s' S' rv => h ρ' H' s' (R.ofS s' (S'.own fun _ _ z => z.elim)) v (rv.le (Le.refl _) (fun _ _ z => z) fun _ _ z => z.elim)
    | exn c u st' =>
      rw [q] at h
      refine fun ρ' H' C d s' S' hx => h ρ' H' C d s' (S'.own fun _ _ z => z.elim) ⟨hx.1, ?_⟩
      cases u with
      | some u =>
        obtain ⟨_, dd, v, x2, x3, x4⟩ := hx
        exact ⟨dd, v, x2, x3, x4.le (Le.refl _) (fun _ _ z => z) fun _ _ z => z.elim⟩
      | none => exact hx.2
    | bad => rw [q] at h; exact h
  have bb := hb s us I.kIn hlen
  have run := FF.run X.A X.stack s H ⟨us, []⟩ (us ++ []) vs Q (fun cls d H' => W cls d σ H') hr I.env0 bb r2 hsp
  refine wpAny_call (codeAny_mono run fun r s' hq => ?_)
  cases r with
  | error e => exact tk e s' (XE.of_call I (fun cls d H' h => h) hq)
  | ok fl =>
    cases fl with
    | ret u => exact I.after hq
    | next => exact False.elim hq
    | brk => exact False.elim hq
    | cont => exact False.elim hq
theorem se_call {fs : SemA} (FF : FOk X.prog X.w X.K X.mg X.base G k f fd ps F) (hr : RoomG k X.A) (hg : Gl X x) (hm : X.mg x = some (.ref f)) (hk : PySem.W.keepIn X.K (.ref f) = true) (hb : Binds X.K fd ps []) (tk : Takes X W) (hl : (e :: es).length = ps.length)
    (ha : SA X oS G W (e :: es) fs) (hal : ∀ en st us st', fs en st = .ok us st' → us.length = (e :: es).length) (hdb : (x == ("__debug__" : Str)) = false := by decide) (he : starEach (e :: es) X.env = (false, eval e X.env) :: starEach es X.env := by rfl) (hpl : (backTo pos (starEach es X.env)).any (·.1) = false := by rfl) :
    SE X oS G W (.Call (.Name x p) (e :: es) [] pos) (mCall F fs) := by
  refine ⟨fun pins s σ H Q I h => ?_⟩
  refine wpAny_Call_Name_kw (ld_glob I hg hm ?_ hdb)
  obtain ⟨B, ρ, en, st, R, h⟩ := h
  have args := (ha : PA X _ _).run pos pins s σ H (fun vs H1 => ∃ ρ1 st1 us, Stp ρ H ρ1 H1 ∧ Rel oS G B ρ1 en st1 σ H1 ∧ RepUs G (vis B ρ1 H1) ρ1 (oS σ) us vs ∧ us.length = ps.length ∧
    PostE oS G W B ρ1 en σ H1 (fun u ρ' H' _ => ∀ v, RepU G (vis B ρ' H') ρ' (oS σ) u v → Q v H') (if hasOwnL us = false ∧ stOwn st1 = false then F us st1 else .bad)) I
    ⟨B, ρ, en, st, R, (PostE.bind h).mono fun us st1 ρ1 H1 eq s1 R1 h1 vs rvs => ⟨ρ1, st1, us, s1, R1, rvs, by rw [hal _ _ _ _ eq, hl], h1⟩⟩
  refine PySem.W.callWith_K (h₀ := X.base) I.ok.mod.kin hk (thn args fun us s1 ⟨vs, H1, I1, r, ρ1, st1, uu, _, R1, ru, hlu, h1⟩ => ⟨I1.kIn, ?_⟩) he hpl
  exact run_f FF hr hb tk I1 r R1 ru hlu h1
theorem mNil_len {en : Nv} {st : Sto} {us : List U} {st' : Sto} (h : mNil en st = .ok us st') : us.length = 0 := by cases h; rfl
theorem mCons_len {n : Nat} {fe : SemE} {fs : SemA} (hs : ∀ en st us st', fs en st = .ok us st' → us.length = n) : ∀ (en : Nv) (st : Sto) (us : List U) (st' : Sto), mCons fe fs en st = .ok us st' → us.length = n + 1 := by
  intro en st us st' h
  unfold mCons at h
  cases q : fe en st with
  | ok u s1 =>
    rw [q] at h
    simp only [Res.bind] at h
    cases q2 : fs en s1 with
    | ok us2 s2 =>
      rw [q2] at h
      simp only at h
      cases h
      rw [List.length_cons, hs _ _ _ _ q2]
    | exn c u s2 => rw [q2] at h; cases h
    | bad => rw [q2] at h; cases h
  | exn c u s1 => rw [q] at h; cases h
  | bad => rw [q] at h; cases h
end
end TT
set_option Elab.async false
set_option linter.all false
set_option maxRecDepth 100000
set_option maxHeartbeats 2000000
/-! functions that a def makes: lambdas, defs within a def -/
namespace TT
open PySem PySem.Spec PyProof.Rows L2 LamX NdefX
section
variable {X : Cx} {pins : List (Addr × Obj)} {σ : L2.St} {H : Hp} {s : Shared}
abbrev lamI (X : Cx) (params : Arguments) (body : Expr) (scope : Scope) (fr : List Str) : CodeI := ⟨"<lambda>", X.env.qual ++ "<lambda>", params, .expr body, scope, fr⟩
/-- what is known behind the making of a function -/
structure MadeF (X : Cx) (T : List NTab) (H : Hp) (ci : CodeI) (cl : List (Str × Addr)) (f : Addr) (H1 : Hp) : Prop where
  ext : ExtN H H1
  dom : ∀ b, H1 b = none → H b = none
  tabs : TabsN T H1
  new : H f = none
  fn : ∃ c, H1 f = some (CloO f ci cl c) ∧ H1 c = some (CodeO c ci.qual)
/-- a new function object is tracked -/
theorem track_fn {ci : CodeI} {cl : List (Str × Addr)} {c : Addr} {o : Obj} {t' : Nat} {doc pm ctv : Value} (I : L2.Inv X pins σ H s)
    (ho : o = { cls := .type "function", data := .func { name := ci.name, qualname := ci.qual, params := ci.params, body := ci.body, scope := ci.scope, globals := mainGlobals, closure := cl, defaults := .none, kwdefaults := .none, doc := doc, pyModule := pm, annotations := none, code := .ref c, closureTuple := ctv, builtins := builtinsNs } }) :
    L2.Inv X pins σ (upd H s.heap.objs.size (CloO s.heap.objs.size ci cl c)) { s with heap := s.heap.push o, toks := t' } := by
  have e : (s.heap.push o).get? s.heap.objs.size = some o := Heap.get?_push_size _ (by rw [ho]; rfl)
  refine I.laid (a := s.heap.objs.size) (fun b u q => Heap.get?_push_of_some _ q) (Nat.le_refl _) ?_
  rw [ho] at e ⊢
  exact ⟨⟨_, _, doc, pm, ctv, e⟩, ⟨_, e⟩, fun h1 h2 ⟨od, sl, d, p, t, z⟩ st => ⟨od, sl, d, p, t, st _ z⟩⟩
theorem made_hit {T : List NTab} {ci : CodeI} {cl : List (Str × Addr)} {f c : Addr} (hT : TabsN T H) (hc : H c = some (CodeO c ci.qual)) (nF : H f = none) : MadeF X T H ci cl f (upd H f (CloO f ci cl c)) := by
  have keep : ∀ b o, H b = some o → upd H f (CloO f ci cl c) b = some o := fun b o e => by
    rw [upd_ne (ne_of_none e nF)]; exact e
  exact ⟨ExtN.of keep, fun b e => upd_dom e, hT.ext keep, nF, c, upd_same, keep _ _ hc⟩
theorem made_new {T : List NTab} {nm : Nat → Nat → Str} {ci : CodeI} {cl : List (Str × Addr)} {P f c : Addr} {ps : Array Value} {pos : Pos} (hT : TabsN T H) (hP : H P = some (.tbl ps)) (ht : TriplesOk ps.toList) (hn : nm pos.line pos.col = ci.qual)
    (ha : ∀ (p : Pos) (cv : Value), codeAmong p ps.toList = some cv → ∃ c, cv = .ref c ∧ H c = some (CodeO c (nm p.line p.col))) (hu : ∀ p ∈ T, p.1 = P → p.2 = nm) (nC : H c = none) (nF : upd (upd H P (.tbl (ps ++ #[rawInt pos.line, rawInt pos.col, .ref c]))) c (CodeO c ci.qual) f = none) :
    MadeF X T H ci cl f (upd (upd (upd H P (.tbl (ps ++ #[rawInt pos.line, rawInt pos.col, .ref c]))) c (CodeO c ci.qual)) f (CloO f ci cl c)) := by
  have ext1 : ExtN H (upd (upd H P (.tbl (ps ++ #[rawInt pos.line, rawInt pos.col, .ref c]))) c (CodeO c ci.qual)) := fun b o e n => by
    have hbP : b ≠ P := fun z => n ps (by rw [z, hP] at e; exact (Option.some.inj e).symm)
    rw [upd_ne (ne_of_none e nC), upd_ne hbP]
    exact e
  have listEq : (ps ++ #[rawInt pos.line, rawInt pos.col, .ref c]).toList = ps.toList ++ [rawInt pos.line, rawInt pos.col, .ref c] := by simp
  have tabs1 : TabsN T (upd (upd H P (.tbl (ps ++ #[rawInt pos.line, rawInt pos.col, .ref c]))) c (CodeO c ci.qual)) := by
    intro p hp
    by_cases hb : p.1 = P
    · have e2 := hu p hp hb
      rw [e2, hb]
      refine ⟨ps ++ #[rawInt pos.line, rawInt pos.col, .ref c], (upd_ne (ne_of_none hP nC)).trans upd_same, ?_, fun q cv hq => ?_⟩
      · rw [listEq]; exact PySem.TriplesOk_snoc _ _ _ _ ht
      · rw [listEq] at hq
        rcases among_app2 _ ht hq with z | ⟨z, z1, z2⟩
        · obtain ⟨c0, e1, e3⟩ := ha q cv z
          exact ⟨c0, e1, ext1 _ _ e3 codeO_ne⟩
        · exact ⟨c, z, by rw [← z1, ← z2, hn]; exact upd_same⟩
    · obtain ⟨qs, a1, a2, a3⟩ := hT p hp
      refine ⟨qs, (upd_ne (ne_of_none a1 nC)).trans ((upd_ne hb).trans a1), a2, fun q cv hq => ?_⟩
      obtain ⟨c0, e1, e3⟩ := a3 q cv hq
      exact ⟨c0, e1, ext1 _ _ e3 codeO_ne⟩
  have keep : ∀ b o, upd (upd H P (.tbl (ps ++ #[rawInt pos.line, rawInt pos.col, .ref c]))) c (CodeO c ci.qual) b = some o → upd (upd (upd H P (.tbl (ps ++ #[rawInt pos.line, rawInt pos.col, .ref c]))) c (CodeO c ci.qual)) f (CloO f ci cl c) b = some o := fun b o e =>
    (upd_ne (ne_of_none e nF)).trans e
  exact ⟨ext1.trans (ExtN.of keep), fun b e => upd_dom (upd_dom (upd_dom e)), tabs1.ext keep, upd_dom (upd_dom nF), c, upd_same, keep _ _ upd_same⟩
/-- a lambda is made -/
theorem lam_make {T : List NTab} {nm : Nat → Nat → Str} {c P : Addr} {params : Arguments} {body : Expr} {scope : Scope} {pos : Pos} {fr : List Str} {E : Value → Shared → Prop} {Q : Value → Shared → Prop} (I : L2.Inv X pins σ H s) (TB : TabB X.base X.mg c P) (hcode : X.env.code = .ref c)
    (hm : (P, nm) ∈ T) (hn : nm pos.line pos.col = X.env.qual ++ "<lambda>") (hu : ∀ p ∈ T, p.1 = P → p.2 = nm) (hT : TabsN T H) (hdef : defaultsOf params X.env = ([], [])) (hfree : ∀ y ∈ scope.names, y.2 = .free → ∃ c, X.env.cells.lookup y.1 = some c)
    (h : ∀ (f : Addr) (H1 : Hp) (s' : Shared), L2.Inv X pins σ H1 s' → MadeF X T H (lamI X params body scope fr) (cloFrom X.env.cells scope.names []) f H1 → Q (.ref f) s') :
    wpAny (model X.prog X.w) X.A (eval (.Lambda params body scope pos) X.env) Q E s := by
  obtain ⟨ps, hP, ht, ha⟩ := (show TabN H P nm from hT _ hm)
  refine PySem.W.kla_eval hdef ?_
  have hB := TB.bm.keeps I.bk
  have hPo : s.heap.get? P = some { cls := .none, data := .fields ps } := I.hok P _ hP
  cases hc : codeAmong pos ps.toList with
  | none =>
    refine PySem.W.kla_makeFunction (mg := X.mg) (c := c) (P := P) (ps := ps) (closure_ok hfree) I.ok.glob (I.mod.glob.keeps I.bk) hcode (TB.code.keeps I.bk) hPo ht hc TB.gP hB fun c2 ctv h' tk hx hge hlt hrec htb => ?_
    obtain ⟨c3, oc, vs, t, e2, hoc, hd, hv⟩ := hrec
    cases e2
    have nC : H c2 = none := I.hok.fresh hge
    have I1 := inv_table (t' := tk) (more := #[rawInt pos.line, rawInt pos.col, .ref c2]) (h' := h') I hP (fun b o hb e => hx b o hb e) htb hge ⟨oc, vs, t, hoc, hd, hv⟩
    have nF := I1.hok.fresh (Nat.le_refl _)
    have I2 := track_fn (ci := lamI X params body scope fr) (cl := cloFrom X.env.cells scope.names []) (c := c2) (t' := tk) (doc := .none) (pm := (X.mg "__name__").getD .none) (ctv := ctv) I1 rfl
    exact h _ _ _ I2 (made_new (ci := lamI X params body scope fr) hT hP ht hn ha hu nC nF)
  | some cv =>
    obtain ⟨c2, e, hco⟩ := ha pos cv hc
    subst e
    rw [hn] at hco
    refine PySem.W.kla_makeFunctionHit (mg := X.mg) (c := c) (P := P) (ps := ps) (closure_ok hfree) I.ok.glob (I.mod.glob.keeps I.bk) hcode (TB.code.keeps I.bk) hPo ht hc hB fun ctv h' tk hx hsz => ?_
    have I1 : L2.Inv X pins σ H { s with heap := h', toks := tk } := I.kept hx
    have nF : H h'.objs.size = none := I1.hok.fresh (Nat.le_refl _)
    have I2 := track_fn (ci := lamI X params body scope fr) (cl := cloFrom X.env.cells scope.names []) (c := c2) (t' := tk) (doc := .none) (pm := (X.mg "__name__").getD .none) (ctv := ctv) I1 rfl
    exact h _ _ _ I2 (made_hit (ci := lamI X params body scope fr) hT hco nF)
end
end TT
set_option Elab.async false
set_option linter.all false
set_option maxRecDepth 100000
set_option maxHeartbeats 2000000
/-! made functions: what the heap keeps of their cells -/
namespace TT
open PySem PySem.Spec PyProof.Rows L2 LamX NdefX

mutual
def hasClo : U → Bool
  | .clo _ _ _ => true
  | .tup l => hasCloL l
  | _ => false
def hasCloL : List U → Bool
  | [] => false
  | u :: r => hasClo u || hasCloL r
end
def cellClo : Cell → Bool
  | .lst l => hasCloL l
  | .dct l => l.any fun p => hasClo p.2
def stClo (st : Sto) : Bool := st.any cellClo
mutual
theorem hasOwn_clo : ∀ {u : U}, hasClo u = false → hasOwn u = false
  | .d _, _ => rfl
  | .ref _, _ => rfl
  | .fn _, _ => rfl
  | .clo _ _ _, h => by simp [hasClo] at h
  | .tup l, h => by
    simp only [hasClo] at h
    simp only [hasOwn]
    exact hasOwnL_clo h
theorem hasOwnL_clo : ∀ {u : List U}, hasCloL u = false → hasOwnL u = false
  | [], _ => rfl
  | u :: r, h => by
    simp only [hasCloL, Bool.or_eq_false_iff] at h
    simp only [hasOwnL, Bool.or_eq_false_iff]
    exact ⟨hasOwn_clo h.1, hasOwnL_clo h.2⟩
end
theorem cellOwn_clo {c : Cell} (h : cellClo c = false) : cellOwn c = false := by
  cases c with
  | lst l => exact hasOwnL_clo h
  | dct l =>
    simp only [cellClo, List.any_eq_false, Bool.not_eq_true] at h
    simp only [cellOwn, List.any_eq_false, Bool.not_eq_true]
    exact fun p hp => hasOwn_clo (h p hp)
theorem stOwn_clo {st : Sto} (h : stClo st = false) : stOwn st = false := by
  unfold stClo at h
  unfold stOwn
  rw [List.any_eq_false] at h ⊢
  exact fun c hc => by
    have := h c hc
    rw [Bool.not_eq_true] at this ⊢
    exact cellOwn_clo this

/-! ## data only -/
def LeD (H H' : Hp) : Prop := ∀ b o, H b = some o → dat o → H' b = some o
theorem SqT.leD {K : PySem.W.Frag} {H H' : Hp} {a : Addr} {xs : List V} (e : LeD H H') (h : SqT K H a xs) : SqT K H' a xs := by
  rcases h with (h | ⟨o, h⟩) | h
  · exact .inl (.inl (e _ _ h dat_tup))
  · exact .inl (.inr ⟨o, e _ _ h dat_frz⟩)
  · exact .inr h
theorem Rd.leD {H H' : Hp} {a : Addr} {u : HO} (e : LeD H H') (n : dat u) (h : Rd H a u) : Rd H' a u := by
  rcases h with h | ⟨o, h⟩
  · exact .inl (e _ _ h n)
  · exact .inr ⟨o, e _ _ h dat_frz⟩
mutual
theorem RepD.leD {K : PySem.W.Frag} {H H' : Hp} (e : LeD H H') : ∀ {d : D} {v : V}, RepD K H d v → RepD K H' d v
  | _, _, .none => .none
  | _, _, .bool b => .bool b
  | _, _, .int i => .int i
  | _, _, .str x => .str x
  | _, _, .tuple s z r => .tuple (SqT.leD e s) z (RepDs.leD e r)
  | _, _, .list s z r => .list (Rd.leD e dat_lst s) z (RepDs.leD e r)
  | _, _, .dK s r => .dK (Rd.leD e dat_dK s) (RepK.leD e r)
  | _, _, .dT s r => .dT (Rd.leD e dat_dT s) (RepT.leD e r)
theorem RepDs.leD {K : PySem.W.Frag} {H H' : Hp} (e : LeD H H') : ∀ {d : List D} {v : List V}, RepDs K H d v → RepDs K H' d v
  | _, _, .nil => .nil
  | _, _, .cons a b => .cons (RepD.leD e a) (RepDs.leD e b)
theorem RepK.leD {K : PySem.W.Frag} {H H' : Hp} (e : LeD H H') : ∀ {d : List (D × D)} {v : List (Key × V)}, RepK K H d v → RepK K H' d v
  | _, _, .nil => .nil
  | _, _, .cons k a b => .cons k (RepD.leD e a) (RepK.leD e b)
theorem RepT.leD {K : PySem.W.Frag} {H H' : Hp} (e : LeD H H') : ∀ {d : List (D × D)} {v : List (List Key × V)}, RepT K H d v → RepT K H' d v
  | _, _, .nil => .nil
  | _, _, .cons k a b => .cons k (RepD.leD e a) (RepT.leD e b)
end
section
variable {G : Gd}
mutual
theorem RepU.leD {H H' : Hp} {ρ : List Addr} {own own' : OwnV} (e : LeD H H') : ∀ {u : U} {v : V}, RepU G H ρ own u v → hasClo u = false → RepU G H' ρ own' u v
  | _, _, .d r, _ => .d (r.leD e)
  | _, _, .ref h, _ => .ref h
  | _, _, .fn h, _ => .fn h
  | _, _, .tup s z r, h => .tup (SqT.leD e s) z (RepUs.leD e r (by simpa only [hasClo] using h))
  | _, _, .cloO k h h' co q r, z => by simp [hasClo] at z
  | _, _, .cloH k h h' co q r, z => by simp [hasClo] at z
theorem RepUs.leD {H H' : Hp} {ρ : List Addr} {own own' : OwnV} (e : LeD H H') : ∀ {u : List U} {v : List V}, RepUs G H ρ own u v → hasCloL u = false → RepUs G H' ρ own' u v
  | _, _, .nil, _ => .nil
  | _, _, .cons a b, h => by
    simp only [hasCloL, Bool.or_eq_false_iff] at h
    exact .cons (RepU.leD e a h.1) (RepUs.leD e b h.2)
end
theorem Paired.mapM {α β : Type} {F G : α → β → Prop} : ∀ {l₁ : List α} {l₂ : List β}, Paired F l₁ l₂ → (∀ a b, a ∈ l₁ → F a b → G a b) → Paired G l₁ l₂
  | _, _, .nil, _ => .nil
  | _, _, .cons r t, f => .cons (f _ _ (List.mem_cons_self ..) r) (Paired.mapM t fun a b m => f a b (List.mem_cons_of_mem _ m))
theorem RepC.leD {H H' : Hp} {ρ : List Addr} {own own' : OwnV} (e : LeD H H') {c : Cell} {o : HO} (r : RepC G H ρ own c o) (h : cellClo c = false) : RepC G H' ρ own' c o := by
  cases r with
  | lst z r => exact .lst z (r.leD e h)
  | dK r =>
    simp only [cellClo, List.any_eq_false, Bool.not_eq_true] at h
    exact .dK (Paired.mapM r fun p _ m z => ⟨z.1, z.2.leD e (h p m)⟩)
  | dT r =>
    simp only [cellClo, List.any_eq_false, Bool.not_eq_true] at h
    exact .dT (Paired.mapM r fun p _ m z => ⟨z.1, z.2.leD e (h p m)⟩)
theorem RepC.datO {H : Hp} {ρ : List Addr} {own : OwnV} {c : Cell} {o : HO} (r : RepC G H ρ own c o) : dat o := by
  cases r with
  | lst z r => exact dat_lst
  | dK r => exact dat_dK
  | dT r => exact dat_dT

/-! ## heaps that are told more, or less -/
def mns (cs : List Addr) (H : Hp) : Hp := fun b => if b ∈ cs then none else H b
def back (cs : List Addr) (H H' : Hp) : Hp := fun b => if b ∈ cs then H b else H' b
def pls (cs : List Addr) (h : Heap) (H : Hp) : Hp := fun b => if b ∈ cs then (h.get? b).map (CellO b) else H b
theorem mns_in {cs : List Addr} {H : Hp} {b : Addr} (h : b ∈ cs) : mns cs H b = none := by unfold mns; rw [if_pos h]
theorem mns_out {cs : List Addr} {H : Hp} {b : Addr} (h : b ∉ cs) : mns cs H b = H b := by unfold mns; rw [if_neg h]
theorem back_in {cs : List Addr} {H H' : Hp} {b : Addr} (h : b ∈ cs) : back cs H H' b = H b := by unfold back; rw [if_pos h]
theorem back_out {cs : List Addr} {H H' : Hp} {b : Addr} (h : b ∉ cs) : back cs H H' b = H' b := by unfold back; rw [if_neg h]
theorem pls_in {cs : List Addr} {h : Heap} {H : Hp} {b : Addr} (z : b ∈ cs) : pls cs h H b = (h.get? b).map (CellO b) := by unfold pls; rw [if_pos z]
theorem pls_out {cs : List Addr} {h : Heap} {H : Hp} {b : Addr} (z : b ∉ cs) : pls cs h H b = H b := by unfold pls; rw [if_neg z]
/-- the heap tells of each of cs that it is a cell -/
def Trk (cs : List Addr) (H : Hp) (h : Heap) : Prop := ∀ c ∈ cs, ∃ o v, H c = some (CellO c o) ∧ h.get? c = some o ∧ o.data = .cell v
theorem cell_code {h : Heap} {c : Addr} {o : Obj} {v : Option Value} {q : Str} (e : h.get? c = some o) (d : o.data = .cell v) : CellO c o ≠ CodeO c q := fun z => by
  unfold CellO CodeO at z
  have z2 := congrFun (HO.ext.inj z) h
  have z3 : h.get? c = some o := e
  rw [z2] at z3
  obtain ⟨oc, vs, t, h1, h2, h3⟩ := z3
  rw [e] at h1
  cases h1
  rw [d] at h2
  cases h2
theorem cell_dat {c : Addr} {o : Obj} : ¬ dat (CellO c o) := fun z => z.2 _ rfl
theorem Trk.leD {cs : List Addr} {H : Hp} {h : Heap} (t : Trk cs H h) : LeD H (mns cs H) := fun b o e d => by
  by_cases hb : b ∈ cs
  · obtain ⟨o', v, e1, _, _⟩ := t b hb
    rw [e1] at e
    cases e
    exact (cell_dat d).elim
  · rw [mns_out hb]; exact e
theorem vis_leD {B ρ : List Addr} {H H' : Hp} (e : LeD H H') : LeD (vis B ρ H) (vis B ρ H') := fun b o h d => by
  obtain ⟨h1, h2, h3⟩ := vis_some h
  exact vis_of h1 h2 (e b o h3 d)
theorem TabsN.mns {T : List NTab} {cs : List Addr} {H : Hp} {h : Heap} (x : TabsN T H) (t : Trk cs H h) : TabsN T (mns cs H) := fun p hp => by
  obtain ⟨ps, h1, h2, h3⟩ := x p hp
  refine ⟨ps, ?_, h2, fun pos cv hc => ?_⟩
  · rw [mns_out]
    · exact h1
    · intro z
      obtain ⟨o, v, e, _, _⟩ := t _ z
      rw [h1] at e
      cases e
  · obtain ⟨c, e1, e2⟩ := h3 pos cv hc
    refine ⟨c, e1, ?_⟩
    rw [mns_out]
    · exact e2
    · intro z
      obtain ⟨o, v, e, e3, e4⟩ := t _ z
      rw [e2] at e
      exact cell_code e3 e4 (Option.some.inj e).symm
theorem RelS.mns {B ρ : List Addr} {own own' : OwnV} {st : Sto} {cs : List Addr} {H : Hp} {h : Heap} (r : RelS G B ρ own st H) (t : Trk cs H h) (hc : stClo st = false) (hB : ∀ c ∈ cs, c ∉ B) : RelS G B ρ own' st (mns cs H) := by
  refine ⟨r.len, r.nd, fun n c hn => ?_, fun b hb => ?_, TT.TabsN.mns r.tabs t⟩
  · obtain ⟨a, o, h1, h2, h3⟩ := r.cell n c hn
    have hcc : cellClo c = false := by
      unfold stClo at hc
      rw [List.any_eq_false] at hc
      simpa using hc c (List.mem_of_getElem? hn)
    exact ⟨a, o, h1, t.leD _ _ h2 h3.datO, h3.leD (vis_leD t.leD) hcc⟩
  · obtain ⟨h1, o, h2, h3⟩ := r.hid b hb
    exact ⟨h1, o, by rw [mns_out (fun z => hB b z hb)]; exact h2, h3⟩
theorem RelS.sup {B ρ : List Addr} {own : OwnV} {st : Sto} {H H' : Hp} (r : RelS G B ρ own st H) (e : ∀ b o, H b = some o → H' b = some o) : RelS G B ρ own st H' :=
  ⟨r.len, r.nd, fun n c hn => by
    obtain ⟨a, o, h1, h2, h3⟩ := r.cell n c hn
    refine ⟨a, o, h1, e _ _ h2, h3.le (fun b o' h _ => ?_) (fun _ _ z => z) fun _ _ z => z⟩
    obtain ⟨z1, z2, z3⟩ := vis_some h
    exact vis_of z1 z2 (e _ _ z3), fun b hb => by
    obtain ⟨h1, o, h2, h3⟩ := r.hid b hb
    exact ⟨h1, o, e _ _ h2, h3⟩, r.tabs.ext e⟩
theorem vis_sup {B ρ : List Addr} {H H' : Hp} (e : ∀ b o, H b = some o → H' b = some o) : Le (vis B ρ H) (vis B ρ H') := fun b o h _ => by
  obtain ⟨z1, z2, z3⟩ := vis_some h
  exact vis_of z1 z2 (e _ _ z3)
section
variable {P : Program} {w : World} {K : PySem.W.Frag} {mg : Str → Option Value} {base : Heap} {A : Around} {outer : List Env} {s s' : Shared} {H H' : Hp} {cs fs : List Addr} {h h' B' : Heap}
theorem hok_mns (k : HOk P w H h) (t : ∀ c ∈ cs, ∃ φ, H c = some (.ext φ)) : HOk P w (mns cs H) h := fun b o e => by
  have hb : b ∉ cs := fun z => by rw [mns_in z] at e; cases e
  rw [mns_out hb] at e
  refine (k b o e).stay (fun _ _ _ q => q) (fun d q => ?_) fun d xs q => ?_
  · rw [mns_out]
    · exact q
    · intro z
      obtain ⟨φ, e1⟩ := t d z
      rw [q] at e1
      cases e1
  · rw [mns_out]
    · exact q
    · intro z
      obtain ⟨φ, e1⟩ := t d z
      rw [q] at e1
      cases e1
theorem Trk.ext (t : Trk cs H h) : ∀ c ∈ cs, ∃ φ, H c = some (.ext φ) := fun c hc => by
  obtain ⟨o, v, e, _, _⟩ := t c hc
  exact ⟨_, e⟩
theorem env0_mns (e0 : Env0 P w K mg base A outer s H) (t : Trk cs H s.heap) : Env0 P w K mg base A outer s (mns cs H) := by
  refine ⟨e0.frames, e0.mod, fun b o e => ⟨(e0.bs b o e).1, ?_⟩, e0.bsz, e0.funs, fun b hb => ?_, hok_mns e0.hok t.ext, e0.bare⟩
  · unfold mns; split
    · rfl
    · exact (e0.bs b o e).2
  · unfold mns; split
    · rfl
    · exact e0.frf b hb
theorem Trk.ne (t : Trk cs H h) {b : Addr} (n : H b = none) : b ∉ cs := fun z => by
  obtain ⟨o, v, e, _, _⟩ := t b z
  rw [n] at e
  cases e
theorem Trk.neO (t : Trk cs H h) {b : Addr} {o : HO} (n : H b = some o) (d : ∀ φ, o ≠ .ext φ) : b ∉ cs := fun z => by
  obtain ⟨o', v, e, _, _⟩ := t b z
  rw [n] at e
  cases e
  exact d _ rfl
theorem un_back (t : Trk cs H h) (u : Un fs [] (mns cs H) H' h h') : Un fs [] H (back cs H H') h h' where
  keep := fun b o e n hf hx => u.keep b o e (by rw [mns_out (t.ne n)]; exact n) hf hx
  slot := fun b o e n hf hx => u.slot b o e (by rw [mns_out (t.ne n)]; exact n) hf hx
  free := fun b o e n hx => by
    rw [back_out (t.ne n)]
    exact u.free b o e (by rw [mns_out (t.ne n)]; exact n) hx
  there := u.there
  tups := fun b xs e => by
    have z := t.neO e fun _ z => nomatch z
    rw [back_out z]
    exact u.tups b xs (by rw [mns_out z]; exact e)
  frzs := fun b o x e => by
    have z := t.neO e fun _ z => nomatch z
    rw [back_out z]
    exact u.frzs b o x (by rw [mns_out z]; exact e)
  tbls := fun b ps e => by
    have z := t.neO e fun _ z => nomatch z
    obtain ⟨more, q⟩ := u.tbls b ps (by rw [mns_out z]; exact e)
    exact ⟨more, by rw [back_out z]; exact q⟩
theorem ub_back (t : Trk cs H h) (u : UB fs (mns cs H) H' h B' h') : UB fs H (back cs H H') h B' h' where
  keep := fun b o e n hf => u.keep b o e (by rw [mns_out (t.ne n)]; exact n) hf
  slot := u.slot
  free := fun b o e n => by
    rw [back_out (t.ne n)]
    exact u.free b o e (by rw [mns_out (t.ne n)]; exact n)
  there := u.there
  tups := fun b xs e => by
    have z := t.neO e fun _ z => nomatch z
    rw [back_out z]
    exact u.tups b xs (by rw [mns_out z]; exact e)
  frzs := fun b o x e => by
    have z := t.neO e fun _ z => nomatch z
    rw [back_out z]
    exact u.frzs b o x (by rw [mns_out z]; exact e)
  tbls := fun b ps e => by
    have z := t.neO e fun _ z => nomatch z
    obtain ⟨more, q⟩ := u.tbls b ps (by rw [mns_out z]; exact e)
    exact ⟨more, by rw [back_out z]; exact q⟩
theorem back_sup (n : ∀ c ∈ cs, H' c = none) : ∀ b o, H' b = some o → back cs H H' b = some o := fun b o e => by
  rw [back_out]
  · exact e
  · intro z
    rw [n b z] at e
    cases e
theorem hok_back (k : HOk P w H' h') (n : ∀ c ∈ cs, H' c = none) (t : ∀ c ∈ cs, ∃ o, H c = some (CellO c o) ∧ h'.get? c = some o) : HOk P w (back cs H H') h' := fun b o e => by
  by_cases hb : b ∈ cs
  · obtain ⟨ob, e1, e2⟩ := t b hb
    rw [back_in hb, e1] at e
    cases e
    exact ⟨e2, ⟨ob, e2⟩, fun h1 h2 x st => st _ x⟩
  · rw [back_out hb] at e
    exact (k b o e).stay (fun _ _ _ q => q) (fun d q => back_sup n d _ q) fun d xs q => back_sup n d _ q
theorem stp_back {ρ ρ' : List Addr} (t : Trk cs H h) (s : Stp ρ (mns cs H) ρ' H') (n : ∀ c ∈ cs, H' c = none) (hρ : ∀ b ∈ ρ', H' b ≠ none) : Stp ρ H ρ' (back cs H H') where
  keep := fun b o e nb no => by
    by_cases hb : b ∈ cs
    · rw [back_in hb]; exact e
    · rw [back_out hb]; exact s.keep b o (by rw [mns_out hb]; exact e) nb no
  dom := fun b e => by
    by_cases hb : b ∈ cs
    · rw [back_in hb] at e; exact e
    · rw [back_out hb] at e
      have := s.dom b e
      rw [mns_out hb] at this
      exact this
  pre := s.pre
  new := fun b hb => by
    rcases s.new b hb with z | z
    · exact .inl z
    · have hb2 : b ∉ cs := fun zz => hρ b hb (n b zz)
      rw [mns_out hb2] at z
      exact .inr z
/-- what is owed behind the body, which knows less -/
theorem postF_back {B ρ : List Addr} {Q : VK} {E : XK} {r : Res U} (t : Trk cs H h) (p : PostF G B ρ H Q E r) :
    PostF G B ρ (mns cs H) (fun v H' => (∀ c ∈ cs, H' c = none) → Q v (back cs H H')) (fun c d H' => (∀ c ∈ cs, H' c = none) → E c d (back cs H H')) r := by
  cases r with
  | ok u st' =>
    intro ρ' H' v s S rv n
    exact p ρ' _ v (stp_back t s n fun b hb => by
      obtain ⟨o, e, _⟩ := S.mem hb
      rw [e]; exact fun z => nomatch z) (S.sup (back_sup n)) (rv.le (vis_sup (back_sup n)) (fun _ _ z => z) fun _ _ z => z)
  | exn c u st' =>
    intro ρ' H' C d s S hx n
    refine p ρ' _ C d (stp_back t s n fun b hb => by
      obtain ⟨o, e, _⟩ := S.mem hb
      rw [e]; exact fun z => nomatch z) (S.sup (back_sup n)) ⟨hx.1, ?_⟩
    cases u with
    | some u =>
      obtain ⟨_, dd, v, x2, x3, x4⟩ := hx
      exact ⟨dd, v, x2, back_sup n _ _ x3, x4.le (vis_sup (back_sup n)) (fun _ _ z => z) fun _ _ z => z⟩
    | none => exact hx.2
  | bad => exact p
theorem cr_back {r : Result} {Q : VK} {E : XK} (t : Trk cs H s.heap) (hf : ∀ c ∈ cs, c ∉ frs outer)
    (x : CR (L2.CX P w) outer P w (mns cs H) s (fun v H' => (∀ c ∈ cs, H' c = none) → Q v (back cs H H')) (fun c d H' => (∀ c ∈ cs, H' c = none) → E c d (back cs H H')) r s') :
    CR (L2.CX P w) outer P w H s Q E r s' := by
  cases r with
  | ok fl =>
    cases fl with
    | ret u =>
      obtain ⟨v, H', os, ag, un, hok, rv, q⟩ := x
      have n : ∀ c ∈ cs, H' c = none := fun c hc => by
        obtain ⟨o, _, _, e, _⟩ := t c hc
        exact un.free c o e (mns_in hc) (by simp)
      refine ⟨v, back cs H H', os, ag, un_back t un, hok_back hok n fun c hc => ?_, rv, q n⟩
      obtain ⟨o, _, e1, e, _⟩ := t c hc
      exact ⟨o, e1, un.keep c o e (mns_in hc) (hf c hc) (by simp)⟩
    | next => exact False.elim x
    | brk => exact False.elim x
    | cont => exact False.elim x
  | error e =>
    obtain ⟨a, B, H', cls, d, e1, fl, hok, ub, na, os, ag, hE⟩ := (show L2.CX P w outer (mns cs H) s _ e s' from x)
    have n : ∀ c ∈ cs, H' c = none := fun c hc => by
      obtain ⟨o, _, _, e, _⟩ := t c hc
      exact ub.free c o e (mns_in hc)
    have k : ∀ c ∈ cs, ∃ o, H c = some (CellO c o) ∧ B.get? c = some o := fun c hc => by
      obtain ⟨o, _, e1, e, _⟩ := t c hc
      exact ⟨o, e1, ub.keep c o e (mns_in hc) (hf c hc)⟩
    refine (show L2.CX P w outer H s E e s' from ⟨a, B, back cs H H', cls, d, e1, fl, hok_back hok n k, ub_back t ub, ?_, os, ag, hE n⟩)
    rw [back_out]
    · exact na
    · intro z
      obtain ⟨o, _, e⟩ := k a z
      rw [fl.2.1] at e
      cases e
end
end
end TT
set_option Elab.async false
set_option linter.all false
set_option maxRecDepth 100000
set_option maxHeartbeats 2000000
/-! calls of made functions; calls that hand them on -/
namespace TT
open PySem PySem.Spec PyProof.Rows L2 LamX NdefX

/-- a frame's cells are new: neither the base's nor frames -/
structure CellsNew (X : Cx) : Prop where
  base : ∀ y c, X.env.cells.lookup y = some c → X.base.get? c = none
  frs : ∀ y c, X.env.cells.lookup y = some c → c ∉ frs X.stack
  kin : ∀ y c, X.env.cells.lookup y = some c → X.env.scope.names.lookup y = some .cell ∨ X.env.scope.names.lookup y = some .free
theorem cellsFrom_in {y : Str} {c : Addr} : ∀ {names : List (Str × NameKind)} {n : Nat} {acc : List (Str × Addr)}, (y, c) ∈ cellsFrom n names acc → (y, c) ∈ acc ∨ ((y, NameKind.cell) ∈ names ∧ n ≤ c)
  | [], _, _, h => .inl h
  | (x, k) :: r, n, acc, h => by
    unfold cellsFrom at h
    split at h
    · rename_i hk
      rcases cellsFrom_in h with z | ⟨z1, z2⟩
      · rcases List.mem_cons.mp z with e | z
        · cases e
          have hk2 : k = .cell := by simpa using hk
          exact .inr ⟨by rw [hk2]; exact List.mem_cons_self .., Nat.le_refl _⟩
        · exact .inl z
      · exact .inr ⟨List.mem_cons_of_mem _ z1, by omega⟩
    · rcases cellsFrom_in h with z | ⟨z1, z2⟩
      · exact .inl z
      · exact .inr ⟨List.mem_cons_of_mem _ z1, z2⟩
def cellNamesB (sc : Scope) : Bool := sc.names.all fun y => !decide (y.2 = .cell) || decide (sc.names.lookup y.1 = some .cell)
theorem frs_lt {P : Program} {w : World} {K : PySem.W.Frag} {mg : Str → Option Value} {base : Heap} {A : Around} {outer : List Env} {s : Shared} {H : Hp} (e0 : Env0 P w K mg base A outer s H) {b : Addr} (hb : b ∈ frs outer) : b < s.heap.objs.size := by
  obtain ⟨_, o, e, _⟩ := e0.funs.mem hb
  exact Heap.lt_size e
theorem base_lt {P : Program} {w : World} {K : PySem.W.Frag} {mg : Str → Option Value} {base : Heap} {A : Around} {outer : List Env} {s : Shared} {H : Hp} (e0 : Env0 P w K mg base A outer s H) {b : Addr} {o : Obj} (hb : base.get? b = some o) : b < s.heap.objs.size := Heap.lt_size (e0.bs b o hb).1
theorem cellsNew_def {CX : CXT} {P : Program} {w : World} {K : PySem.W.Frag} {mg : Str → Option Value} {base : Heap} {N : List Str} {qual : Str} {sc : Scope} {f : Addr} {cdv : Value} {A : Around} {outer : List Env} {s : Shared} {H : Hp} {E : XK} (e0 : Env0 P w K mg base A outer s H) (hc : cellNamesB sc = true) :
    CellsNew (cxOf CX P w K mg base N qual sc f cdv A outer s H E) := by
  have at_ : ∀ y c, (cellsFrom (s.heap.objs.size + 1) sc.names []).lookup y = some c → (y, NameKind.cell) ∈ sc.names ∧ s.heap.objs.size + 1 ≤ c := fun y c h => by
    rcases cellsFrom_in (PySem.mem_of_lookup h) with z | z
    · cases z
    · exact z
  refine ⟨fun y c h => ?_, fun y c h hf => ?_, fun y c h => ?_⟩
  · cases q : base.get? c with
    | none => exact q
    | some o =>
      have h1 := base_lt e0 q
      have h2 := (at_ y c h).2
      exact (Nat.lt_irrefl c (Nat.lt_of_lt_of_le h1 (Nat.le_of_succ_le h2))).elim
  · have h2 := (at_ y c h).2
    have hf : c ∈ frs (envOfC qual sc s.heap.objs.size f cdv :: outer) := hf
    rcases List.mem_cons.mp (show c ∈ s.heap.objs.size :: frs outer from hf) with e | e
    · rw [e] at h2
      exact Nat.lt_irrefl _ h2
    · have h1 := frs_lt e0 e
      exact Nat.lt_irrefl c (Nat.lt_of_lt_of_le h1 (Nat.le_of_succ_le h2))
  · have h1 := (at_ y c h).1
    unfold cellNamesB at hc
    rw [List.all_eq_true] at hc
    have := hc _ h1
    simp only [Bool.or_eq_true, Bool.not_eq_true', decide_eq_false_iff_not, decide_eq_true_eq] at this
    exact .inl (this.resolve_left fun z => z trivial)

/-! ## a body's end -/
def finS : RS → Res U
  | .nx _ st => if stOwn st = false then .ok (.d .none) st else .bad
  | .rt u st => if hasOwn u = false ∧ stOwn st = false then .ok u st else .bad
  | .exn c u _ st => (match u with
    | some u => if hasOwn u = false ∧ stOwn st = false then .exn c (some u) st else .bad
    | none => if stOwn st = false then .exn c none st else .bad)
  | _ => .bad
section
variable {G : Gd}
theorem fin_post {oS : OwnS} {B ρ : List Addr} {H : Hp} {Q : VK} {E : XK} {r : RS} (q : PostF G B ρ H Q E (finS r)) : PostS oS G (fun cls d _ H => E cls d H) B ρ H { nx := fun _ H' => Q .non H', rt := Q } r := by
  unfold finS at q
  cases r with
  | nx e2 st2 =>
    dsimp only at q
    split at q
    · rename_i hno
      exact fun ρ' H' σ' s' R' => q ρ' H' .non s' (R'.sto.noOwn hno) (.d .none)
    · exact q.elim
  | rt u2 st2 =>
    dsimp only at q
    split at q
    · rename_i hno
      exact fun ρ' H' σ' v s' R' rv => q ρ' H' v s' (R'.noOwn hno.2) (rv.noOwn hno.1)
    · exact q.elim
  | exn c2 u2 e2 st2 =>
    dsimp only at q
    intro ρ' H' σ' C d s' R' hx
    split at q
    · split at q
      · rename_i hno
        obtain ⟨x1, dd, v, x2, x3, x4⟩ := hx
        exact q ρ' H' C d s' (R'.sto.noOwn hno.2) ⟨x1, dd, v, x2, x3, x4.noOwn hno.1⟩
      · exact q.elim
    · split at q
      · rename_i hno
        exact q ρ' H' C d s' (R'.sto.noOwn hno) hx
      · exact q.elim
  | bk e s => exact q.elim
  | ct e s => exact q.elim
  | bad => exact q.elim
theorem fin_postE {oS : OwnS} {B ρ : List Addr} {en : Nv} {σ : L2.St} {H : Hp} {Q : VK} {E : XK} {r : Res U} (q : PostF G B ρ H Q E (match r with
    | .ok u st => if hasOwn u = false ∧ stOwn st = false then .ok u st else .bad
    | .exn c u st => (match u with
      | some u => if hasOwn u = false ∧ stOwn st = false then .exn c (some u) st else .bad
      | none => if stOwn st = false then .exn c none st else .bad)
    | .bad => .bad)) : PostE oS G (fun cls d _ H => E cls d H) B ρ en σ H (fun u ρ' H' _ => ∀ v, RepU G (vis B ρ' H') ρ' (oS σ) u v → Q v H') r := by
  cases r with
  | ok u2 st2 =>
    dsimp only at q
    split at q
    · rename_i hno
      exact fun ρ' H' s' R' v rv => q ρ' H' v s' (R'.sto.noOwn hno.2) (rv.noOwn hno.1)
    · exact q.elim
  | exn c2 u2 st2 =>
    dsimp only at q
    intro ρ' H' C d s' R' hx
    split at q
    · split at q
      · rename_i hno
        obtain ⟨x1, dd, v, x2, x3, x4⟩ := hx
        exact q ρ' H' C d s' (R'.noOwn hno.2) ⟨x1, dd, v, x2, x3, x4.noOwn hno.1⟩
      · exact q.elim
    · split at q
      · rename_i hno
        exact q ρ' H' C d s' (R'.noOwn hno) hx
      · exact q.elim
  | bad => exact q.elim
end
def finE : Res U → Res U
  | .ok u st => if hasOwn u = false ∧ stOwn st = false then .ok u st else .bad
  | .exn c u st => (match u with
    | some u => if hasOwn u = false ∧ stOwn st = false then .exn c (some u) st else .bad
    | none => if stOwn st = false then .exn c none st else .bad)
  | .bad => .bad
/-! ## code -/
abbrev CapR (cl : List (Str × Addr)) (H : Hp) : Str → V → Prop := fun y v => ∃ c o u, cl.lookup y = some c ∧ H c = some (CellO c o) ∧ o.data = .cell (some u) ∧ RelV v u
structure COk (P : Program) (w : World) (K : PySem.W.Frag) (mg : Str → Option Value) (base : Heap) (G : Gd) (k kc n : Nat) (Fc : List U → SemF) : Prop where
  run : ∀ (A : Around) (outer : List Env) (s : Shared) (H : Hp) (f c : Addr) (ci : CodeI) (cl : List (Str × Addr)) (caps uu : List U) (cvs vs : List V) (us : List Value) (B ρ : List Addr) (st : Sto) (Q : VK) (E : XK),
    RoomG k A → Env0 P w K mg base A outer s H → G.cod kc = some ci → vis B ρ H f = some (CloO f ci cl c) → vis B ρ H c = some (CodeO c ci.qual) → CapsOk ci.fr cl →
    Paired (CapR cl (vis B ρ H)) ci.fr cvs → RepUs G (vis B ρ H) ρ noOwn caps cvs → Vals vs us → uu.length = n → RelS G B ρ noOwn st H → RepUs G (vis B ρ H) ρ noOwn uu vs →
    hasCloL uu = false → stClo st = false → hasCloL caps = false → PostF G B ρ H Q E (Fc caps uu st) → codeAny (model P w) A (.call (.ref f) ⟨us, []⟩) (CR (L2.CX P w) outer P w H s Q E) s
def runC (n : Nat) (f : SemS) : List U → SemF := fun caps us st => finS (f (us.map some ++ (caps.map some ++ List.replicate (n - us.length - caps.length) none)) st)
def runCE (n : Nat) (f : SemE) : List U → SemF := fun caps us st => finE (f (us.map some ++ (caps.map some ++ List.replicate (n - us.length - caps.length) none)) st)
section
variable {P : Program} {w : World} {K : PySem.W.Frag} {mg : Str → Option Value} {base : Heap} {G : Gd} {N ps : List Str} {k kc : Nat}
theorem COk.mono {j n : Nat} {Fc : List U → SemF} (h : COk P w K mg base G j kc n Fc) (hj : j ≤ k) : COk P w K mg base G k kc n Fc :=
  ⟨fun A outer s H f c ci cl caps uu cvs vs us B ρ st Q E hr => h.run A outer s H f c ci cl caps uu cvs vs us B ρ st Q E (hr.mono hj)⟩
theorem Paired.len {α β : Type} {F : α → β → Prop} : ∀ {l₁ : List α} {l₂ : List β}, Paired F l₁ l₂ → l₁.length = l₂.length
  | _, _, .nil => rfl
  | _, _, .cons _ t => by rw [List.length_cons, List.length_cons, Paired.len t]
theorem Paired.at {α β : Type} {F : α → β → Prop} : ∀ {l₁ : List α} {l₂ : List β}, Paired F l₁ l₂ → ∀ {i : Nat} {a : α}, l₁[i]? = some a → ∃ b, l₂[i]? = some b ∧ F a b
  | _, _, .nil, _, _, h => by simp at h
  | _, _, .cons r t, 0, _, h => by
    simp at h
    cases h
    exact ⟨_, rfl, r⟩
  | _, _, .cons r t, i + 1, _, h => by
    obtain ⟨b, h1, h2⟩ := Paired.at t (i := i) (by simpa using h)
    exact ⟨b, by simpa using h1, h2⟩
def capA (fr : List Str) (cl : List (Str × Addr)) : List Addr := fr.filterMap fun y => cl.lookup y
theorem capA_mem {fr : List Str} {cl : List (Str × Addr)} {c : Addr} : c ∈ capA fr cl ↔ ∃ y ∈ fr, cl.lookup y = some c := by
  unfold capA
  rw [List.mem_filterMap]
theorem capA_trk {fr : List Str} {cl : List (Str × Addr)} {H : Hp} {h : Heap} {cvs : List V} (hok : HOk P w H h) (p : Paired (CapR cl H) fr cvs) : Trk (capA fr cl) H h := fun c hc => by
  obtain ⟨y, hy, e⟩ := capA_mem.mp hc
  obtain ⟨i, hi⟩ := List.getElem?_of_mem hy
  obtain ⟨v, _, c', o, u, e1, e2, e3, _⟩ := Paired.at p hi
  rw [e] at e1
  cases e1
  obtain ⟨z, _, _⟩ := hok c _ e2
  exact ⟨o, _, e2, z, e3⟩
theorem capA_cells {fr : List Str} {cl : List (Str × Addr)} {H : Hp} {h : Heap} {cvs : List V} (hok : HOk P w H h) (co : CapsOk fr cl) (p : Paired (CapR cl H) fr cvs) : CellsAt cl fr (cvs.map some) h (mns (capA fr cl) H) := by
  refine ⟨by rw [List.length_map, Paired.len p], fun y c e => ⟨mns_in (capA_mem.mpr ⟨y, co.mem y c e, e⟩), ?_⟩, co.inj, fun i y hi => ?_⟩
  · obtain ⟨o, v, _, e2, e3⟩ := capA_trk hok p c (capA_mem.mpr ⟨y, co.mem y c e, e⟩)
    exact ⟨v, o, e2, e3⟩
  · obtain ⟨v, hv, c, o, u, e1, e2, e3, rv⟩ := Paired.at p hi
    refine ⟨c, e1, fun v' hv' => ?_⟩
    rw [List.getElem?_map, hv] at hv'
    cases hv'
    obtain ⟨z, _, _⟩ := hok c _ e2
    exact ⟨u, rv, o, z, e3⟩
theorem startF_rel {B ρ : List Addr} {us caps : List U} {vs cvs : List V} {st : Sto} {H : Hp} (S : RelS G B ρ noOwn st H) (r : RepUs G (vis B ρ H) ρ noOwn us vs) (rc : RepUs G (vis B ρ H) ρ noOwn caps cvs) (oS : OwnS) (hl : us.length + caps.length ≤ N.length) :
    Rel oS G B ρ (us.map some ++ (caps.map some ++ List.replicate (N.length - us.length - caps.length) none)) st (startF N vs (cvs.map some)) H := by
  have l1 := r.length
  have l2 := rc.length
  refine ⟨S.own fun _ _ z => z.elim, by unfold startF; simp [r.length, rc.length], fun i u hu => ?_⟩
  unfold startF
  by_cases hi : i < us.length
  · rw [List.getElem?_append_left (by simpa using hi), List.getElem?_map] at hu
    cases e : us[i]? with
    | none => rw [e] at hu; cases hu
    | some u' =>
      rw [e] at hu
      cases hu
      obtain ⟨v, hv, rv⟩ := r.get e
      refine ⟨v, ?_, rv.le (Le.refl _) (fun _ _ z => z) fun _ _ z => z.elim⟩
      rw [List.getElem?_append_left (by simp; omega), List.getElem?_map, hv]
      rfl
  · rw [List.getElem?_append_right (by simpa using hi), List.length_map] at hu
    by_cases hj : i - us.length < caps.length
    · rw [List.getElem?_append_left (by simpa using hj), List.getElem?_map] at hu
      cases e : caps[i - us.length]? with
      | none => rw [e] at hu; cases hu
      | some u' =>
        rw [e] at hu
        cases hu
        obtain ⟨v, hv, rv⟩ := rc.get e
        refine ⟨v, ?_, rv.le (Le.refl _) (fun _ _ z => z) fun _ _ z => z.elim⟩
        have ei : i - (vs.map some).length = i - us.length := by rw [List.length_map, l1]
        rw [List.getElem?_append_right (by simp; omega), ei, List.getElem?_append_left (by simp; omega), List.getElem?_map, hv]
        rfl
    · rw [List.getElem?_append_right (by simpa using hj), List.getElem?_replicate] at hu
      split at hu <;> cases hu
abbrev nfOf (ci : CodeI) (b : List Stmt) (cl : List (Str × Addr)) (c : Addr) : NF := ⟨ci.name, ci.qual, ci.params, b, ci.scope, cl, c⟩
theorem cellsNew_n {CX : CXT} {F : NF} {f : Addr} {A : Around} {outer : List Env} {s : Shared} {H0 H : Hp} {E : XK} {fr : List Str} (e0 : Env0 P w K mg base A outer s H0) (S : NScope N ps fr F.scope) (t : Trk (capA fr F.cl) H0 s.heap) (co : CapsOk fr F.cl) : CellsNew (ncx CX P w K mg base N F f A outer s H E) := by
  have at_ : ∀ y c, F.cl.lookup y = some c → ∃ o v, H0 c = some (CellO c o) ∧ s.heap.get? c = some o ∧ o.data = .cell v := fun y c h => t c (capA_mem.mpr ⟨y, co.mem y c h, h⟩)
  refine ⟨fun y c h => ?_, fun y c h hf => ?_, fun y c h => .inr (S.frk y (co.mem y c h))⟩
  · obtain ⟨o, v, e1, e2, e3⟩ := at_ y c h
    cases q : base.get? c with
    | none => exact q
    | some ob =>
      rw [(e0.bs c ob q).2] at e1
      cases e1
  · obtain ⟨o, v, e1, e2, e3⟩ := at_ y c h
    rcases List.mem_cons.mp (show c ∈ s.heap.objs.size :: frs outer from hf) with e | e
    · have h1 := Heap.lt_size e2
      rw [e] at h1
      exact Nat.lt_irrefl _ h1
    · rw [e0.frf c e] at e1
      cases e1
/-- THE RULE for a nested def: its body -/
theorem cok_of {ci : CodeI} {body : List Stmt} {fb : SemS} (hcod : G.cod kc = some ci) (hbd : ci.body = .stmts body) (S : NScope N ps ci.fr ci.scope) (hb : ∀ (F : NF) (doc pm ctv : Value) (us : List Value), F.params = ci.params → us.length = ps.length → bindArgs (F.fd doc pm ctv) ⟨us, []⟩ = pure (ps.zip us))
    (hbody : ∀ (A : Around) (outer : List Env) (s : Shared) (H : Hp) (E : XK) (f c : Addr) (cl : List (Str × Addr)), RoomG k (A.deeper (envF (nfOf ci body cl c) f s.heap.objs.size)) → (∀ y, y ∉ ci.fr → cl.lookup y = none) →
      ∀ X, X = ncx (L2.CX P w) P w K mg base N (nfOf ci body cl c) f A outer s H E → Takes X (fun cls d _ H => E cls d H) → PassesOwn (model X.prog X.w) X.A X.env X.xe → CellsNew X →
      SL X (ownV X) G (fun cls d _ H => E cls d H) body fb) : COk P w K mg base G (k + 1) kc ps.length (runC N.length fb) := by
  refine ⟨fun A outer s H f c ci' cl caps uu cvs vs us B ρ st Q E hr e0 hc' hf hc co pc rc r hl SS ru nu ns nc q => ?_⟩
  rw [hcod] at hc'
  cases hc'
  have hfH := (vis_some hf).2.2
  have hcH := (vis_some hc).2.2
  have pcH : Paired (CapR cl H) ci.fr cvs := Paired.mapP pc fun y v ⟨c, o, u, z1, z2, z3⟩ => ⟨c, o, u, z1, (vis_some z2).2.2, z3⟩
  have t := capA_trk e0.hok pcH
  have tB : ∀ b ∈ capA ci.fr cl, b ∉ B := fun b hb => by
    obtain ⟨y, hy, e⟩ := capA_mem.mp hb
    obtain ⟨i, hi⟩ := List.getElem?_of_mem hy
    obtain ⟨v, _, c', o, u, e1, e2, _⟩ := Paired.at pc hi
    rw [e] at e1
    cases e1
    exact (vis_some e2).1
  have hfr : ∀ b ∈ capA ci.fr cl, b ∉ frs outer := fun b hb hf => by
    obtain ⟨o, v, e, _, _⟩ := t b hb
    rw [e0.frf b hf] at e
    cases e
  have e1 := env0_mns e0 t
  have C := capA_cells e0.hok co pcH
  have lim : s.heap.NoLimit := e0.mod.nolimit.keeps fun b o e => (e0.bs b o e).1
  have hvl : vs.length = ps.length := by rw [← ru.length, hl]
  obtain ⟨⟨od, sl, doc, pm, ctv, ho⟩, _, _⟩ := e0.hok f _ hfH
  have q2 := postF_back t q
  refine codeAny_mono ?_ fun r' s' => cr_back t hfr
  refine codeAny_call_function (body := body) hr.room.depth ho rfl S.co S.gen hbd (codeO_at e0.hok hcH) ?_
  have hbb := hb (nfOf ci body cl c) doc pm ctv us rfl (by rw [← r.length]; exact hvl)
  have hbb2 : bindArgs { name := ci.name, qualname := ci.qual, params := ci.params, body := ci.body, scope := ci.scope, globals := mainGlobals, closure := cl, defaults := .none, kwdefaults := .none, doc := doc, pyModule := pm, annotations := none, code := .ref c, closureTuple := ctv, builtins := builtinsNs } ⟨us, []⟩ = pure (ps.zip us) := by
    rw [hbd]; exact hbb
  rw [hbb2]
  refine wpAny_pure (wpAny_newFunctionEnv S.nocell (fun ⟨n, _⟩ hy => S.par n (List.of_mem_zip hy).1) (fun h₁ hns hsb => ⟨lim.fresh _ hsb, ?_⟩) S.kind)
  show codeAny _ _ (.func body (envF (nfOf ci body cl c) f s.heap.objs.size)) _ _
  refine codeAny_func ?_
  have kp : ∀ b o, s.heap.get? b = some o → h₁.get? b = some o := fun b o e => hsb.extBut b o (Nat.ne_of_lt (Heap.lt_size e)) (Heap.get?_push_of_some _ e)
  have bod := hbody A outer s (mns (capA ci.fr cl) H) (fun cl' d H' => (∀ b ∈ capA ci.fr cl, H' b = none) → E cl' d (back (capA ci.fr cl) H H')) f c cl (hr.deeper _) (fun y hy => by
    cases e : cl.lookup y with
    | none => rfl
    | some b => exact (hy (co.mem y b e)).elim) _ rfl (takes_of rfl rfl rfl rfl) (passes_of rfl) (cellsNew_n (F := nfOf ci body cl c) e0 S t co)
  have I : Inv (ncx (L2.CX P w) P w K mg base N (nfOf ci body cl c) f A outer s (mns (capA ci.fr cl) H) (fun cl' d H' => (∀ b ∈ capA ci.fr cl, H' b = none) → E cl' d (back (capA ci.fr cl) H H'))) [] (startF N vs (cvs.map some)) (mns (capA ci.fr cl) H) { s with heap := h₁, toks := s.toks + (ps.zip us).length } := inv_startN (F := nfOf ci body cl c) S hr.room.hd e1 hvl r C hns kp
  have hN : uu.length + caps.length ≤ N.length := by
    have z := congrArg List.length S.pre
    have l1 := Paired.len pcH
    have l2 := rc.length
    rw [List.length_take, List.length_append] at z
    omega
  have SM := SS.mns (own' := noOwn) t ns tB
  have R := startF_rel (N := N) SM (ru.leD (vis_leD t.leD) nu) (rc.leD (vis_leD t.leD) nc) (ownV (ncx (L2.CX P w) P w K mg base N (nfOf ci body cl c) f A outer s (mns (capA ci.fr cl) H) (fun cl' d H' => (∀ b ∈ capA ci.fr cl, H' b = none) → E cl' d (back (capA ci.fr cl) H H')))) hN
  refine wpAny_mono ((bod : PSs _ _ _).run [] _ (startF N vs (cvs.map some)) (mns (capA ci.fr cl) H) { nx := fun _ H' => (∀ c_1 ∈ capA ci.fr cl, H' c_1 = none) → Q .non (back (capA ci.fr cl) H H'), rt := fun v H' => (∀ c_1 ∈ capA ci.fr cl, H' c_1 = none) → Q v (back (capA ci.fr cl) H H') } I ⟨B, ρ, _, st, R, fin_post (Q := fun v H' => (∀ c_1 ∈ capA ci.fr cl, H' c_1 = none) → Q v (back (capA ci.fr cl) H H')) q2⟩) (fun fl s' hs => ?_) fun e s' hs => hs
  cases fl with
  | ret u =>
    obtain ⟨v, σ', H', J, rv, q⟩ := hs
    exact ⟨v, H', J.os, J.bare, J.base, J.hok, rv, q⟩
  | next =>
    obtain ⟨σ', H', J, q⟩ := hs
    exact ⟨.non, H', J.os, J.bare, J.base, J.hok, rfl, q⟩
  | brk =>
    obtain ⟨_, _, _, q⟩ := hs
    exact False.elim q
  | cont =>
    obtain ⟨_, _, _, q⟩ := hs
    exact False.elim q
theorem bind_congr {x y : FuncData} {a : Args} (h1 : x.params = y.params) (h2 : x.defaults = y.defaults) (h3 : x.kwdefaults = y.kwdefaults) (h4 : x.name = y.name) (h5 : x.qualname = y.qualname) : bindArgs x a = bindArgs y a := by
  cases x
  cases y
  simp only at h1 h2 h3 h4 h5
  subst h1 h2 h3 h4 h5
  rfl
/-- THE RULE for a lambda: its body -/
theorem cok_lam {ci : CodeI} {body : Expr} {fb : SemE} (hcod : G.cod kc = some ci) (hbd : ci.body = .expr body) (S : NScope N ps ci.fr ci.scope) (hb : ∀ (F : NF) (doc pm ctv : Value) (us : List Value), F.params = ci.params → us.length = ps.length → bindArgs (F.fd doc pm ctv) ⟨us, []⟩ = pure (ps.zip us))
    (hbody : ∀ (A : Around) (outer : List Env) (s : Shared) (H : Hp) (E : XK) (f c : Addr) (cl : List (Str × Addr)), RoomG k (A.deeper (envF (nfOf ci [] cl c) f s.heap.objs.size)) → (∀ y, y ∉ ci.fr → cl.lookup y = none) →
      ∀ X, X = ncx (L2.CX P w) P w K mg base N (nfOf ci [] cl c) f A outer s H E → Takes X (fun cls d _ H => E cls d H) → PassesOwn (model X.prog X.w) X.A X.env X.xe → CellsNew X →
      SE X (ownV X) G (fun cls d _ H => E cls d H) body fb) : COk P w K mg base G (k + 1) kc ps.length (runCE N.length fb) := by
  refine ⟨fun A outer s H f c ci' cl caps uu cvs vs us B ρ st Q E hr e0 hc' hf hc co pc rc r hl SS ru nu ns nc q => ?_⟩
  rw [hcod] at hc'
  cases hc'
  have hfH := (vis_some hf).2.2
  have hcH := (vis_some hc).2.2
  have pcH : Paired (CapR cl H) ci.fr cvs := Paired.mapP pc fun y v ⟨c, o, u, z1, z2, z3⟩ => ⟨c, o, u, z1, (vis_some z2).2.2, z3⟩
  have t := capA_trk e0.hok pcH
  have tB : ∀ b ∈ capA ci.fr cl, b ∉ B := fun b hb => by
    obtain ⟨y, hy, e⟩ := capA_mem.mp hb
    obtain ⟨i, hi⟩ := List.getElem?_of_mem hy
    obtain ⟨v, _, c', o, u, e1, e2, _⟩ := Paired.at pc hi
    rw [e] at e1
    cases e1
    exact (vis_some e2).1
  have hfr : ∀ b ∈ capA ci.fr cl, b ∉ frs outer := fun b hb hf => by
    obtain ⟨o, v, e, _, _⟩ := t b hb
    rw [e0.frf b hf] at e
    cases e
  have e1 := env0_mns e0 t
  have C := capA_cells e0.hok co pcH
  have lim : s.heap.NoLimit := e0.mod.nolimit.keeps fun b o e => (e0.bs b o e).1
  have hvl : vs.length = ps.length := by rw [← ru.length, hl]
  obtain ⟨⟨od, sl, doc, pm, ctv, ho⟩, _, _⟩ := e0.hok f _ hfH
  have q2 := postF_back t q
  refine codeAny_mono ?_ fun r' s' => cr_back t hfr
  refine PySem.W.kla_callFunE (body := body) hr.room.depth ho rfl S.co S.gen hbd (codeO_at e0.hok hcH) ?_
  have hbb := hb (nfOf ci [] cl c) doc pm ctv us rfl (by rw [← r.length]; exact hvl)
  have hbb2 : bindArgs { name := ci.name, qualname := ci.qual, params := ci.params, body := ci.body, scope := ci.scope, globals := mainGlobals, closure := cl, defaults := .none, kwdefaults := .none, doc := doc, pyModule := pm, annotations := none, code := .ref c, closureTuple := ctv, builtins := builtinsNs } ⟨us, []⟩ = pure (ps.zip us) := by
    rw [← hbb]; exact bind_congr rfl rfl rfl rfl rfl
  rw [hbb2]
  refine wpAny_pure (wpAny_newFunctionEnv S.nocell (fun ⟨n, _⟩ hy => S.par n (List.of_mem_zip hy).1) (fun h₁ hns hsb => ⟨lim.fresh _ hsb, ?_⟩) S.kind)
  show codeAny _ _ (.expr body (envF (nfOf ci [] cl c) f s.heap.objs.size)) _ _
  refine PySem.W.kla_codeExpr ?_
  have kp : ∀ b o, s.heap.get? b = some o → h₁.get? b = some o := fun b o e => hsb.extBut b o (Nat.ne_of_lt (Heap.lt_size e)) (Heap.get?_push_of_some _ e)
  have bod := hbody A outer s (mns (capA ci.fr cl) H) (fun cl' d H' => (∀ b ∈ capA ci.fr cl, H' b = none) → E cl' d (back (capA ci.fr cl) H H')) f c cl (hr.deeper _) (fun y hy => by
    cases e : cl.lookup y with
    | none => rfl
    | some b => exact (hy (co.mem y b e)).elim) _ rfl (takes_of rfl rfl rfl rfl) (passes_of rfl) (cellsNew_n (F := nfOf ci [] cl c) e0 S t co)
  have I : Inv (ncx (L2.CX P w) P w K mg base N (nfOf ci [] cl c) f A outer s (mns (capA ci.fr cl) H) (fun cl' d H' => (∀ b ∈ capA ci.fr cl, H' b = none) → E cl' d (back (capA ci.fr cl) H H'))) [] (startF N vs (cvs.map some)) (mns (capA ci.fr cl) H) { s with heap := h₁, toks := s.toks + (ps.zip us).length } := inv_startN (F := nfOf ci [] cl c) S hr.room.hd e1 hvl r C hns kp
  have hN : uu.length + caps.length ≤ N.length := by
    have z := congrArg List.length S.pre
    have l1 := Paired.len pcH
    have l2 := rc.length
    rw [List.length_take, List.length_append] at z
    omega
  have SM := SS.mns (own' := noOwn) t ns tB
  have R := startF_rel (N := N) SM (ru.leD (vis_leD t.leD) nu) (rc.leD (vis_leD t.leD) nc) (ownV (ncx (L2.CX P w) P w K mg base N (nfOf ci [] cl c) f A outer s (mns (capA ci.fr cl) H) (fun cl' d H' => (∀ b ∈ capA ci.fr cl, H' b = none) → E cl' d (back (capA ci.fr cl) H H')))) hN
  refine wpAny_mono ((bod : PE _ _ _).run [] _ (startF N vs (cvs.map some)) (mns (capA ci.fr cl) H) (fun v H' => (∀ c_1 ∈ capA ci.fr cl, H' c_1 = none) → Q v (back (capA ci.fr cl) H H')) I ⟨B, ρ, _, st, R, fin_postE q2⟩) (fun u s' hs => ?_) fun e s' hs => hs
  obtain ⟨v, H', J, rv, q⟩ := hs
  exact ⟨v, H', J.os, J.bare, J.base, J.hok, rv, q⟩
end
end TT
set_option Elab.async false
set_option linter.all false
set_option maxRecDepth 100000
set_option maxHeartbeats 2000000
/-! lambdas; calls of values; calls that hand on one's own functions -/
namespace TT
open PySem PySem.Spec PyProof.Rows L2 LamX NdefX
/-- THE RULE for a def: its body, with what is known of the frame's cells -/
theorem fok_def {P : Program} {w : World} {K : PySem.W.Frag} {mg : Str → Option Value} {base : Heap} {G : Gd} {x qual : Str} {st : Stmt} {f : Addr} {fd : FuncData} {N ps : List Str} {k : Nat} {fb : SemS} (F : Fun K x qual st f fd) (S : FnScope N ps (defScope st)) (hc : cellNamesB (defScope st) = true)
    (hbody : ∀ (cdv : Value) (A : Around) (outer : List Env) (s : Shared) (H : Hp) (E : XK), cdv = fd.code → RoomG k (A.deeper (envOfC qual (defScope st) s.heap.objs.size f cdv)) →
      ∀ X, X = cxOf (L2.CX P w) P w K mg base N qual (defScope st) f cdv A outer s H E → Takes X (fun cls d _ H => E cls d H) → PassesOwn (model X.prog X.w) X.A X.env X.xe → CellsNew X →
      SL X (ownV X) G (fun cls d _ H => E cls d H) (defBody st) fb) : FOk P w K mg base G (k + 1) f fd ps (runF N.length fb) :=
  fok_of F S fun cdv A outer s H E hcd e0 hr X hX tk ps => hbody cdv A outer s H E hcd hr X hX tk ps (by rw [hX]; exact cellsNew_def e0 hc)

/-! ## lambdas -/
def capOf (en : Nv) : List Nat → Option (List U)
  | [] => some []
  | j :: js => match en[j]?, capOf en js with
    | some (some u), some r => some (u :: r)
    | _, _ => none
def mLam (kc : Nat) (js : List Nat) : SemE := fun en st => match capOf en js with
  | some us => if hasCloL us = false then .ok (.clo (!js.isEmpty) kc us) st else .bad
  | none => .bad
section
variable {X : Cx} {G : Gd} {W : WX}
theorem capOf_rel {B ρ : List Addr} {en : Nv} {st : Sto} {σ : L2.St} {H : Hp} (R : Rel (ownV X) G B ρ en st σ H) : ∀ {js : List Nat} {us : List U} {fr : List Str} {cl : List (Str × Addr)}, capOf en js = some us → js.map (fun j => X.N[j]?) = fr.map some → (∀ y ∈ fr, ∃ c, cl.lookup y = some c ∧ X.env.cells.lookup y = some c) →
    ∃ vs, Paired (fun (y : Str) (v : V) => ∃ c, cl.lookup y = some c ∧ ownV X σ c v) fr vs ∧ RepUs G (vis B ρ H) ρ (ownV X σ) us vs
  | [], us, fr, cl, h, hj, hc => by
    cases fr with
    | nil =>
      cases h
      exact ⟨[], .nil, .nil⟩
    | cons y r => cases hj
  | j :: js, us, fr, cl, h, hj, hc => by
    cases fr with
    | nil => cases hj
    | cons y r =>
      simp only [List.map_cons, List.cons.injEq] at hj
      unfold capOf at h
      split at h
      · rename_i u us' e1 e2
        cases h
        obtain ⟨vs, h1, h2⟩ := capOf_rel R e2 hj.2 fun y hy => hc y (List.mem_cons_of_mem _ hy)
        obtain ⟨v, hv, rv⟩ := R.env j u e1
        obtain ⟨c, c1, c2⟩ := hc y (List.mem_cons_self ..)
        exact ⟨v :: vs, .cons ⟨c, c1, j, y, hj.1, c2, hv⟩ h1, .cons rv h2⟩
      · cases h
/-- lambda ..: body -/
theorem se_lam {kc : Nat} {js : List Nat} {nm : Nat → Nat → Str} {c P : Addr} {params : Arguments} {body : Expr} {scope : Scope} {pos : Pos} {fr : List Str} (TB : TabB X.base X.mg c P) (hcode : X.env.code = .ref c) (hm : (P, nm) ∈ G.T) (hn : nm pos.line pos.col = X.env.qual ++ "<lambda>") (hu : ∀ p ∈ G.T, p.1 = P → p.2 = nm)
    (hdef : defaultsOf params X.env = ([], [])) (hfree : ∀ y ∈ scope.names, y.2 = .free → X.env.scope.names.lookup y.1 = some .cell ∨ X.env.scope.names.lookup y.1 = some .free) (hcod : G.cod kc = some (lamI X params body scope fr)) (hfr : ∀ y ∈ fr, (y, NameKind.free) ∈ scope.names) (hfr2 : ∀ y ∈ scope.names, y.2 = .free → y.1 ∈ fr)
    (hjs : js.map (fun j => X.N[j]?) = fr.map some) : SE X (ownV X) G W (.Lambda params body scope pos) (mLam kc js) := by
  refine ⟨fun pins s σ H Q I ⟨B, ρ, en, st, R, h⟩ => ?_⟩
  have hfr' : ∀ y ∈ scope.names, y.2 = .free → ∃ c, X.env.cells.lookup y.1 = some c := fun y hy e => (hfree y hy e).elim (fun z => I.ok.has _ (.inl z)) fun z => I.ok.has _ (.inr z)
  refine lam_make I TB hcode hm hn hu R.sto.tabs hdef hfr' (fr := fr) fun f H1 s' I1 M => ⟨.ref f, H1, I1, rfl, ?_⟩
  have stp : Stp ρ H ρ H1 := ⟨fun b o e _ n => M.ext b o e n, M.dom, fun _ _ z => z, fun _ z => .inl z⟩
  have R1 : Rel (ownV X) G B ρ en st σ H1 := by
    refine R.ofS stp ⟨R.sto.len, R.sto.nd, fun n cc hn => ?_, fun b hb => ?_, M.tabs⟩
    · obtain ⟨a, o, h1, h2, h3⟩ := R.sto.cell n cc hn
      exact ⟨a, o, h1, M.ext _ _ h2 h3.nt, h3.le stp.le stp.pre fun _ _ z => z⟩
    · obtain ⟨h1, o, h2, h3⟩ := R.sto.hid b hb
      exact ⟨h1, o, M.ext _ _ h2 h3.1, h3⟩
  unfold mLam at h
  split at h
  · rename_i us e1
    split at h
    · obtain ⟨cc, z1, z2⟩ := M.fn
      have ncap : ∀ y ∈ fr, ∃ c, (cloFrom X.env.cells scope.names []).lookup y = some c ∧ X.env.cells.lookup y = some c := fun y hy => by
        obtain ⟨c0, hc0⟩ := hfr' _ (hfr y hy) rfl
        exact ⟨c0, clo_has hfr' (hfr y hy) hc0, hc0⟩
      obtain ⟨vs, p1, p2⟩ := capOf_rel R1 e1 hjs ncap
      have co : CapsOk fr (cloFrom X.env.cells scope.names []) := ⟨fun y a e => by
        rcases cloFrom_mem (PySem.mem_of_lookup e) with hm | ⟨h1, h2⟩
        · cases hm
        · exact hfr2 _ h1 rfl, fun x y a e1 e2 => I.ok.inj x y a (clo_cm hfr' e1) (clo_cm hfr' e2)⟩
      have fB : f ∉ B ∧ f ∉ ρ := R.sto.fresh M.new
      have cB : vis B ρ H1 cc = some (CodeO cc (lamI X params body scope fr).qual) := by
        refine vis_of (fun z => ?_) (fun z => ?_) z2
        · obtain ⟨_, o, e, n⟩ := R1.sto.hid cc z
          rw [z2] at e
          cases e
          exact n.2 _ rfl
        · obtain ⟨i, hi⟩ := List.getElem?_of_mem z
          obtain ⟨_, o, _, e, n⟩ := R1.sto.at hi
          rw [z2] at e
          cases e
          exact n.datO.2 _ rfl
      refine h ρ H1 stp R1 (.ref f) ?_
      cases js with
      | nil =>
        have e : fr = [] := by
          cases fr with
          | nil => rfl
          | cons y r => cases hjs
        subst e
        cases p1
        cases p2
        exact .cloH hcod (vis_of fB.1 fB.2 z1) cB co .nil .nil
      | cons j js => exact .cloO hcod (vis_of fB.1 fB.2 z1) cB co p1 p2
    · exact h.elim
  · exact h.elim
end
/-! ## what a name may hold that is called -/
structure APOk (P : Program) (w : World) (K : PySem.W.Frag) (mg : Str → Option Value) (base : Heap) (G : Gd) (k : Nat) (ap : U → SemF) : Prop where
  fns : ∀ x a, G.fnA x = some a → ∀ h, K.In h → PySem.W.FnAt a h
  at_ : ∀ g us st, ap g us st ≠ .bad →
    (∃ kc caps ow n Fc, g = .clo ow kc caps ∧ COk P w K mg base G k kc n Fc ∧ us.length = n ∧ ap g us st = Fc caps us st) ∨
    (∃ x a fd ps F, g = .fn x ∧ G.fnA x = some a ∧ Binds K fd ps [] ∧ FOk P w K mg base G k a fd ps F ∧ us.length = ps.length ∧ ap g us st = F us st)
def apNil : U → SemF := fun _ _ _ => .bad
def apC (kc n : Nat) (Fc : List U → SemF) (ap : U → SemF) : U → SemF := fun g us st => match g with
  | .clo _ k' caps => if k' = kc then (if us.length = n then Fc caps us st else .bad) else ap g us st
  | _ => ap g us st
def apF (x : Str) (n : Nat) (F : SemF) (ap : U → SemF) : U → SemF := fun g us st => match g with
  | .fn y => if y = x then (if us.length = n then F us st else .bad) else ap g us st
  | _ => ap g us st
section
variable {P : Program} {w : World} {K : PySem.W.Frag} {mg : Str → Option Value} {base : Heap} {G : Gd} {k : Nat}
theorem apNil_ok (hf : ∀ x a, G.fnA x = some a → ∀ h, K.In h → PySem.W.FnAt a h) : APOk P w K mg base G k apNil := ⟨hf, fun g us st h => (h rfl).elim⟩
theorem apC_ok {kc n : Nat} {Fc : List U → SemF} {ap : U → SemF} (hc : COk P w K mg base G k kc n Fc) (h : APOk P w K mg base G k ap) : APOk P w K mg base G k (apC kc n Fc ap) := ⟨h.fns, fun g us st hb => by
  unfold apC at hb ⊢
  split at hb
  · rename_i ow k' caps
    split at hb
    · rename_i e
      subst e
      split at hb
      · rename_i e2
        refine .inl ⟨k', caps, ow, n, Fc, rfl, hc, e2, ?_⟩
        rw [if_pos rfl, if_pos e2]
      · exact (hb rfl).elim
    · rename_i e
      rw [if_neg e]
      exact h.at_ _ _ _ hb
  · exact h.at_ _ _ _ hb⟩
theorem apF_ok {x : Str} {a : Addr} {fd : FuncData} {ps : List Str} {F : SemF} {ap : U → SemF} (ha : G.fnA x = some a) (hb : Binds K fd ps []) (FF : FOk P w K mg base G k a fd ps F) (h : APOk P w K mg base G k ap) : APOk P w K mg base G k (apF x ps.length F ap) := ⟨h.fns, fun g us st hbd => by
  unfold apF at hbd ⊢
  split at hbd
  · rename_i y
    split at hbd
    · rename_i e
      subst e
      split at hbd
      · rename_i e2
        refine .inr ⟨y, a, fd, ps, F, rfl, ha, hb, FF, e2, ?_⟩
        rw [if_pos rfl, if_pos e2]
      · exact (hbd rfl).elim
    · rename_i e
      rw [if_neg e]
      exact h.at_ _ _ _ hbd
  · exact h.at_ _ _ _ hbd⟩
theorem APOk.mono {j : Nat} {ap : U → SemF} (h : APOk P w K mg base G j ap) (hj : j ≤ k) : APOk P w K mg base G k ap := ⟨h.fns, fun g us st hb => (h.at_ g us st hb).elim
  (fun ⟨kc, caps, ow, n, Fc, z1, z2, z3⟩ => .inl ⟨kc, caps, ow, n, Fc, z1, z2.mono hj, z3⟩)
  fun ⟨x, a, fd, ps, F, z1, z2, z4, z5, z6⟩ => .inr ⟨x, a, fd, ps, F, z1, z2, z4, z5.mono hj, z6⟩⟩
end
/-- may g be called with us, nothing of one's own handed on -/
def okAp (g : U) (us : List U) (st : Sto) : Bool := match g with
  | .clo ow _ caps => !ow && !hasCloL us && !stClo st && !hasCloL caps
  | _ => !hasOwnL us && !stOwn st
def applyV (ap : U → SemF) (g : U) (us : List U) (st : Sto) : Res U := if okAp g us st = true then ap g us st else .bad
def isFun : U → Bool
  | .clo _ _ _ => true
  | .fn _ => true
  | _ => false
def mCallV (ap : U → SemF) (i : Nat) (fs : SemA) : SemE := fun en st => match en[i]? with
  | some (some g) => if isFun g = true then (fs en st).bind fun us st => applyV ap g us st else .bad
  | _ => .bad

section
variable {X : Cx} {oS : OwnS} {G : Gd} {W : WX} {k i : Nat} {x : Str} {p pos : Pos} {e : Expr} {es : List Expr} {ap : U → SemF}
theorem RepU.fnAt {B ρ : List Addr} {pins : List (Addr × Obj)} {σ : L2.St} {H : Hp} {s : Shared} {g : U} {v : V} (AP : APOk X.prog X.w X.K X.mg X.base G k ap) (I : L2.Inv X pins σ H s) (r : RepU G (vis B ρ H) ρ (oS σ) g v) (hb : isFun g = true) : ∃ a, v = .ref a ∧ PySem.W.FnAt a s.heap := by
  cases r with
  | cloO h1 h2 h3 h4 h5 h6 =>
    obtain ⟨⟨od, sl, doc, pm, ctv, ho⟩, _, _⟩ := I.hok _ _ (vis_some h2).2.2
    exact ⟨_, rfl, _, od, _, sl, ho⟩
  | cloH h1 h2 h3 h4 h5 h6 =>
    obtain ⟨⟨od, sl, doc, pm, ctv, ho⟩, _, _⟩ := I.hok _ _ (vis_some h2).2.2
    exact ⟨_, rfl, _, od, _, sl, ho⟩
  | fn h => exact ⟨_, rfl, AP.fns _ _ h _ I.kIn⟩
  | d _ => cases hb
  | ref _ => cases hb
  | tup _ _ _ => cases hb
theorem run_v {pins : List (Addr × Obj)} {σ : L2.St} {H : Hp} {s : Shared} {Q : VK} {us : List Value} {vs : List V} {B ρ : List Addr} {en : Nv} {st : Sto} {uu : List U} {g : U} {a : Addr} (AP : APOk X.prog X.w X.K X.mg X.base G k ap) (hr : RoomG k X.A) (tk : Takes X W)
    (I : L2.Inv X pins σ H s) (r : Vals vs us) (R : Rel oS G B ρ en st σ H) (ru : RepUs G (vis B ρ H) ρ (oS σ) uu vs) (rg : RepU G (vis B ρ H) ρ (oS σ) g (.ref a))
    (h : PostE oS G W B ρ en σ H (fun u ρ' H' _ => ∀ v, RepU G (vis B ρ' H') ρ' (oS σ) u v → Q v H') (applyV ap g uu st)) : wpAny (model X.prog X.w) X.A (call (.ref a) us) (EP X pins σ Q) X.xe s := by
  unfold applyV at h
  split at h
  case isFalse => exact h.elim
  rename_i hno
  have nb : ap g uu st ≠ .bad := fun z => by rw [z] at h; exact h
  rcases AP.at_ g uu st nb with ⟨kc, caps, ow, n, Fc, e1, C, e2, e3⟩ | ⟨x, a', fd, ps, F, e1, e2, hb, FF, e4, e5⟩
  · subst e1
    unfold okAp at hno
    simp only [Bool.and_eq_true, Bool.not_eq_true'] at hno
    obtain ⟨⟨⟨z1, z2⟩, z3⟩, z4⟩ := hno
    subst z1
    cases rg with
    | cloH q1 q2 q3 q4 q5 q6 =>
      rw [e3] at h
      have run := C.run X.A X.stack s H a _ _ _ caps uu _ vs us B ρ st Q (fun cls d H' => W cls d σ H') hr I.env0 q1 q2 q3 q4 q5 (q6.noOwn (hasOwnL_clo z4)) r e2 (R.sto.noOwn (stOwn_clo z3)) (ru.noOwn (hasOwnL_clo z2)) z2 z3 z4 (by
        cases q : Fc caps uu st with
        | ok u st' =>
          rw [q] at h
          exact fun ρ' H' v s' S' rv => h ρ' H' s' (R.ofS s' (S'.own fun _ _ z => z.elim)) v (rv.le (Le.refl _) (fun _ _ z => z) fun _ _ z => z.elim)
        | exn c u st' =>
          rw [q] at h
          refine fun ρ' H' C d s' S' hx => h ρ' H' C d s' (S'.own fun _ _ z => z.elim) ⟨hx.1, ?_⟩
          cases u with
          | some u =>
            obtain ⟨_, dd, v, x2, x3, x4⟩ := hx
            exact ⟨dd, v, x2, x3, x4.le (Le.refl _) (fun _ _ z => z) fun _ _ z => z.elim⟩
          | none => exact hx.2
        | bad => rw [q] at h; exact h)
      refine wpAny_call (codeAny_mono run fun r s' hq => ?_)
      cases r with
      | error e => exact tk e s' (XE.of_call I (fun cls d H' h => h) hq)
      | ok fl =>
        cases fl with
        | ret u => exact I.after hq
        | next => exact False.elim hq
        | brk => exact False.elim hq
        | cont => exact False.elim hq
  · subst e1
    cases rg with
    | fn q =>
      rw [e2] at q
      cases q
      unfold okAp at hno
      simp only [Bool.and_eq_true, Bool.not_eq_true'] at hno
      rw [e5] at h
      exact run_f FF hr hb tk I r R ru e4 (by rw [if_pos hno]; exact h)
/-- f(..), f a name of the frame -/
theorem se_callV {fs : SemA} (AP : APOk X.prog X.w X.K X.mg X.base G k ap) (hr : RoomG k X.A) (tk : Takes X W) (hN : X.N[i]? = some x) (hv : Vis X.env.scope x) (ha : SA X oS G W (e :: es) fs)
    (hd : (x == ("__debug__" : Str)) = false := by decide) (hcd : (x == ("__classdict__" : Str)) = false := by decide)
    (he : starEach (e :: es) X.env = (false, eval e X.env) :: starEach es X.env := by rfl) (hpl : (backTo pos (starEach es X.env)).any (·.1) = false := by rfl) :
    SE X oS G W (.Call (.Name x p) (e :: es) [] pos) (mCallV ap i fs) := by
  refine ⟨fun pins s σ H Q I ⟨B, ρ, en, st, R, h⟩ => ?_⟩
  unfold mCallV at h
  split at h
  case h_2 => exact h.elim
  rename_i g hg
  split at h
  case isFalse => exact h.elim
  rename_i hfun
  obtain ⟨v, hs, rv⟩ := R.env i g hg
  refine wpAny_Call_Name_kw (thn ((pe_var (pos := p) hN hv hd hcd).run pins s σ H (fun v' H1 => v' = v ∧ H1 = H) I ⟨v, hs, rfl, rfl⟩) fun u s1 ⟨v', H1, I1, r1, q1⟩ => ?_)
  obtain ⟨ev, eH⟩ := q1
  subst ev
  subst eH
  obtain ⟨a, e1, fa⟩ := RepU.fnAt AP I1 rv hfun
  subst e1
  obtain rfl : u = Value.ref a := r1
  have args := (ha : PA X _ _).run pos pins s1 σ H1 (fun vs H2 => ∃ ρ1 st1 us, Stp ρ H1 ρ1 H2 ∧ Rel oS G B ρ1 en st1 σ H2 ∧ RepUs G (vis B ρ1 H2) ρ1 (oS σ) us vs ∧
    PostE oS G W B ρ1 en σ H2 (fun u ρ' H' _ => ∀ v, RepU G (vis B ρ' H') ρ' (oS σ) u v → Q v H') (applyV ap g us st1)) I1
    ⟨B, ρ, en, st, R, (PostE.bind h).mono fun us st1 ρ1 H1 eq s1 R1 h1 vs rvs => ⟨ρ1, st1, us, s1, R1, rvs, h1⟩⟩
  refine PySem.W.callWith_F (first := []) fa (thn args fun us s2 ⟨vs, H2, I2, r, ρ1, st1, uu, s12, R1, ru, h1⟩ => ?_) he hpl
  have rg := rv.stp s12
  obtain ⟨a', e1, fa'⟩ := RepU.fnAt AP I2 rg hfun
  cases e1
  exact ⟨fa', run_v AP hr tk I2 r R1 ru rg h1⟩
/-- f(), f a name of the frame -/
theorem se_callV0 (AP : APOk X.prog X.w X.K X.mg X.base G k ap) (hr : RoomG k X.A) (tk : Takes X W) (hN : X.N[i]? = some x) (hv : Vis X.env.scope x)
    (hd : (x == ("__debug__" : Str)) = false := by decide) (hcd : (x == ("__classdict__" : Str)) = false := by decide) :
    SE X oS G W (.Call (.Name x p) [] [] pos) (mCallV ap i mNil) := by
  refine ⟨fun pins s σ H Q I ⟨B, ρ, en, st, R, h⟩ => ?_⟩
  unfold mCallV at h
  split at h
  case h_2 => exact h.elim
  rename_i g hg
  split at h
  case isFalse => exact h.elim
  rename_i hfun
  obtain ⟨v, hs, rv⟩ := R.env i g hg
  refine wpAny_Call_Name_kw (thn ((pe_var (pos := p) hN hv hd hcd).run pins s σ H (fun v' H1 => v' = v ∧ H1 = H) I ⟨v, hs, rfl, rfl⟩) fun u s1 ⟨v', H1, I1, r1, q1⟩ => ?_)
  obtain ⟨ev, eH⟩ := q1
  subst ev
  subst eH
  obtain ⟨a, e1, fa⟩ := RepU.fnAt AP I1 rv hfun
  subst e1
  obtain rfl : u = Value.ref a := r1
  refine PySem.W.callWith_F0 (first := []) fa ?_
  exact run_v AP hr tk I1 .nil R .nil rv h
end
end TT
set_option Elab.async false
set_option linter.all false
set_option maxRecDepth 100000
set_option maxHeartbeats 2000000
/-! calls that hand on functions of the running frame -/
namespace TT
open PySem PySem.Spec PyProof.Rows L2 LamX NdefX
mutual
def expU : U → U
  | .clo _ k caps => .clo false k (expL caps)
  | .tup l => .tup (expL l)
  | u => u
def expL : List U → List U
  | [] => []
  | u :: r => expU u :: expL r
end
theorem expL_length : ∀ (l : List U), (expL l).length = l.length
  | [] => rfl
  | _ :: r => by simp [expL, expL_length r]
section
variable {G : Gd}
mutual
theorem RepU.exp {H H2 : Hp} {ρ : List Addr} {own : OwnV} (e : Le H H2) (ow : ∀ c v, own c v → ∃ o u, H2 c = some (CellO c o) ∧ o.data = .cell (some u) ∧ RelV v u) : ∀ {u : U} {v : V}, RepU G H ρ own u v → RepU G H2 ρ noOwn (expU u) v
  | _, _, .d r => .d (r.le e)
  | _, _, .ref h => .ref h
  | _, _, .fn h => .fn h
  | _, _, .tup s z r => .tup (SqT.le e s) z (RepUs.exp e ow r)
  | _, _, .cloO k h h' co q r => .cloH k (e _ _ h cloO_nt) (e _ _ h' codeO_nt) co (Paired.mapP q fun _ _ ⟨c, z1, z2⟩ => by
      obtain ⟨o, u, z3, z4, z5⟩ := ow _ _ z2
      exact ⟨c, o, u, z1, z3, z4, z5⟩) (RepUs.exp e ow r)
  | _, _, .cloH k h h' co q r => .cloH k (e _ _ h cloO_nt) (e _ _ h' codeO_nt) co (Paired.mapP q fun _ _ ⟨c, o, u, z1, z2, z3⟩ => ⟨c, o, u, z1, e _ _ z2 cellO_nt, z3⟩) (RepUs.exp e ow r)
theorem RepUs.exp {H H2 : Hp} {ρ : List Addr} {own : OwnV} (e : Le H H2) (ow : ∀ c v, own c v → ∃ o u, H2 c = some (CellO c o) ∧ o.data = .cell (some u) ∧ RelV v u) : ∀ {u : List U} {v : List V}, RepUs G H ρ own u v → RepUs G H2 ρ noOwn (expL u) v
  | _, _, .nil => .nil
  | _, _, .cons a b => .cons (RepU.exp e ow a) (RepUs.exp e ow b)
end
end
def cleanR : Res U → Res U
  | .ok u st => if hasClo u = false ∧ stClo st = false then .ok u st else .bad
  | _ => .bad
/-- the frame's cells -/
def cellsA (X : Cx) : List Addr := X.env.cells.filterMap fun p => X.env.cells.lookup p.1
theorem cellsA_mem {X : Cx} {c : Addr} : c ∈ cellsA X ↔ ∃ y, X.env.cells.lookup y = some c := by
  unfold cellsA
  rw [List.mem_filterMap]
  exact ⟨fun ⟨p, _, e⟩ => ⟨p.1, e⟩, fun ⟨y, e⟩ => ⟨(y, c), PySem.mem_of_lookup e, e⟩⟩
section
variable {X : Cx} {G : Gd} {W : WX} {k i : Nat} {x : Str} {p pos : Pos} {e : Expr} {es : List Expr} {ap : U → SemF}
theorem run_exp {pins : List (Addr × Obj)} {σ : L2.St} {H : Hp} {s : Shared} {Q : VK} {vs : List V} {us : List Value} {B ρ : List Addr} {en : Nv} {st : Sto} {uu : List U} {a : Addr} {r : Res U} (CN : CellsNew X) (I : L2.Inv X pins σ H s) (R : Rel (ownV X) G B ρ en st σ H) (ns : stClo st = false)
    (ru : RepUs G (vis B ρ H) ρ (ownV X σ) uu vs)
    (h : PostE (ownV X) G W B ρ en σ H (fun u ρ' H' _ => ∀ v, RepU G (vis B ρ' H') ρ' (ownV X σ) u v → Q v H') (cleanR r))
    (hrun : ∀ (H1 : Hp) (Q1 : VK), Env0 X.prog X.w X.K X.mg X.base X.A X.stack s H1 → RelS G B ρ noOwn st H1 → RepUs G (vis B ρ H1) ρ noOwn (expL uu) vs → PostF G B ρ H1 Q1 (fun _ _ _ => False) r →
      codeAny (model X.prog X.w) X.A (.call (.ref a) ⟨us, []⟩) (CR (L2.CX X.prog X.w) X.stack X.prog X.w H1 s Q1 fun _ _ _ => False) s) :
    wpAny (model X.prog X.w) X.A (call (.ref a) us) (EP X pins σ Q) X.xe s := by
  have e0 := I.env0
  have cH : ∀ c ∈ cellsA X, H c = none ∧ ∃ o v, s.heap.get? c = some o ∧ o.data = .cell v := fun c hc => by
    obtain ⟨y, e⟩ := cellsA_mem.mp hc
    obtain ⟨v, o, h1, h2⟩ := I.cell y c e
    exact ⟨I.freeC y c e, o, v, h1, h2⟩
  have cT : Trk (cellsA X) (pls (cellsA X) s.heap H) s.heap := fun c hc => by
    obtain ⟨_, o, v, h1, h2⟩ := cH c hc
    exact ⟨o, v, by rw [pls_in hc, h1]; rfl, h1, h2⟩
  have sup : ∀ b o, H b = some o → pls (cellsA X) s.heap H b = some o := fun b o e => by
    rw [pls_out]
    · exact e
    · intro z
      rw [(cH b z).1] at e
      cases e
  have out : ∀ b, pls (cellsA X) s.heap H b = none → b ∉ cellsA X ∧ H b = none := fun b e => by
    have z : b ∉ cellsA X := fun z => by
      obtain ⟨o, v, e1, _, _⟩ := cT b z
      rw [e] at e1
      cases e1
    rw [pls_out z] at e
    exact ⟨z, e⟩
  have cB : ∀ c ∈ cellsA X, c ∉ B := fun c hc hb => by
    obtain ⟨_, o, e, _⟩ := R.sto.hid c hb
    rw [(cH c hc).1] at e
    cases e
  have cρ : ∀ c ∈ cellsA X, c ∉ ρ := fun c hc hb => by
    obtain ⟨o, e, _⟩ := R.sto.mem hb
    rw [(cH c hc).1] at e
    cases e
  have hok : HOk X.prog X.w (pls (cellsA X) s.heap H) s.heap := fun b o e => by
    by_cases hb : b ∈ cellsA X
    · obtain ⟨ob, v, e1, e2, _⟩ := cT b hb
      rw [e1] at e
      cases e
      exact ⟨e2, ⟨ob, e2⟩, fun h1 h2 x st => st _ x⟩
    · rw [pls_out hb] at e
      exact (I.hok b o e).stay (fun _ _ _ q => q) (fun d q => sup d _ q) fun d xs q => sup d _ q
  have e1 : Env0 X.prog X.w X.K X.mg X.base X.A X.stack s (pls (cellsA X) s.heap H) := by
    refine ⟨e0.frames, e0.mod, fun b o e => ⟨(e0.bs b o e).1, ?_⟩, e0.bsz, e0.funs, fun b hb => ?_, hok, e0.bare⟩
    · rw [pls_out]
      · exact (e0.bs b o e).2
      · intro z
        obtain ⟨y, ey⟩ := cellsA_mem.mp z
        rw [CN.base y b ey] at e
        cases e
    · rw [pls_out]
      · exact e0.frf b hb
      · intro z
        obtain ⟨y, ey⟩ := cellsA_mem.mp z
        exact CN.frs y b ey hb
  have S1 : RelS G B ρ noOwn st (pls (cellsA X) s.heap H) := (R.sto.noOwn (stOwn_clo ns)).sup sup
  have ru1 : RepUs G (vis B ρ (pls (cellsA X) s.heap H)) ρ noOwn (expL uu) vs := by
    refine ru.exp (vis_sup sup) fun c v ⟨j, y, h1, h2, h3⟩ => ?_
    have hc : c ∈ cellsA X := cellsA_mem.mpr ⟨y, h2⟩
    obtain ⟨m, hn, hl⟩ := I.loc
    obtain ⟨u, rv, l⟩ := hl j y v h1 h3 ((CN.kin y c h2).elim (fun z => .inr (.inl z)) fun z => .inr (.inr z))
    rcases l with ⟨z, _⟩ | ⟨_, a', ha', o, ho, hd⟩
    · have z' : X.env.scope.names.lookup y = some .local := z
      rcases CN.kin y c h2 with q | q <;> rw [q] at z' <;> cases z'
    · rw [h2] at ha'
      cases ha'
      exact ⟨o, u, vis_of (cB c hc) (cρ c hc) (by rw [pls_in hc, ho]; rfl), hd, rv⟩
  have tR : ∀ {ρ' : List Addr} {H' : Hp}, Stp ρ (pls (cellsA X) s.heap H) ρ' H' → (∀ c ∈ cellsA X, H' c = pls (cellsA X) s.heap H c) ∧ Stp ρ H ρ' (mns (cellsA X) H') := fun {ρ' H'} st => by
    refine ⟨fun c hc => ?_, fun b o e nb no => ?_, fun b e => ?_, st.pre, fun b hb => ?_⟩
    · obtain ⟨o, v, z, _, _⟩ := cT c hc
      rw [z]
      exact st.keep c _ z (cρ c hc) cellO_nt
    · have hb : b ∉ cellsA X := fun z => by rw [(cH b z).1] at e; cases e
      rw [mns_out hb]
      exact st.keep b o (sup b o e) nb no
    · by_cases hb : b ∈ cellsA X
      · exact (cH b hb).1
      · rw [mns_out hb] at e
        exact (out b (st.dom b e)).2
    · rcases st.new b hb with z | z
      · exact .inl z
      · exact .inr (out b z).2
  have run := hrun (pls (cellsA X) s.heap H) (fun v H' => (∀ c ∈ cellsA X, H' c = pls (cellsA X) s.heap H c) ∧ Q v (mns (cellsA X) H')) e1 S1 ru1 (by
    cases r with
    | ok u st' =>
      unfold cleanR at h
      dsimp only at h
      split at h
      · rename_i hno
        intro ρ' H' v st S rv
        obtain ⟨t1, t2⟩ := tR st
        have t3 : Trk (cellsA X) H' s.heap := fun c hc => by
          obtain ⟨o, v, z1, z2⟩ := cT c hc
          exact ⟨o, v, by rw [t1 c hc]; exact z1, z2⟩
        exact ⟨t1, h ρ' _ t2 (R.ofS t2 (S.mns t3 hno.2 cB)) v (rv.leD (vis_leD t3.leD) hno.1)⟩
      · exact h.elim
    | exn c u st' => exact h.elim
    | bad => exact h.elim)
  refine wpAny_call (codeAny_mono run fun r s' hq => ?_)
  cases r with
  | error e =>
    obtain ⟨_, _, _, _, _, _, _, _, _, _, _, _, z⟩ := (show L2.CX X.prog X.w X.stack _ s _ e s' from hq)
    exact z.elim
  | ok fl =>
    cases fl with
    | next => exact False.elim hq
    | brk => exact False.elim hq
    | cont => exact False.elim hq
    | ret u =>
      obtain ⟨v, H', os, ag, un, hok', rv, t1, q⟩ := hq
      have same : ∀ c ∈ cellsA X, ∃ o, s.heap.get? c = some o ∧ s'.heap.get? c = some o := fun c hc => by
        obtain ⟨o, w, z1, z2, _⟩ := cT c hc
        have z3 : H' c = some (CellO c o) := by rw [t1 c hc]; exact z1
        obtain ⟨z, _, _⟩ := hok' c _ z3
        exact ⟨o, z2, z⟩
      refine I.after ⟨v, mns (cellsA X) H', os, ag, ⟨fun b o e n hf hx => ?_, fun b o e n hf hx => ?_, fun b o e n hx => ?_, un.there, fun b xs e => ?_, fun b o xs e => ?_, fun b ps e => ?_⟩, hok_mns hok' fun c hc => ?_, rv, q⟩
      · by_cases hb : b ∈ cellsA X
        · obtain ⟨o', q1, q2⟩ := same b hb
          rw [e] at q1
          cases q1
          exact q2
        · exact un.keep b o e (by rw [pls_out hb]; exact n) hf hx
      · have hb : b ∉ cellsA X := fun z => by
          obtain ⟨y, ey⟩ := cellsA_mem.mp z
          exact CN.frs y b ey hf
        exact un.slot b o e (by rw [pls_out hb]; exact n) hf hx
      · by_cases hb : b ∈ cellsA X
        · exact mns_in hb
        · rw [mns_out hb]
          exact un.free b o e (by rw [pls_out hb]; exact n) hx
      · have hb : b ∉ cellsA X := fun z => by rw [(cH b z).1] at e; cases e
        rw [mns_out hb]
        exact un.tups b xs (sup b _ e)
      · have hb : b ∉ cellsA X := fun z => by rw [(cH b z).1] at e; cases e
        rw [mns_out hb]
        exact un.frzs b o xs (sup b _ e)
      · have hb : b ∉ cellsA X := fun z => by rw [(cH b z).1] at e; cases e
        rw [mns_out hb]
        exact un.tbls b ps (sup b _ e)
      · obtain ⟨o, w, z1, z2, _⟩ := cT c hc
        exact ⟨_, by rw [t1 c hc]; exact z1⟩
/-- a call that hands on functions of the running frame -/
def mCallX (F : SemF) (fs : SemA) : SemE := fun en st => (fs en st).bind fun us st => if stClo st = false then cleanR (F (expL us) st) else .bad
theorem se_callX {f : Addr} {fd : FuncData} {ps : List Str} {F : SemF} {fs : SemA} (FF : FOk X.prog X.w X.K X.mg X.base G k f fd ps F) (hr : RoomG k X.A) (CN : CellsNew X) (hg : Gl X x) (hm : X.mg x = some (.ref f)) (hk : PySem.W.keepIn X.K (.ref f) = true) (hb : Binds X.K fd ps []) (hl : (e :: es).length = ps.length)
    (ha : SA X (ownV X) G W (e :: es) fs) (hal : ∀ en st us st', fs en st = .ok us st' → us.length = (e :: es).length) (hdb : (x == ("__debug__" : Str)) = false := by decide) (he : starEach (e :: es) X.env = (false, eval e X.env) :: starEach es X.env := by rfl) (hpl : (backTo pos (starEach es X.env)).any (·.1) = false := by rfl) :
    SE X (ownV X) G W (.Call (.Name x p) (e :: es) [] pos) (mCallX F fs) := by
  refine ⟨fun pins s σ H Q I h => ?_⟩
  refine wpAny_Call_Name_kw (ld_glob I hg hm ?_ hdb)
  obtain ⟨B, ρ, en, st, R, h⟩ := h
  have args := (ha : PA X _ _).run pos pins s σ H (fun vs H1 => ∃ ρ1 st1 us, Stp ρ H ρ1 H1 ∧ Rel (ownV X) G B ρ1 en st1 σ H1 ∧ RepUs G (vis B ρ1 H1) ρ1 (ownV X σ) us vs ∧ us.length = ps.length ∧
    PostE (ownV X) G W B ρ1 en σ H1 (fun u ρ' H' _ => ∀ v, RepU G (vis B ρ' H') ρ' (ownV X σ) u v → Q v H') (if stClo st1 = false then cleanR (F (expL us) st1) else .bad)) I
    ⟨B, ρ, en, st, R, (PostE.bind h).mono fun us st1 ρ1 H1 eq s1 R1 h1 vs rvs => ⟨ρ1, st1, us, s1, R1, rvs, by rw [hal _ _ _ _ eq, hl], h1⟩⟩
  refine PySem.W.callWith_K (h₀ := X.base) I.ok.mod.kin hk (thn args fun us s1 ⟨vs, H1, I1, r, ρ1, st1, uu, _, R1, ru, hlu, h1⟩ => ⟨I1.kIn, ?_⟩) he hpl
  split at h1
  case isFalse => exact h1.elim
  rename_i hno
  refine run_exp CN I1 R1 hno ru h1 fun H2 Q2 e2 S2 ru2 p2 => ?_
  have r2 : Vals vs (us ++ []) := by rw [List.append_nil]; exact r
  have hlen : (us ++ []).length = ps.length := by rw [← r2.length, ← ru.length, hlu]
  exact FF.run X.A X.stack s1 H2 ⟨us, []⟩ (us ++ []) vs Q2 _ hr e2 (hb s1 us I1.kIn hlen) r2 ⟨B, ρ1, expL uu, st1, by rw [expL_length, hlu], S2, ru2, p2⟩
/-- f(..), f a function that the running frame made -/
def mCallO (kc n : Nat) (Fc : List U → SemF) (i : Nat) (fs : SemA) : SemE := fun en st => match en[i]? with
  | some (some (.clo _ k' caps)) => if k' = kc then (fs en st).bind fun us st => if stClo st = false ∧ hasCloL us = false ∧ hasCloL caps = false ∧ us.length = n then cleanR (Fc caps us st) else .bad else .bad
  | _ => .bad
mutual
theorem expU_no : ∀ {u : U}, hasClo u = false → expU u = u
  | .d _, _ => rfl
  | .ref _, _ => rfl
  | .fn _, _ => rfl
  | .clo _ _ _, h => by simp [hasClo] at h
  | .tup l, h => by
    simp only [hasClo] at h
    simp only [expU, expL_no h]
theorem expL_no : ∀ {u : List U}, hasCloL u = false → expL u = u
  | [], _ => rfl
  | u :: r, h => by
    simp only [hasCloL, Bool.or_eq_false_iff] at h
    simp only [expL, expU_no h.1, expL_no h.2]
end
theorem run_o {kc n : Nat} {Fc : List U → SemF} {pins : List (Addr × Obj)} {σ : L2.St} {H : Hp} {s : Shared} {Q : VK} {us : List Value} {vs : List V} {B ρ : List Addr} {en : Nv} {st : Sto} {uu caps : List U} {a : Addr} {ow : Bool} (C : COk X.prog X.w X.K X.mg X.base G k kc n Fc) (hr : RoomG k X.A) (CN : CellsNew X)
    (I : L2.Inv X pins σ H s) (r : Vals vs us) (R : Rel (ownV X) G B ρ en st σ H) (ru : RepUs G (vis B ρ H) ρ (ownV X σ) uu vs) (rg : RepU G (vis B ρ H) ρ (ownV X σ) (.clo ow kc caps) (.ref a))
    (h : PostE (ownV X) G W B ρ en σ H (fun u ρ' H' _ => ∀ v, RepU G (vis B ρ' H') ρ' (ownV X σ) u v → Q v H') (if stClo st = false ∧ hasCloL uu = false ∧ hasCloL caps = false ∧ uu.length = n then cleanR (Fc caps uu st) else .bad)) : wpAny (model X.prog X.w) X.A (call (.ref a) us) (EP X pins σ Q) X.xe s := by
  split at h
  case isFalse => exact h.elim
  rename_i hno
  obtain ⟨z1, z2, z3, z4⟩ := hno
  refine run_exp (uu := .clo ow kc caps :: uu) (vs := .ref a :: vs) CN I R z1 (.cons rg ru) h fun H2 Q2 e2 S2 ru2 p2 => ?_
  simp only [expL, expU, expL_no z2, expL_no z3] at ru2
  cases ru2 with
  | cons r1 r2 =>
    cases r1 with
    | cloH q1 q2 q3 q4 q5 q6 => exact C.run X.A X.stack s H2 a _ _ _ caps uu _ vs us B ρ st Q2 _ hr e2 q1 q2 q3 q4 q5 q6 r z4 S2 r2 z2 z1 z3 p2
theorem own_fnAt {B ρ : List Addr} {pins : List (Addr × Obj)} {σ : L2.St} {H : Hp} {s : Shared} {ow : Bool} {kc : Nat} {caps : List U} {v : V} (I : L2.Inv X pins σ H s) (r : RepU G (vis B ρ H) ρ (ownV X σ) (.clo ow kc caps) v) : ∃ a, v = .ref a ∧ PySem.W.FnAt a s.heap := by
  cases r with
  | cloO h1 h2 h3 h4 h5 h6 =>
    obtain ⟨⟨od, sl, doc, pm, ctv, ho⟩, _, _⟩ := I.hok _ _ (vis_some h2).2.2
    exact ⟨_, rfl, _, od, _, sl, ho⟩
  | cloH h1 h2 h3 h4 h5 h6 =>
    obtain ⟨⟨od, sl, doc, pm, ctv, ho⟩, _, _⟩ := I.hok _ _ (vis_some h2).2.2
    exact ⟨_, rfl, _, od, _, sl, ho⟩
theorem se_callO {kc n : Nat} {Fc : List U → SemF} {fs : SemA} (C : COk X.prog X.w X.K X.mg X.base G k kc n Fc) (hr : RoomG k X.A) (CN : CellsNew X) (hN : X.N[i]? = some x) (hv : Vis X.env.scope x) (ha : SA X (ownV X) G W (e :: es) fs)
    (hd : (x == ("__debug__" : Str)) = false := by decide) (hcd : (x == ("__classdict__" : Str)) = false := by decide)
    (he : starEach (e :: es) X.env = (false, eval e X.env) :: starEach es X.env := by rfl) (hpl : (backTo pos (starEach es X.env)).any (·.1) = false := by rfl) :
    SE X (ownV X) G W (.Call (.Name x p) (e :: es) [] pos) (mCallO kc n Fc i fs) := by
  refine ⟨fun pins s σ H Q I ⟨B, ρ, en, st, R, h⟩ => ?_⟩
  unfold mCallO at h
  split at h
  case h_2 => exact h.elim
  rename_i ow k' caps hg
  split at h
  case isFalse => exact h.elim
  rename_i hkc
  subst hkc
  obtain ⟨v, hs, rv⟩ := R.env i _ hg
  refine wpAny_Call_Name_kw (thn ((pe_var (pos := p) hN hv hd hcd).run pins s σ H (fun v' H1 => v' = v ∧ H1 = H) I ⟨v, hs, rfl, rfl⟩) fun u s1 ⟨v', H1, I1, r1, q1⟩ => ?_)
  obtain ⟨ev, eH⟩ := q1
  subst ev
  subst eH
  obtain ⟨a, e1, fa⟩ := own_fnAt I1 rv
  subst e1
  obtain rfl : u = Value.ref a := r1
  have args := (ha : PA X _ _).run pos pins s1 σ H1 (fun vs H2 => ∃ ρ1 st1 us, Stp ρ H1 ρ1 H2 ∧ Rel (ownV X) G B ρ1 en st1 σ H2 ∧ RepUs G (vis B ρ1 H2) ρ1 (ownV X σ) us vs ∧
    PostE (ownV X) G W B ρ1 en σ H2 (fun u ρ' H' _ => ∀ v, RepU G (vis B ρ' H') ρ' (ownV X σ) u v → Q v H') (if stClo st1 = false ∧ hasCloL us = false ∧ hasCloL caps = false ∧ us.length = n then cleanR (Fc caps us st1) else .bad)) I1
    ⟨B, ρ, en, st, R, (PostE.bind h).mono fun us st1 ρ1 H1 eq s1 R1 h1 vs rvs => ⟨ρ1, st1, us, s1, R1, rvs, h1⟩⟩
  refine PySem.W.callWith_F (first := []) fa (thn args fun us s2 ⟨vs, H2, I2, r, ρ1, st1, uu, s12, R1, ru, h1⟩ => ?_) he hpl
  have rg := rv.stp s12
  obtain ⟨a', e1, fa'⟩ := own_fnAt I2 rg
  cases e1
  exact ⟨fa', run_o C hr CN I2 r R1 ru rg h1⟩
end
end TT
set_option Elab.async false
set_option linter.all false
set_option maxRecDepth 100000
set_option maxHeartbeats 2000000
/-! errors -/
namespace TT
open PySem PySem.Spec PyProof.Rows L2
/-- an __init__ that keeps what it is given as the field f -/
def initSp (K : PySem.W.Frag) (f : Str) : Sp := fun vs H Q E => ∃ (a C : Addr) (y : V), vs = [.ref a, y] ∧ OexC K C ∧ PySem.W.findIn K (.ref C) f = some none ∧ H a = some (exo a C none) ∧ ∀ dx, H dx = none → dx ≠ a → Q .non (upd (upd H dx (exd dx [(f, y)])) a (exo a C (some dx)))
theorem init_ok {P : Program} {w : World} {K : PySem.W.Frag} {mg : Str → Option Value} {base : Heap} {x qual f sn pn : Str} {st : Stmt} {fI : Addr} {fd : FuncData} {N : List Str} {p1 p2 p3 p4 : Pos} (F : Fun K x qual st fI fd) (S : FnScope N [sn, pn] (defScope st)) (h0 : N[0]? = some sn) (h1 : N[1]? = some pn)
    (hst : defBody st = [.Assign [.Attribute (.Name sn p1) f p2] (.Name pn p3) p4]) (hv0 : Vis (defScope st) sn) (hv1 : Vis (defScope st) pn) (hsw : ∀ env : Env, swapsWith (.Name pn p3) (some (.Attribute (.Name sn p1) f p2)) p4.line env = pure false) (d0 : (sn == ("__debug__" : Str)) = false) (c0 : (sn == ("__classdict__" : Str)) = false) (d1 : (pn == ("__debug__" : Str)) = false) (c1 : (pn == ("__classdict__" : Str)) = false) :
    FnOk P w K mg base (L2.CX P w) 1 fI fd [sn, pn] (initSp K f) := by
  refine F.okX S (fun vs H Q E ⟨a, C, y, e, _⟩ => by rw [e]; rfl) fun cdv A outer s H vs Q E hr ⟨a, C, y, e, T, hno, ha, hq⟩ => ?_
  subst e
  refine ⟨_, by rw [hst]; exact pss_one (ps_ost (pe_var (i := 0) h0 hv0 d0 c0) (pe_var (i := 1) h1 hv1 d1 c1) (hsw _)), ?_⟩
  exact ⟨y, rfl, .ref a, rfl, a, C, rfl, T, hno, .inl ⟨ha, hq⟩⟩
section
variable {X : Cx} {oS : OwnS} {G : Gd} {W : WX}
def mRaise (c : Str) (fe : SemE) : SemS := fun en st => (fe en st).toS en fun u st => .exn c (some u) en st
theorem exc_hp {H : Hp} {a d C : Addr} {f : Str} {y : V} (ha : H a = none) (hd : H d = none) (hda : d ≠ a) :
    upd (del (upd (upd (upd H a (exo a C none)) d (exd d [(f, y)])) a (exo a C (some d))) a) d (.xd [(f, y)]) = upd H d (.xd [(f, y)]) := by
  funext b
  by_cases h1 : b = d
  · rw [h1, upd_same, upd_same]
  · rw [upd_ne h1, upd_ne h1]
    by_cases h2 : b = a
    · rw [h2, del_same, ha]
    · rw [del_ne h2, upd_ne h2, upd_ne h1, upd_ne h2]
theorem ss_raise {x f sn pn : Str} {C fI : Addr} {fd : FuncData} {e : Expr} {fe : SemE} {p pos pos' : Pos} (hx : G.clsA x = some C) (hfld : G.clsF x = f) (T : OexC X.K C) (iC : PySem.W.findIn X.K (.ref C) "__init__" = some (some (.ref fI))) (tI : PySem.W.typeIn X.K (.ref fI) = some (.type "function"))
    (hno : PySem.W.findIn X.K (.ref C) f = some none) (FI : FnOk X.prog X.w X.K X.mg X.base (L2.CX X.prog X.w) 1 fI fd [sn, pn] (initSp X.K f)) (hr : RoomG 2 X.A) (hb : Binds X.K fd [sn, pn] []) (hg : Gl X x) (hm : X.mg x = some (.ref C)) (hc : X.calm = true) (tk : Takes X W) (he : SE X oS G W e fe)
    (hdb : (x == ("__debug__" : Str)) = false := by decide) (hst : starEach (e :: []) X.env = (false, eval e X.env) :: starEach [] X.env := by rfl) : SS X oS G W (.Raise (some (.Call (.Name x p) [e] [] pos)) none pos') (mRaise x fe) := by
  refine PS.imp (ps_raise hc tk (pmk_oex T iC tI FI hr.room hb .nil passL hg hm (pa_cons he pa_nil hst) hdb hst (by rfl))) fun Dn σ H ⟨B, ρ, en, st, R, h⟩ => ?_
  refine ⟨B, ρ, en, st, R, postE_of R h fun u st1 ρ1 H1 s1 R1 h1 v rv => ?_⟩
  refine ⟨by show 1 ≤ 1000; decide, fun a ha => ⟨a, C, v, rfl, T, hno, upd_same, fun dx hdx hne => ⟨rfl, dx, [(f, v)], ?_, ?_, ?_, ?_⟩⟩⟩
  · exact upd_same
  · rw [upd_ne hne, upd_same]
  · rw [upd_ne hne] at hdx; exact hdx
  · rw [upd_ne hne] at hdx
    rw [exc_hp ha hdx hne]
    refine h1 ρ1 _ σ C (some dx) (Stp.laid hdx) (R1.laid hdx) ⟨hx, dx, v, rfl, by rw [hfld]; exact upd_same, rv.stp (Stp.laid hdx)⟩
end
/-! ## try -/
section
variable {X : Cx} {oS : OwnS} {G : Gd}
abbrev HdT := Addr → Value → Option Addr → TS
/-- what the clauses wish -/
def wHs (K : PySem.W.Frag) (Wout : WX) (D : Ends) : List (Value × Option Nat × HdT) → WX
  | [] => Wout
  | (c, none, ts) :: r => fun cls d σ H => ∃ b, PySem.W.exmOne K cls c = some b ∧ (b = true → ∀ a, H a = none → ts a cls d D σ H) ∧ (b = false → wHs K Wout D r cls d σ H)
  | (c, some i, ts) :: r => fun cls d σ H => ∃ b, PySem.W.exmOne K cls c = some b ∧
      (b = true → ∀ a, H a = none → ts a cls d { nx := fun σ' H' => D.nx (σ'.set i none) H', rt := D.rt, bk := fun σ' H' => D.bk (σ'.set i none) H', ct := fun σ' H' => D.ct (σ'.set i none) H' } (σ.set i (some (.ref a))) H) ∧ (b = false → wHs K Wout D r cls d σ H)
inductive HsT (X : Cx) : List ExceptHandler → List (Value × Option Nat × HdT) → Prop
  | nil : HsT X [] []
  | cons {x : Str} {c : Value} {ts : HdT} {b₀ : Stmt} {suite : List Stmt} {np pos' : Pos} {hds : List ExceptHandler} {l : List (Value × Option Nat × HdT)} (hc : Names X x c)
      (hsu : ∀ (a : Addr) (oe : Obj) (cls : Value) (d : Option Addr) (pn : List (Addr × Obj)), Zc cls d oe → (∃ vs, oe.data = .fields vs) → PSs (X.suite a ((a, oe) :: pn)) (b₀ :: suite) (ts a cls d)) (r : HsT X hds l) :
      HsT X (.ExceptHandler (some (.Name x np)) none (b₀ :: suite) pos' :: hds) ((c, none, ts) :: l)
  | as {x n : Str} {i : Nat} {c : Value} {ts : HdT} {b₀ : Stmt} {suite : List Stmt} {np pos' : Pos} {hds : List ExceptHandler} {l : List (Value × Option Nat × HdT)} (hc : Names X x c) (hi : X.N[i]? = some n) (hln : X.env.kindOf n = some .local)
      (hsu : ∀ (a : Addr) (oe : Obj) (cls : Value) (d : Option Addr) (pn : List (Addr × Obj)), Zc cls d oe → (∃ vs, oe.data = .fields vs) → PSs (X.suite a ((a, oe) :: pn)) (b₀ :: suite) (ts a cls d)) (r : HsT X hds l) :
      HsT X (.ExceptHandler (some (.Name x np)) (some n) (b₀ :: suite) pos' :: hds) ((c, some i, ts) :: l)
theorem ps_try_hs {body : List Stmt} {h₀ : ExceptHandler} {hds : List ExceptHandler} {l : List (Value × Option Nat × HdT)} {pos : Pos} {tb : WX → TS} {Wout : WX} (hN : X.N.Nodup) (hs : X.stack = X.env :: X.outer) (hf : X.env.frame = some X.env.locals) (tk : Takes X Wout)
    (hb : ∀ (W : WX) (pn : List (Addr × Obj)) (xe : Value → Shared → Prop), Takes (X.tr pn xe) W → PassesOwn (model X.prog X.w) X.A X.env xe → PSs (X.tr pn xe) body (tb W))
    (hh : HsT X (h₀ :: hds) l) : PS X (.Try body (h₀ :: hds) [] [] pos) (fun D σ H => tb (wHs X.K Wout D l) D σ H) := by
  refine ⟨fun pins s σ H D I h => ?_⟩
  have ok := I.ok
  have hfr : X.A.frames = some (X.env :: X.outer) := by rw [ok.frames, hs]
  refine wpAny_Try_except (wpAny_mono ((hb (wHs X.K Wout D l) (X.pn ++ pins) (fun e s₁ => wpAny (model X.prog X.w) X.A (noteFrame e X.env) (fun _ s₂ => wpAny (model X.prog X.w) X.A (setFlight e none) (fun _ s₃ =>
    wpAny (model X.prog X.w) X.A (handleBy e X.env (h₀ :: hds)) (SP X pins D) X.xe s₃) X.xe s₂) X.xe s₁) (fun u s' xx => ?_) PassesOwn.looking).run [] s σ H D (I.toTry _) h) (fun f s1 hsp => ?_) (fun e s1 he => he))
  · obtain ⟨a, B, sI, pins', σ', H', cls, d, rfl, J', nb, up, sky, na, os, ag, w⟩ := xx
    have J : Inv X pins σ' H' sI := J'.ofTry ok
    show wpAny (model X.prog X.w) X.A (noteFrame (.ref a) X.env) _ _ _
    refine Sky.land Zc.steady hfr hf (by rw [← hs]; exact sky : Sky B (X.env :: X.outer) a (Zc cls d) X.env.locals s'.heap) fun h3 fl3 up3 => ?_
    have J3 : Inv X pins σ' H' { s' with heap := h3 } := J.landed nb fl3.1 (up.trans up3) os ag
    obtain ⟨oe3, vs3, he3, hz3, hd3⟩ := fl3.there
    have nfr : a ∉ frs (X.env :: X.outer) := fun hm => by
      obtain ⟨_, o', e', hnf⟩ := fl3.2.2.1.mem hm
      rw [he3] at e'
      cases e'
      exact hnf _ hd3
    have nL : a ≠ X.env.locals := fun z => nfr (List.mem_filterMap.mpr ⟨X.env, List.mem_cons_self, by rw [hf, z]⟩)
    have nF : a ∉ X.fs := fun hm => by
      obtain ⟨e, he, q⟩ := List.mem_filterMap.mp hm
      exact nfr (List.mem_filterMap.mpr ⟨e, List.mem_cons_of_mem _ he, q⟩)
    have S3 := J3.suite he3 hd3 na nL nF
    have LT : PySem.W.Looks (model X.prog X.w) h3 (typeOf (.ref a)) cls := fun A Q E s k q => wpAny_typeOf_ref (k _ _ he3) (by rw [hz3.1]; exact q)
    have test : ∀ {x : Str} {c : Value} {np : Pos}, Names X x c → ∀ {Q : Value → Shared → Prop} {E : Value → Shared → Prop}, Q c { s' with heap := h3 } → wpAny (model X.prog X.w) (X.A.mark (some (.ref a))) (eval (.Name x np) X.env) Q E { s' with heap := h3 } := fun {x c np} hc {Q E} q => by
      obtain ⟨hg, hdbg, hm | ⟨hm, hv, hnn⟩⟩ := hc
      · exact ld_glob (X := X.suite a ((a, oe3) :: (X.pn ++ pins))) S3 hg hm q hdbg
      · exact ld_blt (X := X.suite a ((a, oe3) :: (X.pn ++ pins))) S3 hg hm hv q hnn hdbg
    have go : ∀ {hds' : List ExceptHandler} {l' : List (Value × Option Nat × HdT)}, HsT X hds' l' → wHs X.K Wout D l' cls d σ' H' → wpAny (model X.prog X.w) X.A (handleBy (.ref a) X.env hds') (SP X pins D) X.xe { s' with heap := h3 } := by
      intro hds' l' hk
      induction hk with
      | nil =>
        intro w
        refine wpAny_handleBy_nil ?_
        obtain ⟨k1, k2, k3, oe, vs, T, oT, ts', he, hz, hd, h1, hr⟩ := id fl3
        unfold PySem.passOn
        refine wpAny_bind (wpAny_field he hd h1 ?_)
        rw [if_neg (show ¬ ((Value.ref T == Value.none) = true) from by simp)]
        have fin : wpAny (model X.prog X.w) X.A (setFlight (.ref a) X.env.frame) (fun _ s4 => wpAny (model X.prog X.w) X.A (throw (.ref a) : Sem Flow) (SP X pins D) X.xe s4) X.xe { s' with heap := h3 } := by
          rw [hf]
          refine HandSPX.setFlight_upZ fl3 fun h4 hh4 up4 => wpAny_throw (tk _ _ ?_)
          exact ⟨a, B, sI, pins, σ', H', cls, d, rfl, J, nb, (up.trans up3).trans up4, .inr (.inr (by rw [hs]; exact hh4)), na, os, ag, w⟩
        first
          | exact wpAny_bind (wpAny_pure (wpAny_bind fin))
          | exact wpAny_bind fin
      | @cons x c ts b₀ suite np pos' hds2 l2 hc hsu r ih =>
        intro w
        obtain ⟨b, hb1, hyes, hno⟩ := w
        refine wpAny_handleBy_cons (codeAny_handlers_test (test hc ((PySem.W.exm_one (M := model X.prog X.w) (J3.kIn) LT hb1).here ?_))) (by intro q; cases q)
        cases b with
        | true =>
          refine codeAny_handlers_suite (HandSPX.lands_againZ fl3 fun h4 fl4 up4 => ?_)
          have J4 : Inv X pins σ' H' { s' with heap := h4 } := J.landed nb fl4.1 ((up.trans up3).trans up4) os ag
          obtain ⟨oe4, vs4, he4, hz4, hd4⟩ := fl4.there
          refine wpAny_mono ((hsu a oe4 cls d (X.pn ++ pins) hz4 ⟨_, hd4⟩).run [] _ _ H' _ (J4.suite he4 hd4 na nL nF) (hyes rfl a na)) (fun f s6 hsp => ?_) (fun _ _ z => False.elim z)
          cases f with
          | ret u =>
            obtain ⟨v6, σ6, H6, S6, r6, q6⟩ := hsp
            exact ⟨_, _, _, S6.unsuite ok, r6, q6⟩
          | next =>
            obtain ⟨σ6, H6, S6, q6⟩ := hsp
            exact ⟨_, _, S6.unsuite ok, q6⟩
          | brk =>
            obtain ⟨σ6, H6, S6, q6⟩ := hsp
            exact ⟨_, _, S6.unsuite ok, q6⟩
          | cont =>
            obtain ⟨σ6, H6, S6, q6⟩ := hsp
            exact ⟨_, _, S6.unsuite ok, q6⟩
        | false =>
          show wpAny _ X.A (handleBy (.ref a) X.env hds2) _ _ _
          exact ih (hno rfl)
      | @as x n i c ts b₀ suite np pos' hds2 l2 hc hi hln hsu r ih =>
        intro w
        obtain ⟨b, hb1, hyes, hno⟩ := w
        refine wpAny_handleBy_cons (codeAny_handlers_test (test hc ((PySem.W.exm_one (M := model X.prog X.w) (J3.kIn) LT hb1).here ?_))) (by intro q; cases q)
        cases b with
        | true =>
          refine codeAny_handlers_suite_as (HandSPX.lands_againZ fl3 fun h4 fl4 up4 => ?_)
          have J4 : Inv X pins σ' H' { s' with heap := h4 } := J.landed nb fl4.1 ((up.trans up3).trans up4) os ag
          obtain ⟨oe4, vs4, he4, hz4, hd4⟩ := fl4.there
          refine store_ok (X := X.suite a ((a, oe4) :: (X.pn ++ pins))) (v := .ref a) (J4.suite he4 hd4 na nL nF) hN hi (.inl hln : Loc X.env.scope n) rfl (fun s5 S5 => ?_) (.inr hln)
          refine wpAny_mono ((hsu a oe4 cls d (X.pn ++ pins) hz4 ⟨_, hd4⟩).run [] s5 _ H' _ S5 (hyes rfl a na)) (fun f s6 hsp => ?_) (fun _ _ z => False.elim z)
          have end_ : ∀ {σ6 : L2.St} {H6 : Hp} {Q : Shared → Prop}, Inv (X.suite a ((a, oe4) :: (X.pn ++ pins))) [] σ6 H6 s6 → (∀ s7, Inv X pins (σ6.set i none) H6 s7 → Q s7) →
              wpAny (model X.prog X.w) X.A (do bindName X.env n .none; unbindBehindTheSuite X.env n pos') (fun _ s7 => Q s7) X.xe s6 := fun {σ6 H6 Q} S6 hq => gone_ok (S6.unsuite ok) hN hi hln hq
          cases f with
          | ret u =>
            obtain ⟨v6, σ6, H6, S6, r6, q6⟩ := hsp
            exact end_ S6 fun s7 J7 => ⟨_, _, _, J7, r6, q6⟩
          | next =>
            obtain ⟨σ6, H6, S6, q6⟩ := hsp
            exact end_ S6 fun s7 J7 => ⟨_, _, J7, q6⟩
          | brk =>
            obtain ⟨σ6, H6, S6, q6⟩ := hsp
            exact end_ S6 fun s7 J7 => ⟨_, _, J7, q6⟩
          | cont =>
            obtain ⟨σ6, H6, S6, q6⟩ := hsp
            exact end_ S6 fun s7 J7 => ⟨_, _, J7, q6⟩
        | false =>
          show wpAny _ X.A (handleBy (.ref a) X.env hds2) _ _ _
          exact ih (hno rfl)
    exact go hh w
  · cases f with
    | ret u =>
      obtain ⟨v, σ', H', J', r, q⟩ := hsp
      exact ⟨v, σ', H', J'.ofTry ok, r, q⟩
    | next =>
      obtain ⟨σ', H', J', q⟩ := hsp
      exact wpAny_execs_nil ⟨σ', H', J'.ofTry ok, q⟩
    | brk =>
      obtain ⟨σ', H', J', q⟩ := hsp
      exact ⟨σ', H', J'.ofTry ok, q⟩
    | cont =>
      obtain ⟨σ', H', J', q⟩ := hsp
      exact ⟨σ', H', J'.ofTry ok, q⟩
end
end TT
set_option Elab.async false
set_option linter.all false
set_option maxRecDepth 100000
set_option maxHeartbeats 2000000
/-! try, as a function -/
namespace TT
open PySem PySem.Spec PyProof.Rows L2
abbrev HSem := Option U → SemS
abbrev HdM := (Str → Option Bool) × Option Nat × HSem
def goneI : Option Nat → RS → RS
  | none, r => r
  | some _, .rt u s => .rt u s
  | some _, _ => .bad
def fitI : Option Nat → Nv → Bool
  | none, _ => true
  | some i, en => decide (i < en.length)
def runHs : List HdM → Str → Option U → Nv → Sto → RS
  | [], c, u, en, st => .exn c u en st
  | (mt, oi, hf) :: r, c, u, en, st => match mt c with
    | some true => if fitI oi en = true then goneI oi (hf u en st) else .bad
    | some false => runHs r c u en st
    | none => .bad
def mTry (fb : SemS) (hs : List HdM) : SemS := fun en st => match fb en st with
  | .exn c u e s => runHs hs c u e s
  | r => r
abbrev Wn : WX := fun _ _ _ _ => False
section
variable {X : Cx} {oS : OwnS} {G : Gd} {W : WX}
inductive HsR (X : Cx) (oS : OwnS) (G : Gd) : List HdM → List (Value × Option Nat × HdT) → Prop
  | nil : HsR X oS G [] []
  | cons {mt : Str → Option Bool} {hf : HSem} {c : Value} {ts : HdT} {ms : List HdM} {l : List (Value × Option Nat × HdT)} (hm : ∀ cn C b, G.clsA cn = some C → mt cn = some b → PySem.W.exmOne X.K (.ref C) c = some b)
      (rd : ∀ (a : Addr) (cn : Str) (C : Addr) (d : Option Addr) (u : Option U) (B ρ : List Addr) (en : Nv) (st : Sto) (σ : L2.St) (H : Hp) (D : Ends), mt cn = some true → ExcR oS G B ρ σ H cn u C d → H a = none → Rel oS G B ρ en st σ H → PostS oS G Wn B ρ H D (hf u en st) → ts a (.ref C) d D σ H) (r : HsR X oS G ms l) :
      HsR X oS G ((mt, none, hf) :: ms) ((c, none, ts) :: l)
  | as {i : Nat} {mt : Str → Option Bool} {hf : HSem} {c : Value} {ts : HdT} {ms : List HdM} {l : List (Value × Option Nat × HdT)} (hm : ∀ cn C b, G.clsA cn = some C → mt cn = some b → PySem.W.exmOne X.K (.ref C) c = some b)
      (rd : ∀ (a : Addr) (cn : Str) (C : Addr) (d : Option Addr) (u : Option U) (B ρ : List Addr) (en : Nv) (st : Sto) (σ : L2.St) (H : Hp) (D : Ends), mt cn = some true → i < σ.length → ExcR oS G B ρ σ H cn u C d → H a = none → Rel oS G B ρ en st σ H → PostS oS G Wn B ρ H D (goneI (some i) (hf u en st)) →
        ts a (.ref C) d { nx := fun σ' H' => D.nx (σ'.set i none) H', rt := D.rt, bk := fun σ' H' => D.bk (σ'.set i none) H', ct := fun σ' H' => D.ct (σ'.set i none) H' } (σ.set i (some (.ref a))) H) (r : HsR X oS G ms l) :
      HsR X oS G ((mt, some i, hf) :: ms) ((c, some i, ts) :: l)
theorem PostS.noW {B ρ : List Addr} {H : Hp} {D : Ends} {r : RS} {W' : WX} (h : PostS oS G W B ρ H D (goneI (some 0) r)) : PostS oS G W' B ρ H D (goneI (some 0) r) := by
  cases r with
  | rt u s => exact h
  | nx e s => exact h.elim
  | bk e s => exact h.elim
  | ct e s => exact h.elim
  | exn c u e s => exact h.elim
  | bad => exact h.elim
/-- a suite that lets nothing out -/
def noExn : RS → RS
  | .exn _ _ _ _ => .bad
  | r => r
theorem PostS.ofNo {B ρ : List Addr} {H : Hp} {D : Ends} {r : RS} {W' : WX} (h : PostS oS G W B ρ H D (noExn r)) : PostS oS G W' B ρ H D r := by
  cases r with
  | rt u s => exact h
  | nx e s => exact h
  | bk e s => exact h
  | ct e s => exact h
  | exn c u e s => exact h.elim
  | bad => exact h.elim
theorem hs_read {ms : List HdM} {l : List (Value × Option Nat × HdT)} (k : HsR X oS G ms l) (hno : ∀ m ∈ ms, m.2.1 = none → ∀ u en st r, m.2.2 u en st = r → noExn r = r) : ∀ {c : Str} {C : Addr} {d : Option Addr} {u : Option U} {B ρ : List Addr} {en : Nv} {st : Sto} {σ : L2.St} {H : Hp} {D : Ends}, ExcR oS G B ρ σ H c u C d → Rel oS G B ρ en st σ H →
    PostS oS G W B ρ H D (runHs ms c u en st) → wHs X.K W D l (.ref C) d σ H := by
  induction k with
  | nil =>
    intro c C d u B ρ en st σ H D hx R h
    exact h ρ H σ C d (Stp.refl _ _) R hx
  | @cons mt hf cv ts ms l hm rd r ih =>
    intro c C d u B ρ en st σ H D hx R h
    unfold runHs at h
    split at h
    · rename_i e
      rw [show fitI none en = true from rfl, if_pos rfl] at h
      refine ⟨true, hm c C true hx.1 e, fun _ a ha => rd a c C d u B ρ en st σ H D e hx ha R ?_, fun z => nomatch z⟩
      have q := hno _ (List.mem_cons_self ..) rfl u en st _ rfl
      have h2 : PostS oS G W B ρ H D (noExn (hf u en st)) := by rw [q]; exact h
      exact h2.ofNo
    · rename_i e
      exact ⟨false, hm c C false hx.1 e, fun z => (nomatch z), fun _ => ih (fun m hm => hno m (List.mem_cons_of_mem _ hm)) hx R h⟩
    · exact h.elim
  | @as i mt hf cv ts ms l hm rd r ih =>
    intro c C d u B ρ en st σ H D hx R h
    unfold runHs at h
    split at h
    · rename_i e
      split at h
      case isFalse => exact h.elim
      rename_i hfit
      have hfit : i < en.length := by simpa [fitI] using hfit
      refine ⟨true, hm c C true hx.1 e, fun _ a ha => rd a c C d u B ρ en st σ H D e (by rw [← R.len]; exact hfit) hx ha R ?_, fun z => nomatch z⟩
      cases q : hf u en st with
      | rt u s => rw [q] at h; exact h
      | nx e s => rw [q] at h; exact h.elim
      | bk e s => rw [q] at h; exact h.elim
      | ct e s => rw [q] at h; exact h.elim
      | exn c u e s => rw [q] at h; exact h.elim
      | bad => rw [q] at h; exact h.elim
    · rename_i e
      exact ⟨false, hm c C false hx.1 e, fun z => (nomatch z), fun _ => ih (fun m hm => hno m (List.mem_cons_of_mem _ hm)) hx R h⟩
    · exact h.elim
/-- try: body / except ..: .. -/
theorem ss_try {body : List Stmt} {h₀ : ExceptHandler} {hds : List ExceptHandler} {l : List (Value × Option Nat × HdT)} {ms : List HdM} {fb : SemS} {pos : Pos} (hN : X.N.Nodup) (hs : X.stack = X.env :: X.outer) (hf : X.env.frame = some X.env.locals) (tk : Takes X W)
    (hb : ∀ (W : WX) (pn : List (Addr × Obj)) (xe : Value → Shared → Prop), Takes (X.tr pn xe) W → PassesOwn (model X.prog X.w) X.A X.env xe → SL (X.tr pn xe) oS G W body fb)
    (hh : HsT X (h₀ :: hds) l) (hr : HsR X oS G ms l) (hno : ∀ m ∈ ms, m.2.1 = none → ∀ u en st r, m.2.2 u en st = r → noExn r = r) : SS X oS G W (.Try body (h₀ :: hds) [] [] pos) (mTry fb ms) := by
  refine PS.imp (ps_try_hs hN hs hf tk hb hh) fun Dn σ H ⟨B, ρ, en, st, R, h⟩ => ?_
  refine ⟨B, ρ, en, st, R, ?_⟩
  unfold mTry at h
  cases q : fb en st with
  | exn c u e s =>
    rw [q] at h
    intro ρ' H' σ' C d s' R' hx
    exact hs_read hr hno hx R' (PostS.step s' h)
  | rt u s => rw [q] at h; exact h
  | nx e s => rw [q] at h; exact h
  | bk e s => rw [q] at h; exact h
  | ct e s => rw [q] at h; exact h
  | bad => rw [q] at h; exact h
/-- except ..: suite -/
def tSuite (oS : OwnS) (G : Gd) (f : SemS) : HdT := fun _ _ _ => rdS oS G Wn f
theorem hsr_plain {mt : Str → Option Bool} {f : SemS} {c : Value} {ms : List HdM} {l : List (Value × Option Nat × HdT)} (hm : ∀ cn C b, G.clsA cn = some C → mt cn = some b → PySem.W.exmOne X.K (.ref C) c = some b) (r : HsR X oS G ms l) :
    HsR X oS G ((mt, none, fun _ => f) :: ms) ((c, none, tSuite oS G f) :: l) :=
  .cons hm (fun a cn C d u B ρ en st σ H D _ hx ha R h => ⟨B, ρ, en, st, R, h⟩) r
/-- except .. as e: return [s, e.f] -/
def hRet2 (s : Str) : HSem := fun u _ st => match u with
  | some (.d x) => .rt (.d (.list [.str s, x])) st
  | _ => .bad
def tRet2 (X : Cx) (i : Nat) (s f : Str) : HdT := fun a cls d D σ H => ∃ C dd v, cls = .ref C ∧ XfC X.K C ∧ PySem.W.findIn X.K (.ref C) f = some none ∧ d = some dd ∧ H dd = some (.xd [(f, v)]) ∧ σ[i]? = some (some (.ref a)) ∧ ∀ p, H p = none → D.rt (.ref p) (upd H p (.lst [.str s, v]))
theorem pss_ret2 {i j : Nat} {n s f : Str} {a : Addr} {oe : Obj} {cls : Value} {d : Option Addr} {pn : List (Addr × Obj)} {p1 p2 p3 p4 p5 : Pos} (hN : X.N[i]? = some n) (hv : Vis X.env.scope n) (hz : Zc cls d oe) (hf : ∃ vs, oe.data = .fields vs) (hb : attributeBase (.Name n p2) f X.env (eval (.Name n p2) X.env) = eval (.Name n p2) X.env)
    (hd : (n == ("__debug__" : Str)) = false := by decide) (hcd : (n == ("__classdict__" : Str)) = false := by decide) :
    PSs (X.suite a ((a, oe) :: pn)) [.Return (some (.List [.Constant (.str s) j p1, .Attribute (.Name n p2) f p3] p4)) p5] (tRet2 X i s f a cls d) := by
  refine ⟨fun pins st σ H D I ⟨C, dd, v, e1, T, hno, e2, hH, hs, h⟩ => ?_⟩
  refine (pss_one (ps_ret (pe_lst (pa_cons pe_str (pa_cons (pe_xf (C := C) (n := f) T hno hz hf (pe_var (i := i) hN hv hd hcd) hb) pa_nil))))).run pins st σ H D I ?_
  refine ⟨.ref a, hs, rfl, e1, dd, [(f, v)], v, e2, hH, by simp [List.lookup], by show 2 ≤ sizeLine; rw [sizeLine_eq]; decide, h⟩
theorem hsr_ret2 {i : Nat} {s f : Str} {mt : Str → Option Bool} {c : Value} {ms : List HdM} {l : List (Value × Option Nat × HdT)} (hm : ∀ cn C b, G.clsA cn = some C → mt cn = some b → PySem.W.exmOne X.K (.ref C) c = some b) (hx : ∀ cn C, G.clsA cn = some C → mt cn = some true → XfC X.K C ∧ PySem.W.findIn X.K (.ref C) f = some none ∧ G.clsF cn = f) (r : HsR X oS G ms l) :
    HsR X oS G ((mt, some i, hRet2 s) :: ms) ((c, some i, tRet2 X i s f) :: l) := by
  refine .as hm (fun a cn C d u B ρ en st σ H D e hi hxc ha R h => ?_) r
  obtain ⟨z1, z2, z3⟩ := hx cn C hxc.1 e
  cases u with
  | none => exact h.elim
  | some u =>
    obtain ⟨_, dd, v, e1, e2, rv⟩ := hxc
    rw [z3] at e2
    refine ⟨C, dd, v, rfl, z1, z2, e1, e2, by rw [List.getElem?_set_self hi], fun p hp => ?_⟩
    cases u with
    | d x =>
      have f := R.sto.fresh hp
      cases rv with
      | d rv =>
        refine h ρ _ σ (.ref p) (Stp.laid hp) (R.laid hp).sto (.d (.list (.inl (vis_of f.1 f.2 upd_same)) (by show 2 ≤ sizeLine; rw [sizeLine_eq]; decide) (.cons (.str s) (.cons (rv.le (Stp.laid hp).le) .nil))))
    | ref n => exact h.elim
    | fn n => exact h.elim
    | clo n k l => exact h.elim
    | tup l => exact h.elim
end
end TT
set_option Elab.async false
set_option linter.all false
set_option maxRecDepth 100000
set_option maxHeartbeats 2000000
/-! texts' methods, repr, keywords -/
namespace TT
open PySem PySem.Spec PyProof.Rows L2
section
variable {X : Cx} {oS : OwnS} {G : Gd} {W : WX}
/-! ### repr -/
def isSq : D → Bool
  | .list _ => true
  | .tuple _ => true
  | _ => false
def gRepr : List U → Sto → Res U
  | [.d x], st => if x.canLay0 = true ∧ x.showable = true ∧ x.hasDict = false ∧ x.shown.length ≤ sizeLine ∧ x.depth < 100 ∧ isSq x = true then .ok (.d (.str x.shown)) st else .bad
  | _, _ => .bad
def rRepr (K : PySem.W.Frag) : List V → Hp → VK → Prop := fun xs H Q => ∃ a d, xs = [.ref a] ∧ Dp K H (.ref a) d ∧ d.showable = true ∧ d.hasDict = false ∧ d.shown.length ≤ sizeLine ∧ d.depth < 100 ∧ Q (.str d.shown) H
theorem call_repr {k : Nat} (hr : RoomG k X.A) : CallR X (.builtin "repr") (rRepr X.K) := by
  intro pins s σ H xs us Q I rs h
  obtain ⟨a, d, rfl, hd, h1, h2, h3, h4, q⟩ := h
  cases rs with
  | cons r rs =>
    cases rs
    obtain rfl : _ = Value.ref a := r
    obtain ⟨as, rd⟩ := Dp.reads I d _ _ hd rfl
    have hu := hr.room.un
    refine PySem.repr_of_reads' rd h1 (fun z => by rw [h2] at z; cases z) hr.g (by omega) (fun _ _ e => e) (fun h' u tk k => ?_) h3
    exact ⟨.str d.shown, H, I.kept k, ⟨u, rfl⟩, q⟩
theorem cs_repr : CallS oS G W (rRepr G.K) gRepr := by
  intro B ρ en st σ H us vs Q R r h
  unfold gRepr at h
  split at h
  · rename_i x
    split at h
    · rename_i hx
      obtain ⟨h0, h1, h2, h3, h4, h5⟩ := hx
      cases r with
      | cons a b =>
        cases b
        cases a with
        | d a =>
          have hp := RepD.dp (a.le vis_le) h0
          have q := h ρ H (Stp.refl _ _) R (.str x.shown) (.d (.str _))
          cases x with
          | list l => cases a with
            | list s z r => exact ⟨_, _, rfl, hp, h1, h2, h3, h4, q⟩
          | tuple l => cases a with
            | tuple s z r => exact ⟨_, _, rfl, hp, h1, h2, h3, h4, q⟩
          | none => cases h5
          | bool b => cases h5
          | int b => cases h5
          | str b => cases h5
          | dict b => cases h5
    · exact h.elim
  · exact h.elim
/-! ### methods of texts -/
def strsOf : List U → Option (List Str)
  | [] => some []
  | .d (.str x) :: r => (match strsOf r with
    | some l => some (x :: l)
    | none => none)
  | _ :: _ => none
theorem strsOf_rep {H : Hp} {ρ : List Addr} {own : OwnV} : ∀ {us : List U} {vs : List V} {l : List Str}, RepUs G H ρ own us vs → strsOf us = some l → vs = l.map V.str
  | _, _, _, .nil, h => by cases h; rfl
  | _, _, _, .cons (d := u) a b, h => by
    cases u with
    | d x =>
      cases x with
      | str x =>
        unfold strsOf at h
        split at h
        · rename_i l' e
          cases h
          cases a with
          | d a =>
            cases a
            rw [strsOf_rep b e]
            rfl
        · cases h
      | none => cases h
      | bool _ => cases h
      | int _ => cases h
      | list _ => cases h
      | tuple _ => cases h
      | dict _ => cases h
    | ref _ => cases h
    | fn _ => cases h
    | clo _ _ _ => cases h
    | tup _ => cases h
def mM1 (g : Str → U → Sto → Res U) (fo fe : SemE) : SemE := fun en st => (fo en st).bind fun u st => match u with
  | .d (.str x) => (fe en st).bind fun w st => g x w st
  | _ => .bad
def M1S (oS : OwnS) (G : Gd) (W : WX) (r : V → List V → Hp → VK → Prop) (g : Str → U → Sto → Res U) : Prop :=
  ∀ (B ρ : List Addr) (en : Nv) (st : Sto) (σ : L2.St) (H : Hp) (x : Str) (w : U) (y : V) (Q : VK), Rel oS G B ρ en st σ H → RepU G (vis B ρ H) ρ (oS σ) w y →
    PostE oS G W B ρ en σ H (fun u ρ' H' _ => ∀ v, RepU G (vis B ρ' H') ρ' (oS σ) u v → Q v H') (g x w st) → r (.str x) [y] H Q
theorem rd_M1 {r : V → List V → Hp → VK → Prop} {g : Str → U → Sto → Res U} {fo fe : SemE} (hg : M1S oS G W r g) {σ : L2.St} {H : Hp} {Q : VK} (h : rdE oS G W (mM1 g fo fe) σ H Q) : tM1 r (rdE oS G W fo) (rdE oS G W fe) σ H Q := by
  obtain ⟨B, ρ, en, st, R, h⟩ := h
  refine ⟨B, ρ, en, st, R, (PostE.bind h).mono fun u st1 ρ1 H1 _ s1 R1 h1 v rv => ?_⟩
  split at h1
  · cases rv with
    | d rv =>
      cases rv
      refine ⟨⟨_, rfl⟩, B, ρ1, en, st1, R1, (PostE.bind h1).mono fun w st2 ρ2 H2 _ s2 R2 h2 y ry => ?_⟩
      exact hg B ρ2 en st2 σ H2 _ w y Q R2 ry h2
  · exact h1.elim
/-- sep.join(l) -/
def gJoin : Str → U → Sto → Res U := fun x u st => match seqOf st u with
  | some l => (match strsOf l with
    | some ys => if (ys.map (·.length)).sum + ys.length * x.length ≤ 16777216 then .ok (.d (.str (Txt.join x ys))) st else .bad
    | none => .bad)
  | none => .bad
theorem se_join (hK : X.K = G.K) {o e : Expr} {fo fe : SemE} {apos pos : Pos} (ho : SE X oS G W o fo) (he : SE X oS G W e fe) (hs : starEach [e] X.env = [(false, eval e X.env)] := by rfl) (hbase : attributeBase o "join" X.env (eval o X.env) = eval o X.env := by rfl) (hline : (apos.endLine == pos.line) = true := by rfl) :
    SE X oS G W (.Call (.Attribute o "join" apos) [e] [] pos) (mM1 gJoin fo fe) := by
  refine PE.imp (pe_join ho he hs hbase hline) fun σ H Q h => rd_M1 (fun B ρ en st σ H x w y Q R ry h2 => ?_) h
  unfold gJoin at h2
  split at h2
  · rename_i l el
    split at h2
    · rename_i ys ey
      split at h2
      · rename_i hz
        obtain ⟨p, ws, rfl, sq, rs, _⟩ := seq_rep R ry el
        have e := strsOf_rep rs ey
        rw [e, ← hK] at sq
        exact ⟨x, p, ys, rfl, rfl, sq.elim (fun z => .inl (.inl z)) .inr, hz, h2 ρ H (Stp.refl _ _) R _ (.d (.str _))⟩
      · exact h2.elim
    · exact h2.elim
  · exact h2.elim
theorem strs_reps {K : PySem.W.Frag} {H : Hp} : ∀ (l : List Str), RepDs K H (l.map PyData.str) (l.map V.str)
  | [] => .nil
  | x :: r => .cons (.str x) (strs_reps r)
/-- x.split(sep) -/
def gSplit : Str → U → Sto → Res U := fun x u st => match u with
  | .d (.str b) => if (b.length == 0) = false ∧ x.length + 2 ≤ sizeLine then .ok (.d (.list ((Txt.split x b).map PyData.str))) st else .bad
  | _ => .bad
theorem se_split {o e : Expr} {fo fe : SemE} {apos pos : Pos} (ho : SE X oS G W o fo) (he : SE X oS G W e fe) (hs : starEach [e] X.env = [(false, eval e X.env)] := by rfl) (hbase : attributeBase o "split" X.env (eval o X.env) = eval o X.env := by rfl) (hline : (apos.endLine == pos.line) = true := by rfl) :
    SE X oS G W (.Call (.Attribute o "split" apos) [e] [] pos) (mM1 gSplit fo fe) := by
  refine PE.imp (pe_split ho he hs hbase hline) fun σ H Q h => rd_M1 (fun B ρ en st σ H x w y Q R ry h2 => ?_) h
  unfold gSplit at h2
  split at h2
  · rename_i b
    split at h2
    · rename_i hz
      cases ry with
      | d ry =>
        cases ry
        refine ⟨x, b, rfl, rfl, hz.1, hz.2, fun p hp => ?_⟩
        have f := R.sto.fresh hp
        have hl : ((Txt.split x b).map V.str).length ≤ sizeLine := by rw [List.length_map]; exact Nat.le_trans (PyProof.Rows.split_le x b) hz.2
        exact h2 ρ _ (Stp.laid hp) (R.laid hp) _ (.d (.list (.inl (vis_of f.1 f.2 upd_same)) hl (strs_reps _)))
    · exact h2.elim
  · exact h2.elim
/-! ### x.replace(..): a token must be out -/
def SET (X : Cx) (oS : OwnS) (G : Gd) (W : WX) (e : Expr) (f : SemE) : Prop := PET X e (rdE oS G W f)
def SAT (X : Cx) (oS : OwnS) (G : Gd) (W : WX) (e : List Expr) (f : SemA) : Prop := PAT X e (rdA oS G W f)
def SST (X : Cx) (oS : OwnS) (G : Gd) (W : WX) (s : Stmt) (f : SemS) : Prop := PST X s (rdS oS G W f)
def SLT (X : Cx) (oS : OwnS) (G : Gd) (W : WX) (s : List Stmt) (f : SemS) : Prop := PSsT X s (rdS oS G W f)
theorem SE.t {e : Expr} {f : SemE} (h : SE X oS G W e f) : SET X oS G W e f := CwR.PET.of h
theorem SL.t {e : List Stmt} {f : SemS} (h : SL X oS G W e f) : SLT X oS G W e f := PSsT.of h
theorem SS.t {e : Stmt} {f : SemS} (h : SS X oS G W e f) : SST X oS G W e f := PST.of h
theorem PET.imp {e : Expr} {t t' : TE} (h : PET X e t) (i : ∀ σ H Q, t' σ H Q → t σ H Q) : PET X e t' := fun pins s σ H Q h0 I w => h pins s σ H Q h0 I (i σ H Q w)
theorem slt_cons {s : Stmt} {r : List Stmt} {f g : SemS} (h1 : SST X oS G W s f) (h2 : SLT X oS G W r g) : SLT X oS G W (s :: r) (mSeq f g) := by
  intro pins s0 σ H Dn h0 I ⟨B, ρ, en, st, R, h⟩
  refine psst_cons h1 h2 pins s0 σ H Dn h0 I ⟨B, ρ, en, st, R, ?_⟩
  unfold mSeq at h
  cases q : f en st with
  | nx e s => rw [q] at h; exact fun ρ1 H1 σ1 s1 R1 => ⟨B, ρ1, e, s, R1, PostS.step s1 h⟩
  | rt u s => rw [q] at h; exact h
  | bk e s => rw [q] at h; exact h
  | ct e s => rw [q] at h; exact h
  | exn c u e s => rw [q] at h; exact h
  | bad => rw [q] at h; exact h
theorem set_op {op : Operator} {r : R2} {g : U → U → Sto → Res U} {a b : Expr} {fa fb : SemE} {pos : Pos} (ho : OpR X (binaryOp op) r) (hg : OpS oS G W r g) (ha : SET X oS G W a fa) (hb : SET X oS G W b fb) : SET X oS G W (.BinOp a op b pos) (mOp g fa fb) :=
  PET.imp (CwR.pet_op ho ha hb) fun _ _ _ h => rd_op hg h
theorem sat_nil : SAT X oS G W [] mNil := fun pos pins s σ H Q _ I h => (sa_nil : PA X _ _).run pos pins s σ H Q I h
theorem sat_cons {e : Expr} {es : List Expr} {f : SemE} {g : SemA} (he : SET X oS G W e f) (hs : SAT X oS G W es g) (hst : starEach (e :: es) X.env = (false, eval e X.env) :: starEach es X.env := by rfl) : SAT X oS G W (e :: es) (mCons f g) := by
  intro pos pins s σ H Q h0 I ⟨B, ρ, en, st, R, h⟩
  rw [hst]
  show wpAny _ _ (spliced ((false, eval e X.env) :: backTo pos (starEach es X.env))) _ _ s
  refine Calls.spliced_cons (wpAny_mono (PySem.wpAny_toks (he pins s σ H (fun v H1 => rdA oS G W g σ H1 fun vs H2 => Q (v :: vs) H2) h0 I ?_)) (fun u s1 q => ?_) fun _ _ z => z.2)
  · refine ⟨B, ρ, en, st, R, (PostE.bind h).mono fun u st1 ρ1 H1 _ s1 R1 h1 v rv => ?_⟩
    refine ⟨B, ρ1, en, st1, R1, (PostE.bind h1).mono fun us st2 ρ2 H2 _ s2 R2 h2 vs rvs => ?_⟩
    exact h2 ρ2 H2 (Stp.refl _ _) R2 (v :: vs) (.cons (rv.stp s2) rvs)
  · obtain ⟨hk, x, H1, I1, r1, q1⟩ := q
    exact thn (hs pos pins s1 σ H1 _ (Nat.le_trans h0 hk) I1 q1) fun us s2 ⟨xs, H2, I2, r2, q2⟩ => ⟨x :: xs, H2, I2, .cons r1 r2, q2⟩
theorem pet_lst {es : List Expr} {t : TA} {pos : Pos} (h : PAT X es t) : PET X (.List es pos) (tLst t) := by
  intro pins s σ H Q h0 I hq
  refine wpAny_List_spliced (thn (h pos pins s σ H _ h0 I hq) fun us s1 ⟨xs, H1, I1, r, z, q⟩ => ⟨by rw [← r.length]; exact z, ?_⟩)
  have hf : H1 s1.heap.objs.size = none := I1.hok.fresh (Nat.le_refl _)
  exact ⟨.ref s1.heap.objs.size, upd H1 s1.heap.objs.size (.lst xs), I1.laid (t' := s1.toks) (fun b u e => Heap.get?_push_of_some _ e) (Nat.le_refl _) ⟨z, us, 0, r, Heap.get?_push_size _ rfl⟩, rfl, q _ hf⟩
theorem set_lst {es : List Expr} {f : SemA} {pos : Pos} (h : SAT X oS G W es f) : SET X oS G W (.List es pos) (mLst f) := by
  refine PET.imp (pet_lst h) fun σ H Q ⟨B, ρ, en, st, R, h⟩ => ?_
  refine ⟨B, ρ, en, st, R, (PostE.bind h).mono fun us st1 ρ1 H1 _ s1 R1 h1 vs rvs => ?_⟩
  split at h1
  · rename_i hz
    rw [rvs.length] at hz
    split at h1
    · rename_i l hl
      refine ⟨hz, fun p hp => ?_⟩
      have f := R1.sto.fresh hp
      exact h1 ρ1 _ (Stp.laid hp) (R1.laid hp) _ (.d (.list (.inl (vis_of f.1 f.2 upd_same)) hz ((rvs.stp (Stp.laid hp)).allD hl)))
    · exact h1.elim
  · exact h1.elim
/-- x.replace(y, z), y and z written -/
def mRepl (y z : Str) (fo : SemE) : SemE := fun en st => (fo en st).bind fun u st => match u with
  | .d (.str x) => if x.length + (x.length + 1) * z.length ≤ 16777216 then .ok (.d (.str (Txt.replace x y z))) st else .bad
  | _ => .bad
theorem set_repl {o : Expr} {fo : SemE} {y z : Str} {j k : Nat} {c0 c1 apos pos : Pos} (ho : SE X oS G W o fo) (hyz : (y == z) = false := by decide)
    (hst : starEach [.Constant (.str y) j c0, .Constant (.str z) k c1] X.env = [(false, eval (.Constant (.str y) j c0) X.env), (false, eval (.Constant (.str z) k c1) X.env)] := by rfl)
    (hbase : attributeBase o "replace" X.env (eval o X.env) = eval o X.env := by rfl) (hline : (apos.endLine == pos.line) = true := by rfl) : SET X oS G W (.Call (.Attribute o "replace" apos) [.Constant (.str y) j c0, .Constant (.str z) k c1] [] pos) (mRepl y z fo) := by
  refine PET.imp (CwR.pet_replC ho hyz hst hbase hline) fun σ H Q ⟨B, ρ, en, st, R, h⟩ => ?_
  refine ⟨B, ρ, en, st, R, (PostE.bind h).mono fun u st1 ρ1 H1 _ s1 R1 h1 v rv => ?_⟩
  split at h1
  · split at h1
    · rename_i hz
      cases rv with
      | d rv =>
        cases rv
        exact ⟨_, rfl, hz, h1 ρ1 H1 (Stp.refl _ _) R1 _ (.d (.str _))⟩
    · exact h1.elim
  · exact h1.elim
/-- name = value -/
theorem sst_set {i : Nat} {x : Str} {e : Expr} {f : SemE} {pos pos' : Pos} (hN : X.N.Nodup) (hi : X.N[i]? = some x) (hx : Loc X.env.scope x) (he : SET X oS G W e f) (hc : NoCell oS i) (hs : swapsWith e (some (.Name x pos')) pos.line X.env = pure false := by rfl) (hf : X.fn x = true ∨ X.env.scope.names.lookup x = some .local := by first | exact .inl rfl | exact .inr rfl | assumption) : SST X oS G W (.Assign [.Name x pos'] e pos) (mAsgT f (mG i)) := by
  intro pins s σ H D h0 I ⟨B, ρ, en, st, R, h⟩
  have he' : PET X e (rdE oS G W f) := he
  refine wpAny_Assign_Name (thn (he' pins s σ H (fun v H1 => D.nx (σ.set i (some v)) H1) h0 I ⟨B, ρ, en, st, R, postE_of R h fun u st1 ρ1 H1 s1 R1 h1 v rv => h1 ρ1 H1 _ (Stp.refl _ _) (R1.setL rv hc)⟩) fun v s1 ⟨y, H1, I1, r1, q1⟩ => ?_) hs
  exact store_ok I1 hN hi hx r1 (fun s2 I2 => ⟨_, H1, I2, q1⟩) hf
/-! ### keywords -/
/-- f(e, .., k = v, ..): the keywords in the parameters' order -/
structure KwB (K : PySem.W.Frag) (fd : FuncData) (ps ks : List Str) : Prop where
  to : ∀ (s : Shared) (us ws : List Value), K.In s.heap → us.length + ks.length = ps.length → ws.length = ks.length → BindsTo s fd ⟨us, ks.zip ws⟩ (ps.zip (us ++ ws))
def SK (X : Cx) (oS : OwnS) (G : Gd) (W : WX) (kws : List Keyword) (f : SemA) : Prop := PK X kws (rdA oS G W f)
theorem PK.imp {kws : List Keyword} {t t' : TA} (h : PK X kws t) (i : ∀ σ H Q, t' σ H Q → t σ H Q) : PK X kws t' := ⟨fun pos pins s σ H Q I w => h.run pos pins s σ H Q I (i σ H Q w)⟩
theorem sk_nil : SK X oS G W [] mNil := PK.imp pk_nil fun σ H Q ⟨B, ρ, en, st, R, h⟩ => h ρ H (Stp.refl _ _) R [] .nil
theorem sk_cons {e : Expr} {kws : List Keyword} {nm : Option Str} {kpos : Pos} {f : SemE} {g : SemA} (he : SE X oS G W e f) (hs : SK X oS G W kws g) : SK X oS G W (⟨nm, e, kpos⟩ :: kws) (mCons f g) := by
  refine PK.imp (pk_cons he hs) fun σ H Q ⟨B, ρ, en, st, R, h⟩ => ?_
  refine ⟨B, ρ, en, st, R, (PostE.bind h).mono fun u st1 ρ1 H1 _ s1 R1 h1 v rv => ?_⟩
  refine ⟨B, ρ1, en, st1, R1, (PostE.bind h1).mono fun us st2 ρ2 H2 _ s2 R2 h2 vs rvs => ?_⟩
  exact h2 ρ2 H2 (Stp.refl _ _) R2 (v :: vs) (.cons (rv.stp s2) rvs)
theorem run_fk {k : Nat} {f : Addr} {fd : FuncData} {ps ks : List Str} {F : SemF} {pins : List (Addr × Obj)} {σ : L2.St} {H : Hp} {s : Shared} {Q : VK} {us ws : List Value} {vs : List V} {B ρ : List Addr} {en : Nv} {st : Sto} {uu : List U} (FF : FOk X.prog X.w X.K X.mg X.base G k f fd ps F) (hr : RoomG k X.A) (hb : KwB X.K fd ps ks) (tk : Takes X W)
    (I : L2.Inv X pins σ H s) (r : Vals vs (us ++ ws)) (R : Rel oS G B ρ en st σ H) (ru : RepUs G (vis B ρ H) ρ (oS σ) uu vs) (hl : uu.length = ps.length) (hws : ws.length = ks.length)
    (h : PostE oS G W B ρ en σ H (fun u ρ' H' _ => ∀ v, RepU G (vis B ρ' H') ρ' (oS σ) u v → Q v H') (if hasOwnL uu = false ∧ stOwn st = false then F uu st else .bad)) : wpAny (model X.prog X.w) X.A (call (.ref f) us (ks.zip ws)) (EP X pins σ Q) X.xe s := by
  split at h
  case isFalse => exact h.elim
  rename_i hno
  have hlen : (us ++ ws).length = ps.length := by rw [← r.length, ← ru.length, hl]
  have hsp : spF G ps.length F vs H Q (fun cls d H' => W cls d σ H') := by
    refine ⟨B, ρ, uu, st, hl, R.sto.noOwn hno.2, ru.noOwn hno.1, ?_⟩
    cases q : F uu st with
    | ok u st' =>
      rw [q] at h
      exact fun ρ' H' v s' S' rv => h ρ' H' s' (R.ofS s' (S'.own fun _ _ z => z.elim)) v (rv.le (Le.refl _) (fun _ _ z => z) fun _ _ z => z.elim)
    | exn c u st' =>
      rw [q] at h
      refine fun ρ' H' C d s' S' hx => h ρ' H' C d s' (S'.own fun _ _ z => z.elim) ⟨hx.1, ?_⟩
      cases u with
      | some u =>
        obtain ⟨_, dd, v, x2, x3, x4⟩ := hx
        exact ⟨dd, v, x2, x3, x4.le (Le.refl _) (fun _ _ z => z) fun _ _ z => z.elim⟩
      | none => exact hx.2
    | bad => rw [q] at h; exact h
  have bb := hb.to s us ws I.kIn (by rw [← hlen, List.length_append, hws]) hws
  have run := FF.run X.A X.stack s H ⟨us, ks.zip ws⟩ (us ++ ws) vs Q (fun cls d H' => W cls d σ H') hr I.env0 bb r hsp
  refine wpAny_call (codeAny_mono run fun r s' hq => ?_)
  cases r with
  | error e => exact tk e s' (XE.of_call I (fun cls d H' h => h) hq)
  | ok fl =>
    cases fl with
    | ret u => exact I.after hq
    | next => exact False.elim hq
    | brk => exact False.elim hq
    | cont => exact False.elim hq
/-- f(k = v, ..), all parameters so -/
theorem se_callK0 {k : Nat} {f : Addr} {fd : FuncData} {ps ks : List Str} {F : SemF} {x : Str} {p pos : Pos} {kws : List Keyword} {fs : SemA} (FF : FOk X.prog X.w X.K X.mg X.base G k f fd ps F) (hr : RoomG k X.A) (hg : Gl X x) (hm : X.mg x = some (.ref f)) (hk : PySem.W.keepIn X.K (.ref f) = true) (hb : KwB X.K fd ps ks) (tk : Takes X W)
    (hl : ks.length = ps.length) (ha : SK X oS G W kws fs) (hal : ∀ en st us st', fs en st = .ok us st' → us.length = ks.length) (hall : (backToKw pos (keywordEach kws X.env)).all (·.1.isSome) = true := by rfl) (hks : (backToKw pos (keywordEach kws X.env)).filterMap (·.1) = ks := by rfl) (hdb : (x == ("__debug__" : Str)) = false := by decide)
    (hpl : ((backTo pos (starEach [] X.env)).any (·.1) || (backToKw pos (keywordEach kws X.env)).any (·.1.isNone)) = false := by rfl) :
    SE X oS G W (.Call (.Name x p) [] kws pos) (mCall F fs) := by
  refine ⟨fun pins s σ H Q I h => ?_⟩
  refine wpAny_Call_Name_kw (ld_glob I hg hm ?_ hdb)
  obtain ⟨B, ρ, en, st, R, h⟩ := h
  have args := (ha : PK X _ _).run pos pins s σ H (fun vs H1 => ∃ ρ1 st1 us, Stp ρ H ρ1 H1 ∧ Rel oS G B ρ1 en st1 σ H1 ∧ RepUs G (vis B ρ1 H1) ρ1 (oS σ) us vs ∧ us.length = ks.length ∧
    PostE oS G W B ρ1 en σ H1 (fun u ρ' H' _ => ∀ v, RepU G (vis B ρ' H') ρ' (oS σ) u v → Q v H') (if hasOwnL us = false ∧ stOwn st1 = false then F us st1 else .bad)) I
    ⟨B, ρ, en, st, R, (PostE.bind h).mono fun us st1 ρ1 H1 eq s1 R1 h1 vs rvs => ⟨ρ1, st1, us, s1, R1, rvs, hal _ _ _ _ eq, h1⟩⟩
  refine PySem.W.callWith_KW0 (h₀ := X.base) I.ok.mod.kin hk hall (thn args fun ws s2 ⟨zs, H2, I2, rz, ρ1, st1, uu, _, R1, ru, hlu, h1⟩ => ⟨I2.kIn, ?_⟩) hpl
  rw [hks]
  exact run_fk (us := []) FF hr hb tk I2 rz R1 ru (by rw [hlu, hl]) (by rw [← rz.length, ← ru.length, hlu]) h1
end
section
variable {P : Program} {w : World} {K : PySem.W.Frag} {mg : Str → Option Value} {base : Heap} {G : Gd}
/-- THE RULE for a def that needs a token -/
theorem fok_defT {x qual : Str} {st : Stmt} {f : Addr} {fd : FuncData} {N ps : List Str} {k : Nat} {fb : SemS} (F : Fun K x qual st f fd) (S : FnScope N ps (defScope st)) (hnc : ∀ y ∈ (defScope st).names, y.2 ≠ .cell) (hps : 1 ≤ ps.length)
    (hbody : ∀ (cdv : Value) (A : Around) (outer : List Env) (s : Shared) (H : Hp) (E : XK), cdv = fd.code → RoomG k (A.deeper (envOfC qual (defScope st) s.heap.objs.size f cdv)) →
      ∀ X, X = cxOf (L2.CX P w) P w K mg base N qual (defScope st) f cdv A outer s H E → Takes X (fun cls d _ H => E cls d H) → PassesOwn (model X.prog X.w) X.A X.env X.xe →
      SLT X (ownV X) G (fun cls d _ H => E cls d H) (defBody st) fb) : FOk P w K mg base G (k + 1) f fd ps (fun us st => finS (fb (us.map some ++ List.replicate (N.length - us.length) none) st)) := by
  obtain ⟨oc, od, kV, doc, pm, an, cdv, ct, osl, rfl, lk, hcd⟩ := F.ex
  refine ⟨fun A outer s H args us vs Q E hr e0 hb r hsp => ?_⟩
  have hl := spF.len hsp
  have hul : us.length = ps.length := by rw [← r.length, hl]
  have KX : K.In s.heap := e0.mod.kin.keeps fun b o e => (e0.bs b o e).1
  have lim : s.heap.NoLimit := e0.mod.nolimit.keeps fun b o e => (e0.bs b o e).1
  have hloc : ∀ y ∈ ps.zip us, (defScope st).names.lookup y.1 = some .local := fun ⟨n, v⟩ hy => by
    rcases S.par n (List.of_mem_zip hy).1 with q | q
    · exact q
    · exact absurd rfl (hnc _ (PySem.mem_of_lookup q))
  refine codeAny_call_function hr.room.depth (KX _ _ lk) rfl S.co S.gen rfl (PySem.W.codeRec_of KX hcd) (hb _ _ _ _ ?_)
  refine wpAny_newFunctionEnv hnc hloc (fun h1 hns hsb => ?_) S.kind
  have hz : (ps.zip us).length = ps.length := by rw [List.length_zip, hul, Nat.min_self]
  have hcl : cellsFrom (s.heap.objs.size + 1) (defScope st).names [] = [] := cells_none _ _ _ hnc
  have hm : (bindL (envOfC qual (defScope st) s.heap.objs.size f cdv).kindOf (ps.zip us) fun _ => none) = fun x => (ps.zip us).reverse.lookup x := by
    funext y
    rw [bindL_loc _ _ (fun y hy => (by exact hloc y hy : (envOfC qual (defScope st) s.heap.objs.size f cdv).kindOf y.1 = some .local)) y]
    cases (ps.zip us).reverse.lookup y <;> rfl
  have x : InCallC s s.heap.objs.size (bindL (envOfC qual (defScope st) s.heap.objs.size f cdv).kindOf (ps.zip us) fun _ => none) (cellsFrom (s.heap.objs.size + 1) (defScope st).names [])
      (bindC (envOfC qual (defScope st) s.heap.objs.size f cdv).kindOf (ps.zip us) fun _ => none) ({ s with heap := h1, toks := s.toks + (ps.zip us).length } : Shared) := by
    rw [hm, hcl]
    exact ⟨⟨⟨_, _, rfl⟩, hns, fun b o e => hsb.extBut b o (Nat.ne_of_lt (Heap.lt_size e)) (Heap.get?_push_of_some _ e), Nat.le_refl _⟩, fun n c hc => absurd hc (by simp), .nil, fun n c hc => absurd hc (by simp)⟩
  have henv : newEnv (defScope st) s.heap.objs.size mainGlobals [] (qual ++ ".<locals>.") (some f) cdv none builtinsNs = envOfC qual (defScope st) s.heap.objs.size f cdv := by
    unfold envOfC
    rw [hcl] <;> rfl
  have hto : 1 ≤ ({ s with heap := h1, toks := s.toks + (ps.zip us).length } : Shared).toks := by
    show 1 ≤ s.toks + (ps.zip us).length
    omega
  show ({ s with heap := h1, toks := s.toks + (ps.zip us).length } : Shared).heap.NoLimit ∧ codeAny (model P w) A (.func (defBody st) (newEnv (defScope st) s.heap.objs.size mainGlobals [] (qual ++ ".<locals>.") (some f) cdv none builtinsNs)) _ ({ s with heap := h1, toks := s.toks + (ps.zip us).length } : Shared)
  rw [henv]
  generalize ({ s with heap := h1, toks := s.toks + (ps.zip us).length } : Shared) = s1 at x hto ⊢
  refine ⟨lim.keeps x.toInCall.keep, codeAny_func ?_⟩
  have hb := hbody cdv A outer s H E rfl (hr.deeper _) _ rfl (takes_of rfl rfl rfl rfl) (passes_of rfl)
  have I : Inv (cxOf (L2.CX P w) P w K mg base N qual (defScope st) f cdv A outer s H E) [] (L2.start N vs) H s1 := inv_start S hr.room.hd e0 hl r x
  obtain ⟨B, ρ, us', st', el, S0, rr, q⟩ := hsp
  have R := start_rel (X := cxOf (L2.CX P w) P w K mg base N qual (defScope st) f cdv A outer s H E) (N := N) S0 rr (ownV (cxOf (L2.CX P w) P w K mg base N qual (defScope st) f cdv A outer s H E))
  have body := (hb : PSsT _ _ _) [] s1 (L2.start N vs) H { nx := fun _ H' => Q .non H', rt := Q } hto I ⟨B, ρ, _, st', R, fin_post q⟩
  refine wpAny_mono body (fun fl s' hs => ?_) fun e s' hs => hs
  cases fl with
  | ret u =>
    obtain ⟨v, σ', H', J, rv, q⟩ := hs
    exact ⟨v, H', J.os, J.bare, J.base, J.hok, rv, q⟩
  | next =>
    obtain ⟨σ', H', J, q⟩ := hs
    exact ⟨.non, H', J.os, J.bare, J.base, J.hok, rfl, q⟩
  | brk =>
    obtain ⟨_, _, _, q⟩ := hs
    exact False.elim q
  | cont =>
    obtain ⟨_, _, _, q⟩ := hs
    exact False.elim q
end
end TT
set_option Elab.async false
set_option linter.all false
set_option maxRecDepth 100000
set_option maxHeartbeats 2000000
/-! the law's end; facts of the head -/
namespace TT
open PySem PySem.Spec PyProof.Rows L2 LamX NdefX
/-! ## own exception classes, looked at -/
def oexB (K : PySem.W.Frag) (C : Addr) : Bool := (match K.lookup C with
  | some ⟨.type "type", _, .cls cd, sl⟩ => (match cd.mro, sl.toList with
    | .ref C' :: bm, [_, _, _, _, some (.builtin n), _] => C' == C && n == "ValueError.__new__" && !cd.hasDel && cd.hasDict && PySem.HandSPX.refsVE bm
    | _, _ => false)
  | _ => false) && (decide (PySem.W.findIn K (.ref C) "__setattr__" = some (some (.builtin "object.__setattr__"))) && (decide (PySem.W.subIn K (.ref C) (.type "BaseException") = some true) && (decide (PySem.W.typeIn K (.ref C) = some (.type "type")) && PySem.W.keepIn K (.ref C))))
theorem oexB_ok {K : PySem.W.Frag} {C : Addr} (h : oexB K C = true) : OexC K C := by
  unfold oexB at h
  simp only [Bool.and_eq_true, decide_eq_true_eq] at h
  obtain ⟨h1, h2, h3, h4, h5⟩ := h
  refine ⟨?_, h2, h3, h4, h5⟩
  split at h1
  · rename_i dd cd sl ho
    split at h1
    · rename_i C' bm k0 k1 k2 k3 n k5 hm hs
      simp only [Bool.and_eq_true, beq_iff_eq, Bool.not_eq_true'] at h1
      obtain ⟨⟨⟨⟨rfl, rfl⟩, hdel⟩, hdi⟩, hve⟩ := h1
      obtain ⟨nm, bs, mro, ns, qn, hd, sn, sub, ab, col, del⟩ := cd
      dsimp only at hm hdel hdi
      subst hm hdel hdi
      have hsl : sl = #[k0, k1, k2, k3, some (.builtin "ValueError.__new__"), k5] := by
        obtain ⟨l⟩ := sl
        simp only at hs
        rw [hs]
      subst hsl
      exact ⟨nm, qn, ns, bs, bm, sn, sub, ab, col, dd, k0, k1, k2, k3, k5, ho, hve⟩
    · cases h1
  · cases h1
/-! ## parts of a text -/
def kidsE : Expr → List Expr
  | .Call f args kws _ => f :: (args ++ kws.map (·.value))
  | .BoolOp _ vs _ => vs
  | .BinOp a _ b _ => [a, b]
  | .UnaryOp _ a _ => [a]
  | .IfExp a b c _ => [a, b, c]
  | .Compare a _ cs _ => a :: cs
  | .List es _ => es
  | .Tuple es _ _ => es
  | .Subscript a b _ => [a, b]
  | .Attribute a _ _ => [a]
  | .Starred a _ => [a]
  | .ListComp e _ _ _ => [e]
  | _ => []
def exprsS : Stmt → List Expr
  | .Return (some e) _ => [e]
  | .Expr e _ => [e]
  | .Assign _ e _ => [e]
  | .AugAssign _ _ e _ => [e]
  | .For _ it _ _ _ => [it]
  | .While c _ _ _ => [c]
  | .If c _ _ _ => [c]
  | .Raise (some e) _ _ => [e]
  | _ => []
def bodiesS : Stmt → List Stmt
  | .FunctionDef _ _ b _ _ _ _ _ _ _ => b
  | .ClassDef _ _ _ b _ _ _ _ _ _ _ => b
  | .For _ _ a b _ => a ++ b
  | .While _ a b _ => a ++ b
  | .If _ a b _ => a ++ b
  | .Try a _ b c _ => a ++ b ++ c
  | _ => []
def eAt (e : Expr) : List Nat → Expr
  | [] => e
  | i :: r => eAt ((kidsE e).getD i e) r
def sAt (s : Stmt) : List Nat → Stmt
  | [] => s
  | i :: r => sAt ((bodiesS s).getD i s) r
def seAt (s : Stmt) (p q : List Nat) (k : Nat) : Expr := eAt ((exprsS (sAt s p)).getD k (.Name "" ⟨0, 0, 0, 0⟩)) q
def lamA : Expr → Arguments
  | .Lambda a _ _ _ => a
  | _ => { posonlyargs := [], args := [], vararg := none, kwonlyargs := [], kw_defaults := [], kwarg := none, defaults := [] }
def lamB : Expr → Expr
  | .Lambda _ b _ _ => b
  | e => e
def lamSc (d : Scope) : Expr → Scope
  | .Lambda _ _ s _ => s
  | _ => d
/-! ## defs by name -/
structure DefOk (P : Program) (w : World) (K : PySem.W.Frag) (mg : Str → Option Value) (base : Heap) (G : Gd) (k : Nat) (x : Str) (ps : List Str) (F : SemF) : Prop where
  ex : ∃ fd, FOk P w K mg base G k (He.ga K x) fd ps F ∧ Binds K fd ps [] ∧ KwB K fd ps ps
  kp : PySem.W.keepIn K (.ref (He.ga K x)) = true
  g : mg x = some (.ref (He.ga K x))
section
variable {X : Cx} {oS : OwnS} {G : Gd} {W : WX} {k j : Nat} {ps : List Str} {F : SemF} {x : Str} {p pos : Pos} {e : Expr} {es : List Expr}
theorem se_callD {fs : SemA} (D : DefOk X.prog X.w X.K X.mg X.base G j x ps F) (hr : RoomG k X.A) (hj : j ≤ k) (hg : Gl X x) (tk : Takes X W) (hl : (e :: es).length = ps.length)
    (ha : SA X oS G W (e :: es) fs) (hal : ∀ en st us st', fs en st = .ok us st' → us.length = (e :: es).length) (hdb : (x == ("__debug__" : Str)) = false := by decide) (he : starEach (e :: es) X.env = (false, eval e X.env) :: starEach es X.env := by rfl) (hpl : (backTo pos (starEach es X.env)).any (·.1) = false := by rfl) :
    SE X oS G W (.Call (.Name x p) (e :: es) [] pos) (mCall F fs) := by
  obtain ⟨fd, FF, hb, _⟩ := D.ex
  exact se_call FF (hr.mono hj) hg D.g D.kp hb tk hl ha hal hdb he hpl
theorem se_callXD {fs : SemA} (D : DefOk X.prog X.w X.K X.mg X.base G j x ps F) (hr : RoomG k X.A) (hj : j ≤ k) (CN : CellsNew X) (hg : Gl X x) (hl : (e :: es).length = ps.length)
    (ha : SA X (ownV X) G W (e :: es) fs) (hal : ∀ en st us st', fs en st = .ok us st' → us.length = (e :: es).length) (hdb : (x == ("__debug__" : Str)) = false := by decide) (he : starEach (e :: es) X.env = (false, eval e X.env) :: starEach es X.env := by rfl) (hpl : (backTo pos (starEach es X.env)).any (·.1) = false := by rfl) :
    SE X (ownV X) G W (.Call (.Name x p) (e :: es) [] pos) (mCallX F fs) := by
  obtain ⟨fd, FF, hb, _⟩ := D.ex
  exact se_callX FF (hr.mono hj) CN hg D.g D.kp hb hl ha hal hdb he hpl
theorem se_callKD {kws : List Keyword} {fs : SemA} (D : DefOk X.prog X.w X.K X.mg X.base G j x ps F) (hr : RoomG k X.A) (hj : j ≤ k) (hg : Gl X x) (tk : Takes X W) (ha : SK X oS G W kws fs) (hal : ∀ en st us st', fs en st = .ok us st' → us.length = ps.length)
    (hall : (backToKw pos (keywordEach kws X.env)).all (·.1.isSome) = true := by rfl) (hks : (backToKw pos (keywordEach kws X.env)).filterMap (·.1) = ps := by rfl) (hdb : (x == ("__debug__" : Str)) = false := by decide)
    (hpl : ((backTo pos (starEach [] X.env)).any (·.1) || (backToKw pos (keywordEach kws X.env)).any (·.1.isNone)) = false := by rfl) :
    SE X oS G W (.Call (.Name x p) [] kws pos) (mCall F fs) := by
  obtain ⟨fd, FF, _, hk⟩ := D.ex
  exact se_callK0 FF (hr.mono hj) hg D.g D.kp hk tk rfl ha hal hall hks hdb hpl
/-- a module's constants -/
theorem se_glS {z : Str} (hg : Gl X x) (hm : ∃ t, X.mg x = some (.str z t)) (hd : (x == ("__debug__" : Str)) = false := by decide) : SE X oS G W (.Name x pos) (mC (.str z)) := by
  obtain ⟨t, e⟩ := hm
  exact se_gl (v := .str z) hg e ⟨t, rfl⟩ (fun _ => .str z) hd
theorem se_glI {z : Int} (hg : Gl X x) (hm : ∃ t, X.mg x = some (.int z t)) (hd : (x == ("__debug__" : Str)) = false := by decide) : SE X oS G W (.Name x pos) (mC (.int z)) := by
  obtain ⟨t, e⟩ := hm
  exact se_gl (v := .int z) hg e ⟨t, rfl⟩ (fun _ => .int z) hd
end
/-! ## the end -/
/-- no list is part of what the head wrote down -/
def noLst (K : PySem.W.Frag) : Bool := K.all fun q => match q.2.cls with
  | .type c => !(c == "list")
  | _ => true
theorem noLst_none {K : PySem.W.Frag} {a : Addr} {o : Obj} (h : noLst K = true) (e : K.lookup a = some o) : o.cls ≠ .type "list" := fun z => by
  have q := List.all_eq_true.mp h _ (He.lookup_mem e)
  dsimp only at q
  rw [z] at q
  simp at q
theorem law_callG {P : Program} {w : World} {K : PySem.W.Frag} {mg mb : Str → Option Value} {G : Gd} {k : Nat} {fa a : Addr} {cs : List (Addr × Addr)} {x : Str} {F : SemF} {s₁ : Shared} {vs : List Value} {ns : List Int}
    (KX : K.In s₁.heap) (hns : s₁.heap.Ns mainGlobals mg) (hb : s₁.heap.Ns builtinsNs mb) (hbb : ∀ x : Str, x ≠ "__name__" → mb x = bootBuiltins x) (hlim : s₁.heap.NoLimit) (hg : s₁.gens = #[])
    (hT : ∀ p ∈ cs, s₁.heap.get? p.2 = some { cls := .none, data := .fields #[] }) (nT : ∀ p ∈ cs, K.lookup p.2 = none) (C : ∀ p ∈ cs, PySem.W.CodeHd s₁.heap p.1 p.2) (hGT : ∀ q ∈ G.T, ∃ p ∈ cs, q.1 = p.2)
    (hbm : ∃ (bm : Addr) (ob : Obj), mg "__builtins__" = some (.ref bm) ∧ bm ≠ builtinsNs ∧ s₁.heap.get? bm = some ob ∧ ob.cls = .type "module" ∧ ob.dict = some builtinsNs ∧ ob.data = .plain)
    (ha : s₁.heap.get? a = some { cls := .type "list", data := .seq vs.toArray }) (hi : IntsAre vs ns) (hl : ns.length ≤ sizeLine) (hr : Room k callerA) (hk : noLst K = true)
    (FF : ∀ base : Heap, K.In base → base.Ns mainGlobals mg → (∀ p ∈ cs, TabB base mg p.1 p.2) → ∃ fd, FOk P w K mg base G k fa fd [x] F ∧ Binds K fd [x] [])
    (hF : ∃ st, F [.d (.list (ns.map PyData.int))] [] = .ok (.d (.bool true)) st) :
    codeAny (model P w) callerA (.call (.ref fa) ⟨[.ref a], []⟩) (fun r s' => r = .ok (.ret (.bool true)) ∧ OldK s₁.heap s'.heap ∧ s'.os = s₁.os ∧ AllBare s'.gens) s₁ := by
  have rv := vals_ints hi
  have nKa : K.lookup a = none := by
    cases e : K.lookup a with
    | none => rfl
    | some o =>
      have z := KX _ _ e
      rw [ha] at z
      cases z
      exact (noLst_none hk e rfl).elim
  have isT : ∀ b : Addr, b ∈ cs.map (·.2) → s₁.heap.get? b = some { cls := .none, data := .fields #[] } := fun b hb => by
    obtain ⟨p, hp, e⟩ := List.mem_map.mp hb
    rw [← e]
    exact hT p hp
  have aT : a ∉ cs.map (·.2) := fun z => by
    have q := isT a z
    rw [ha] at q
    have z' : Data.seq vs.toArray _ = Data.fields #[] := congrArg Obj.data (Option.some.inj q)
    cases z'
  have memT : ∀ p ∈ cs, p.2 ∈ cs.map (·.2) := fun p hp => List.mem_map.mpr ⟨p, hp, rfl⟩
  obtain ⟨H, hHdef⟩ : ∃ H : Hp, H = fun b => if b = a then some (.frz { cls := .type "list", data := .seq vs.toArray } (.lst (ns.map V.int))) else if b ∈ cs.map (·.2) then some (.tbl #[]) else none := ⟨_, rfl⟩
  have Ha : H a = some (.frz { cls := .type "list", data := .seq vs.toArray } (.lst (ns.map V.int))) := by rw [hHdef]; exact if_pos rfl
  have Ht : ∀ b, b ∈ cs.map (·.2) → H b = some (.tbl #[]) := fun b hb => by
    rw [hHdef]
    exact (if_neg (show ¬ b = a from fun z => aT (by rw [← z]; exact hb))).trans (if_pos hb)
  have Hn : ∀ b, b ≠ a → b ∉ cs.map (·.2) → H b = none := fun b h1 h2 => by rw [hHdef]; exact (if_neg h1).trans (if_neg h2)
  have hok : HOk P w H s₁.heap := fun b u z => by
    by_cases h1 : b = a
    · rw [h1, Ha] at z
      cases z
      rw [h1]
      exact ⟨ha, by rw [List.length_map]; exact hl, vs, _, rv, ha⟩
    · by_cases h2 : b ∈ cs.map (·.2)
      · rw [Ht b h2] at z
        cases z
        exact isT b h2
      · rw [Hn b h1 h2] at z
        cases z
  have base_of : ∀ {b : Addr} {o : Obj}, s₁.heap.get? b = some o → H b = none → (hidT s₁.heap H).get? b = some o := fun e n => hidT_get e n
  have noD : ∀ {b : Addr} {o : Obj}, s₁.heap.get? b = some o → (∀ vs n, o.data ≠ .seq vs n) → o.data ≠ .fields #[] → H b = none := fun {b o} e h1 h2 => by
    refine Hn b (fun z => ?_) fun z => ?_
    · rw [z, ha] at e
      cases e
      exact h1 _ _ rfl
    · rw [isT b z] at e
      cases e
      exact h2 rfl
  have noA : ∀ {b : Addr} {o : Obj} {es : Array DictEntry} {ep : Nat}, s₁.heap.get? b = some o → o.data = .dict es ep → H b = none := fun {b o es ep} e d =>
    noD e (fun vs n z => by rw [d] at z; cases z) fun z => by rw [d] at z; cases z
  have nsK : ∀ {b : Addr} {m : Str → Option Value}, s₁.heap.Ns b m → (hidT s₁.heap H).Ns b m := fun {b m} ⟨o, es, ep, e, d, r⟩ => ⟨o, es, ep, base_of e (noA e d), d, r⟩
  have hKb : K.In (hidT s₁.heap H) := fun b o e => base_of (KX b o e) (Hn b (fun z => by rw [z, nKa] at e; cases e) fun z => by
    obtain ⟨p, hp, ep⟩ := List.mem_map.mp z
    rw [← ep, nT p hp] at e
    cases e)
  have hM : L2.Mod K mg (hidT s₁.heap H) := ⟨hKb, nsK hns, ⟨mb, nsK hb, hbb⟩, let ⟨mc, h1, h2⟩ := hlim; ⟨mc, nsK h1, h2⟩⟩
  have TB : ∀ p ∈ cs, TabB (hidT s₁.heap H) mg p.1 p.2 := fun p hp => by
    have hTp := hT p hp
    refine ⟨?_, ?_, fun z => ?_⟩
    · obtain ⟨o, us, file, tf, flags, tg, inF, text, tt, e1, r1, r2, r3, r4, r5, r6, r7, r8, hne⟩ := C p hp
      refine ⟨o, us, file, tf, flags, tg, inF, text, tt, base_of e1 (noD e1 (fun vs n z => ?_) fun z => ?_), r1, r2, r3, r4, r5, r6, r7, r8, hne⟩
      · rw [r2] at z
        cases z
      · rw [r2] at z
        cases z
        simp at r3
    · obtain ⟨bm, ob, b1, b2, b3, b4, b5, b6⟩ := hbm
      refine ⟨bm, ob, b1, b2, fun q => ?_, fun q => ?_, base_of b3 (noD b3 (fun vs n z => ?_) fun z => ?_), b4, b5, b6⟩
      · obtain ⟨o, es, ep, e, hd, _⟩ := hns
        rw [q, e] at b3
        cases b3
        rw [hd] at b6
        cases b6
      · rw [q, hTp] at b3
        cases b3
        cases b6
      · rw [b6] at z
        cases z
      · rw [b6] at z
        cases z
    · obtain ⟨o, es, ep, e, hd, _⟩ := hns
      rw [z, hTp] at e
      cases e
      cases hd
  have e0 : Env0 P w K mg (hidT s₁.heap H) callerA [] s₁ H := ⟨rfl, hM, fun b o e => of_hidT e, Nat.le_of_eq (hidT_size _ _), trivial, fun b hb => absurd (show b ∈ ([] : List Addr) from hb) (by simp), hok, .of_eq hg⟩
  have S : RelS G [] [] noOwn [] H := ⟨rfl, .nil, fun n c h => by simp at h, fun b hb => by simp at hb, fun q hq => by
    obtain ⟨p, hp, e⟩ := hGT q hq
    rw [e]
    exact TabN.nil (Ht _ (memT p hp))⟩
  have Ri : ∀ l : List Int, RepDs G.K (vis [] [] H) (l.map PyData.int) (l.map V.int) := fun l => by
    induction l with
    | nil => exact .nil
    | cons i l ih => exact .cons (.int i) ih
  have Ru : RepUs G (vis [] [] H) [] noOwn [.d (.list (ns.map PyData.int))] [.ref a] :=
    .cons (.d (.list (.inr ⟨_, vis_of (by simp) (by simp) Ha⟩) (by rw [List.length_map]; exact hl) (Ri ns))) .nil
  obtain ⟨st, hF⟩ := hF
  obtain ⟨fd, FF, hbind⟩ := FF _ hKb (nsK hns) TB
  refine codeAny_mono (FF.run callerA [] s₁ H ⟨[.ref a], []⟩ [.ref a] [.ref a] (fun v _ => v = .bl true) (fun _ _ _ => False) ⟨hr, rfl⟩ e0 (hbind s₁ [.ref a] KX rfl) (.cons rfl .nil) ⟨[], [], [.d (.list (ns.map PyData.int))], [], rfl, S, Ru, by
    rw [hF]
    intro ρ' H' v s S' r
    cases r with
    | d r => cases r; rfl⟩) fun r s' h => ?_
  cases r with
  | error e =>
    obtain ⟨_, _, _, _, _, _, _, _, _, _, _, _, z⟩ := (show L2.CX P w [] H s₁ _ e s' from h)
    exact z.elim
  | ok fl =>
    cases fl with
    | next => exact False.elim h
    | brk => exact False.elim h
    | cont => exact False.elim h
    | ret u =>
      obtain ⟨v, H', os, bare, un, hok', r', q⟩ := h
      have q' : v = .bl true := q
      subst q'
      obtain rfl : u = Value.bool true := r'
      have key : ∀ b o, b ∉ cs.map (·.2) → s₁.heap.get? b = some o → s'.heap.get? b = some o := fun b o nb e => by
        by_cases hb : b = a
        · have z2 := un.frzs b _ _ (by rw [hb]; exact Ha)
          obtain ⟨e2, _⟩ := hok' b _ z2
          rw [hb, ha] at e
          cases e
          exact e2
        · exact un.keep b o e (Hn b hb nb) (fun z => absurd (show b ∈ ([] : List Addr) from z) (by simp)) (by simp)
      have grown : ∀ p ∈ cs, ∃ more : Array Value, s'.heap.get? p.2 = some { cls := .none, data := .fields more } := fun p hp => by
        obtain ⟨more, z⟩ := un.tbls p.2 #[] (Ht _ (memT p hp))
        exact ⟨_, hok' p.2 _ z⟩
      refine ⟨rfl, ⟨fun b o e => ?_, fun b o e => ?_⟩, os, bare⟩
      · by_cases hb : b ∈ cs.map (·.2)
        · obtain ⟨p, hp, ep⟩ := List.mem_map.mp hb
          obtain ⟨more, hm⟩ := grown p hp
          rw [← ep] at e ⊢
          rw [hT p hp] at e
          cases e
          exact .inr (.inl ⟨((C p hp).tab (hT p hp)).isCodeTable, rfl, #[], more, rfl, by rw [Array.empty_append]; exact hm⟩)
        · exact .inl (key b o hb e)
      · by_cases hb : b ∈ cs.map (·.2)
        · obtain ⟨p, hp, ep⟩ := List.mem_map.mp hb
          obtain ⟨more, hm⟩ := grown p hp
          rw [← ep]
          exact ⟨_, hm⟩
        · exact ⟨o, key b o hb e⟩
theorem walk_ofG {l : PySem.W.OpenLaw} {n k : Nat} {q : Program} {loose : List Str} {XP : (Str → Option Value) → Heap → Prop} {YP : World → Heap → Prop} {d : DefRec} {x : Str} {F : SemF}
    (hn : l.most = some n) (hn2 : n ≤ sizeLine) (hdf : d.params.defaults = []) (hr : Room k callerA)
    (FX : ∀ (w : World) (mg : Str → Option Value) (fa : Addr) (h : Heap), YP w h → h.Ns mainGlobals mg → mg d.name = some (.ref fa) → ∃ (K : PySem.W.Frag) (G : Gd) (cs : List (Addr × Addr)), K.In h ∧ noLst K = true ∧
      (∀ p ∈ cs, h.get? p.2 = some { cls := .none, data := .fields #[] }) ∧ (∀ p ∈ cs, K.lookup p.2 = none) ∧ (∀ p ∈ cs, PySem.W.CodeHd h p.1 p.2) ∧ (∀ q ∈ G.T, ∃ p ∈ cs, q.1 = p.2) ∧
      ∀ base : Heap, K.In base → base.Ns mainGlobals mg → (∀ p ∈ cs, TabB base mg p.1 p.2) → ∃ fd, FOk l.prog w K mg base G k fa fd [x] F ∧ Binds K fd [x] [])
    (hF : ∀ ns : List Int, ns.length ≤ n → (∀ z ∈ ns, Builtin.Int.intBits z ≤ 1048576) → ∃ st, F [.d (.list (ns.map PyData.int))] [] = .ok (.d (.bool true)) st) :
    PySem.W.WalkO q loose XP YP l.row.toRowW d [] (fun f vs => PySem.call f vs) := by
  refine Att.attach_callB hn hdf fun w s₀ s₁ mg mb fa o pm cd doc a vs ns G Y ho hd hcd hmg hobj hints hlen hbits hg => ?_
  obtain ⟨K, Gd, cs, KX, hk, hT, nT, C, hGT, hFF⟩ := FX w mg fa _ Y G.T.g hmg
  exact law_callG KX G.T.g G.T.b G.T.builtins G.T.nolimit hg hT nT C hGT G.T.bmain hobj hints (Nat.le_trans hlen hn2) hr hk hFF (hF ns hlen hbits)
end TT
namespace TT
open PySem PySem.Spec PyProof.Rows L2 LamX NdefX
theorem funD_fun {K : PySem.W.Frag} {x qual : Str} {st : Stmt} {kws : List (Str × V)} {f : Addr} {fd : FuncData} (F : FunD K x qual (defArgs st) (defBody st) (defScope st) [] kws f fd) : Fun K x qual st f fd := by
  obtain ⟨oc, od, dV, kV, doc, pm, an, cdv, ct, osl, e, lk, hcd, hD, _⟩ := F.ex
  rcases hD with ⟨_, rfl⟩ | ⟨z, _⟩
  · exact ⟨⟨oc, od, kV, doc, pm, an, cdv, ct, osl, e, lk, hcd⟩, F.kp⟩
  · exact absurd rfl z
theorem fun_code {K : PySem.W.Frag} {x qual : Str} {st : Stmt} {p : Str × Option Str} {fd : FuncData} (F : Fun K x qual st (He.fAd K p) fd) : fd.code = .ref (He.codeOf K p) := by
  obtain ⟨oc, od, kV, doc, pm, an, cdv, ct, osl, e, lk, hcd⟩ := F.ex
  obtain ⟨c, hc⟩ := He.codeIn_ref hcd
  have e2 : fd.code = .ref c := by rw [e]; exact hc
  rw [He.codeOf_eq lk e2, e2]
theorem fun_kwb {K : PySem.W.Frag} {x qual : Str} {st : Stmt} {f : Addr} {fd : FuncData} {ps : List Str} (F : Fun K x qual st f fd)
    (h : ∀ (kV doc pm : Value) (an : Option Addr) (cdv ct : Value) (ws : List Value), ws.length = ps.length → bindArgs (PySem.W.fnOf x qual (defArgs st) (defBody st) (defScope st) .none kV doc pm an cdv ct) ⟨[], ps.zip ws⟩ = pure (ps.zip ws)) : KwB K fd ps ps := by
  obtain ⟨oc, od, kV, doc, pm, an, cdv, ct, osl, rfl, lk, hcd⟩ := F.ex
  refine ⟨fun s us ws _ h1 h2 => ?_⟩
  have e : us = [] := by
    cases us with
    | nil => rfl
    | cons a r => rw [List.length_cons] at h1; omega
  subst e
  exact .of_eq (h kV doc pm an cdv ct ws h2)
/-- a def by its body -/
theorem def_ok {P : Program} {w : World} {K : PySem.W.Frag} {mg : Str → Option Value} {base : Heap} {G : Gd} {x : Str} {st : Stmt} {N ps : List Str} {k : Nat} {fb : SemS} (F : ∃ fd, Fun K x x st (He.ga K x) fd) (hm : mg x = some (.ref (He.ga K x))) (S : FnScope N ps (defScope st)) (hc : cellNamesB (defScope st) = true)
    (h : ∀ (kV doc pm : Value) (an : Option Addr) (cdv ct : Value) (us : List Value), us.length = ps.length → bindArgs (PySem.W.fnOf x x (defArgs st) (defBody st) (defScope st) .none kV doc pm an cdv ct) ⟨us, []⟩ = pure (ps.zip us))
    (h2 : ∀ (kV doc pm : Value) (an : Option Addr) (cdv ct : Value) (ws : List Value), ws.length = ps.length → bindArgs (PySem.W.fnOf x x (defArgs st) (defBody st) (defScope st) .none kV doc pm an cdv ct) ⟨[], ps.zip ws⟩ = pure (ps.zip ws))
    (hbody : ∀ (cdv : Value) (A : Around) (outer : List Env) (s : Shared) (H : Hp) (E : XK), cdv = .ref (He.codeOf K (x, none)) → RoomG k (A.deeper (envOfC x (defScope st) s.heap.objs.size (He.ga K x) cdv)) →
      ∀ X, X = cxOf (L2.CX P w) P w K mg base N x (defScope st) (He.ga K x) cdv A outer s H E → Takes X (fun cls d _ H => E cls d H) → PassesOwn (model X.prog X.w) X.A X.env X.xe → CellsNew X →
      SL X (ownV X) G (fun cls d _ H => E cls d H) (defBody st) fb) : DefOk P w K mg base G (k + 1) x ps (runF N.length fb) := by
  obtain ⟨fd, F⟩ := F
  have hcd := fun_code (p := (x, none)) F
  exact ⟨⟨fd, fok_def F S hc fun cdv A outer s H E e => hbody cdv A outer s H E (by rw [e, hcd]), F.binds h, fun_kwb F h2⟩, F.kp, hm⟩
theorem def_okT {P : Program} {w : World} {K : PySem.W.Frag} {mg : Str → Option Value} {base : Heap} {G : Gd} {x : Str} {st : Stmt} {N ps : List Str} {k : Nat} {fb : SemS} (F : ∃ fd, Fun K x x st (He.ga K x) fd) (hm : mg x = some (.ref (He.ga K x))) (S : FnScope N ps (defScope st)) (hnc : ((defScope st).names.all fun y => !decide (y.2 = .cell)) = true) (hps : 1 ≤ ps.length)
    (h : ∀ (kV doc pm : Value) (an : Option Addr) (cdv ct : Value) (us : List Value), us.length = ps.length → bindArgs (PySem.W.fnOf x x (defArgs st) (defBody st) (defScope st) .none kV doc pm an cdv ct) ⟨us, []⟩ = pure (ps.zip us))
    (h2 : ∀ (kV doc pm : Value) (an : Option Addr) (cdv ct : Value) (ws : List Value), ws.length = ps.length → bindArgs (PySem.W.fnOf x x (defArgs st) (defBody st) (defScope st) .none kV doc pm an cdv ct) ⟨[], ps.zip ws⟩ = pure (ps.zip ws))
    (hbody : ∀ (cdv : Value) (A : Around) (outer : List Env) (s : Shared) (H : Hp) (E : XK), cdv = .ref (He.codeOf K (x, none)) → RoomG k (A.deeper (envOfC x (defScope st) s.heap.objs.size (He.ga K x) cdv)) →
      ∀ X, X = cxOf (L2.CX P w) P w K mg base N x (defScope st) (He.ga K x) cdv A outer s H E → Takes X (fun cls d _ H => E cls d H) → PassesOwn (model X.prog X.w) X.A X.env X.xe →
      SLT X (ownV X) G (fun cls d _ H => E cls d H) (defBody st) fb) : DefOk P w K mg base G (k + 1) x ps (fun us st => finS (fb (us.map some ++ List.replicate (N.length - us.length) none) st)) := by
  obtain ⟨fd, F⟩ := F
  have hcd := fun_code (p := (x, none)) F
  have hnc2 : ∀ y ∈ (defScope st).names, y.2 ≠ .cell := fun y hy => by simpa using List.all_eq_true.mp hnc y hy
  exact ⟨⟨fd, fok_defT F S hnc2 hps fun cdv A outer s H E e => hbody cdv A outer s H E (by rw [e, hcd]), F.binds h, fun_kwb F h2⟩, F.kp, hm⟩
/-- no captured cell at a plain local's slot -/
theorem nc_def {X : Cx} {i : Nat} {x : Str} (CN : CellsNew X) (hi : X.N[i]? = some x) (hx : X.env.scope.names.lookup x = some .local) : NoCell (ownV X) i :=
  noCell_def hi (by
    cases e : X.env.cells.lookup x with
    | none => rfl
    | some c => rcases CN.kin x c e with z | z <;> rw [hx] at z <;> cases z)
end TT
namespace TT
open PySem PySem.Spec PyProof.Rows L2 LamX NdefX
def lamfB (sc nsc : Scope) (fr : List Str) : Bool := (nsc.names.all fun y => !decide (y.2 = .free) || ((decide (sc.names.lookup y.1 = some .cell) || decide (sc.names.lookup y.1 = some .free)) && decide (y.1 ∈ fr))) && fr.all fun y => decide ((y, NameKind.free) ∈ nsc.names)
theorem se_lamB {X : Cx} {G : Gd} {W : WX} {kc : Nat} {js : List Nat} {nm : Nat → Nat → Str} {c P : Addr} {params : Arguments} {body : Expr} {scope : Scope} {pos : Pos} {fr : List Str} (TB : TabB X.base X.mg c P) (hcode : X.env.code = .ref c) (hm : (P, nm) ∈ G.T) (hu : ∀ p ∈ G.T, p.1 = P → p.2 = nm) (hn : nm pos.line pos.col = X.env.qual ++ "<lambda>")
    (hdef : defaultsOf params X.env = ([], [])) (hcod : G.cod kc = some (lamI X params body scope fr)) (hB : lamfB X.env.scope scope fr = true)
    (hjs : js.map (fun j => X.N[j]?) = fr.map some) : SE X (ownV X) G W (.Lambda params body scope pos) (mLam kc js) := by
  unfold lamfB at hB
  simp only [Bool.and_eq_true, Bool.or_eq_true, Bool.not_eq_true', decide_eq_true_eq, decide_eq_false_iff_not, List.all_eq_true] at hB
  exact se_lam TB hcode hm hn hu hdef (fun y hy e => ((hB.1 y hy).resolve_left fun z => z e).1) hcod (fun y hy => hB.2 y hy) (fun y hy e => ((hB.1 y hy).resolve_left fun z => z e).2) hjs
end TT
set_option Elab.async false
set_option linter.all false
set_option maxRecDepth 100000
set_option maxHeartbeats 2000000
/-! tests that compare -/
namespace TT
open PySem PySem.Spec PyProof.Rows L2
section
variable {X : Cx} {oS : OwnS} {G : Gd} {W : WX}
theorem tk0 : L2.Takes X (fun _ _ _ _ => False) := L2.takes0
def mTst (f : SemE) : SemT := fun en st => (f en st).bind fun u st => match u with
  | .d (.bool b) => .ok b st
  | _ => .bad
theorem rd_tst {f : SemE} {σ : L2.St} {H : Hp} {Q : Bool → Hp → Prop} (h : rdT oS G W (mTst f) σ H Q) : rdE oS G W f σ H (fun x H' => ∃ k, x = .bl k ∧ Q k H') := by
  obtain ⟨B, ρ, en, st, R, h⟩ := h
  refine ⟨B, ρ, en, st, R, (PostE.bind h).mono fun u st1 ρ1 H1 _ s1 R1 h1 v rv => ?_⟩
  split at h1
  · cases rv with
    | d rv =>
      cases rv
      exact ⟨_, rfl, h1 ρ1 H1 (Stp.refl _ _) R1⟩
  · exact h1.elim
theorem st_cmp {op : CmpOp} {r : R2} {g : U → U → Sto → Res U} {a b : Expr} {fa fb : SemE} {pos : Pos} (ho : OpR X (compareOp op) r) (hg : OpS oS G W r g) (ha : SE X oS G W a fa) (hb : SE X oS G W b fb) (hm : behindInMarks op b = false) : ST X oS G W (.Compare a [op] [b] pos) (mTst (mOp g fa fb)) :=
  PT.imp (pt_cmpR ho ha hb hm) fun _ _ _ h => rd_op hg (rd_tst h)
variable {a b : Expr} {fa fb : SemE} {pos : Pos} (hK : X.K = G.K)
include hK
theorem st_C2 {op : CmpOp} {g : D → D → Option D} (h : OpR X (compareOp op) (rD2 X.K g)) (ha : SE X oS G W a fa) (hb : SE X oS G W b fb) (hm : behindInMarks op b = false) : ST X oS G W (.Compare a [op] [b] pos) (mTst (mOp (gD2 g) fa fb)) := st_cmp (by rw [hK] at h; exact h) ops_D2 ha hb hm
variable {k : Nat} (hr : Room k X.A)
include hr
theorem st_lt (ha : SE X oS G W a fa) (hb : SE X oS G W b fb) : ST X oS G W (.Compare a [.Lt] [b] pos) (mTst (mOp (gD2 ltD) fa fb)) := st_C2 hK (op_ltD hr.units0) ha hb (nobehind _ (by decide) (by decide))
theorem st_le (ha : SE X oS G W a fa) (hb : SE X oS G W b fb) : ST X oS G W (.Compare a [.LtE] [b] pos) (mTst (mOp (gD2 leD) fa fb)) := st_C2 hK op_leD ha hb (nobehind _ (by decide) (by decide))
theorem st_gt (ha : SE X oS G W a fa) (hb : SE X oS G W b fb) : ST X oS G W (.Compare a [.Gt] [b] pos) (mTst (mOp (gD2 gtD) fa fb)) := st_C2 hK op_gtD ha hb (nobehind _ (by decide) (by decide))
theorem st_ge (ha : SE X oS G W a fa) (hb : SE X oS G W b fb) : ST X oS G W (.Compare a [.GtE] [b] pos) (mTst (mOp (gD2 geD) fa fb)) := st_C2 hK op_geD ha hb (nobehind _ (by decide) (by decide))
theorem st_eq (ha : SE X oS G W a fa) (hb : SE X oS G W b fb) : ST X oS G W (.Compare a [.Eq] [b] pos) (mTst (mOp (gD2 eqD) fa fb)) := st_C2 hK (op_eqDD hr.units) ha hb (nobehind _ (by decide) (by decide))
theorem st_ne (ha : SE X oS G W a fa) (hb : SE X oS G W b fb) : ST X oS G W (.Compare a [.NotEq] [b] pos) (mTst (mOp (gD2 neD) fa fb)) := st_C2 hK (op_neDD hr.units) ha hb (nobehind _ (by decide) (by decide))
theorem st_in (ha : SE X oS G W a fa) (hb : SE X oS G W b fb) (hm : behindInMarks .In b = false := by rfl) : ST X oS G W (.Compare a [.In] [b] pos) (mTst (mOp (gD2 (inD false)) fa fb)) := st_C2 hK (op_inDD (units65 hK hr)) ha hb hm
theorem st_notIn (ha : SE X oS G W a fa) (hb : SE X oS G W b fb) (hm : behindInMarks .NotIn b = false := by rfl) : ST X oS G W (.Compare a [.NotIn] [b] pos) (mTst (mOp (gD2 (inD true)) fa fb)) := st_C2 hK (op_notInDD (units65 hK hr)) ha hb hm
end
section
variable {X : Cx} {oS : OwnS} {G : Gd} {W : WX} {a b : Expr} {fa fb : SemE} {pos : Pos}
theorem st_isN (ha : SE X oS G W a fa) (hb : SE X oS G W b fb) : ST X oS G W (.Compare a [.Is] [b] pos) (mTst (mOp (gIsN false) fa fb)) := st_cmp op_isN ops_isN ha hb (nobehind _ (by decide) (by decide))
theorem st_notN (ha : SE X oS G W a fa) (hb : SE X oS G W b fb) : ST X oS G W (.Compare a [.IsNot] [b] pos) (mTst (mOp (gIsN true) fa fb)) := st_cmp op_notN ops_notN ha hb (nobehind _ (by decide) (by decide))
end
end TT
set_option Elab.async false
set_option linter.all false
set_option maxRecDepth 100000
set_option maxHeartbeats 4000000
/-! k12: the functions of its defs, and that the defs are these functions. Printed by gen.py. -/
namespace K12
open PySem PySem.Spec PyProof.Rows L2 LamX NdefX TT
def top (i : Nat) : Stmt := PySem.Challenge.pw_plainvoices_k12_whole_lines_of_notes.main.body.getD i (.Pass ⟨0, 0, 0, 0⟩)
abbrev s_is_whole : Stmt := top 6
abbrev s_is_number : Stmt := top 7
abbrev s_is_figures : Stmt := top 8
abbrev s_wrong_at : Stmt := top 9
abbrev s_wrong_from_one : Stmt := top 10
abbrev s_line_of : Stmt := top 14
abbrev s_notes_told : Stmt := top 15
abbrev s_wrong_line : Stmt := top 17
abbrev s_notes_line : Stmt := top 18
abbrev s_read_notes : Stmt := top 19
abbrev s__law_well : Stmt := top 21
abbrev s__law_draw : Stmt := top 22
abbrev s__law_of : Stmt := top 23
abbrev s__law_is : Stmt := top 24
abbrev s__law_line : Stmt := top 25
abbrev s__law_read : Stmt := top 26
abbrev s__law_bent : Stmt := top 27
abbrev s__law_told : Stmt := top 28
abbrev s__law_right : Stmt := top 29
abbrev s_law : Stmt := top 30
abbrev s_InvalidLine : Stmt := sAt (top 2) [0]
abbrev s_InvalidNotes : Stmt := sAt (top 3) [0]
def c_0 : CodeI := ⟨"<lambda>", "wrong_line.<locals>.<lambda>", lamA (seAt s_wrong_line [0] [3] 0), .expr (lamB (seAt s_wrong_line [0] [3] 0)), lamSc (defScope s_wrong_line) (seAt s_wrong_line [0] [3] 0), []⟩
def c_1 : CodeI := ⟨"<lambda>", "_law_right.<locals>.<lambda>", lamA (seAt s__law_right [0, 6, 2] [0, 1, 1] 0), .expr (lamB (seAt s__law_right [0, 6, 2] [0, 1, 1] 0)), lamSc (defScope s__law_right) (seAt s__law_right [0, 6, 2] [0, 1, 1] 0), ["value"]⟩
def c_2 : CodeI := ⟨"<lambda>", "_law_right.<locals>.<lambda>", lamA (seAt s__law_right [0, 9, 0] [0, 1, 1] 0), .expr (lamB (seAt s__law_right [0, 9, 0] [0, 1, 1] 0)), lamSc (defScope s__law_right) (seAt s__law_right [0, 9, 0] [0, 1, 1] 0), ["value"]⟩
def tb (K : PySem.W.Frag) (x : Str) : Addr := He.tabOf K (He.codeOf K (x, none))
def gd (K : PySem.W.Frag) : Gd where
  K := K
  fnA := fun _ => none
  clsA := fun x => if x = "InvalidLine" then some (He.ga K "InvalidLine") else if x = "InvalidNotes" then some (He.ga K "InvalidNotes") else none
  clsF := fun x => if x = "InvalidLine" then "given" else if x = "InvalidNotes" then "index" else ""
  cod := fun k => match k with
    | 0 => some c_0
    | 1 => some c_1
    | 2 => some c_2
    | _ => none
  T := [(tb K "wrong_line", fun _ _ => "wrong_line.<locals>.<lambda>"), (tb K "_law_right", fun _ _ => "_law_right.<locals>.<lambda>")]
/-- what the head leaves -/
structure Fx (K : PySem.W.Frag) (mg : Str → Option Value) (base : Heap) : Prop where
  g_is_whole : mg "is_whole" = some (.ref (He.ga K "is_whole"))
  d_is_whole : ∃ fd, Fun K "is_whole" "is_whole" s_is_whole (He.ga K "is_whole") fd
  g_is_number : mg "is_number" = some (.ref (He.ga K "is_number"))
  d_is_number : ∃ fd, Fun K "is_number" "is_number" s_is_number (He.ga K "is_number") fd
  g_is_figures : mg "is_figures" = some (.ref (He.ga K "is_figures"))
  d_is_figures : ∃ fd, Fun K "is_figures" "is_figures" s_is_figures (He.ga K "is_figures") fd
  g_wrong_at : mg "wrong_at" = some (.ref (He.ga K "wrong_at"))
  d_wrong_at : ∃ fd, Fun K "wrong_at" "wrong_at" s_wrong_at (He.ga K "wrong_at") fd
  g_wrong_from_one : mg "wrong_from_one" = some (.ref (He.ga K "wrong_from_one"))
  d_wrong_from_one : ∃ fd, Fun K "wrong_from_one" "wrong_from_one" s_wrong_from_one (He.ga K "wrong_from_one") fd
  g_line_of : mg "line_of" = some (.ref (He.ga K "line_of"))
  d_line_of : ∃ fd, Fun K "line_of" "line_of" s_line_of (He.ga K "line_of") fd
  g_notes_told : mg "notes_told" = some (.ref (He.ga K "notes_told"))
  d_notes_told : ∃ fd, Fun K "notes_told" "notes_told" s_notes_told (He.ga K "notes_told") fd
  g_wrong_line : mg "wrong_line" = some (.ref (He.ga K "wrong_line"))
  d_wrong_line : ∃ fd, Fun K "wrong_line" "wrong_line" s_wrong_line (He.ga K "wrong_line") fd
  g_notes_line : mg "notes_line" = some (.ref (He.ga K "notes_line"))
  d_notes_line : ∃ fd, Fun K "notes_line" "notes_line" s_notes_line (He.ga K "notes_line") fd
  g_read_notes : mg "read_notes" = some (.ref (He.ga K "read_notes"))
  d_read_notes : ∃ fd, Fun K "read_notes" "read_notes" s_read_notes (He.ga K "read_notes") fd
  g__law_well : mg "_law_well" = some (.ref (He.ga K "_law_well"))
  d__law_well : ∃ fd, Fun K "_law_well" "_law_well" s__law_well (He.ga K "_law_well") fd
  g__law_draw : mg "_law_draw" = some (.ref (He.ga K "_law_draw"))
  d__law_draw : ∃ fd, Fun K "_law_draw" "_law_draw" s__law_draw (He.ga K "_law_draw") fd
  g__law_of : mg "_law_of" = some (.ref (He.ga K "_law_of"))
  d__law_of : ∃ fd, Fun K "_law_of" "_law_of" s__law_of (He.ga K "_law_of") fd
  g__law_is : mg "_law_is" = some (.ref (He.ga K "_law_is"))
  d__law_is : ∃ fd, Fun K "_law_is" "_law_is" s__law_is (He.ga K "_law_is") fd
  g__law_line : mg "_law_line" = some (.ref (He.ga K "_law_line"))
  d__law_line : ∃ fd, Fun K "_law_line" "_law_line" s__law_line (He.ga K "_law_line") fd
  g__law_read : mg "_law_read" = some (.ref (He.ga K "_law_read"))
  d__law_read : ∃ fd, Fun K "_law_read" "_law_read" s__law_read (He.ga K "_law_read") fd
  g__law_bent : mg "_law_bent" = some (.ref (He.ga K "_law_bent"))
  d__law_bent : ∃ fd, Fun K "_law_bent" "_law_bent" s__law_bent (He.ga K "_law_bent") fd
  g__law_told : mg "_law_told" = some (.ref (He.ga K "_law_told"))
  d__law_told : ∃ fd, Fun K "_law_told" "_law_told" s__law_told (He.ga K "_law_told") fd
  g__law_right : mg "_law_right" = some (.ref (He.ga K "_law_right"))
  d__law_right : ∃ fd, Fun K "_law_right" "_law_right" s__law_right (He.ga K "_law_right") fd
  g_law : mg "law" = some (.ref (He.ga K "law"))
  d_law : ∃ fd, Fun K "law" "law" s_law (He.ga K "law") fd
  t_wrong_line : TabB base mg (He.codeOf K ("wrong_line", none)) (tb K "wrong_line")
  t__law_right : TabB base mg (He.codeOf K ("_law_right", none)) (tb K "_law_right")
  c_FIGURES : ∃ t, mg "FIGURES" = some (.str "0123456789" t)
  c_MOST_HIGH : ∃ t, mg "MOST_HIGH" = some (.int 8 t)
  c_OPEN : ∃ t, mg "OPEN" = some (.str "-" t)
  n_abs : mg "abs" = none
  n_all : mg "all" = none
  n_bool : mg "bool" = none
  n_divmod : mg "divmod" = none
  n_enumerate : mg "enumerate" = none
  n_int : mg "int" = none
  n_isinstance : mg "isinstance" = none
  n_len : mg "len" = none
  n_list : mg "list" = none
  n_max : mg "max" = none
  n_min : mg "min" = none
  n_range : mg "range" = none
  n_repr : mg "repr" = none
  n_str : mg "str" = none
  n_tuple : mg "tuple" = none
  g_InvalidLine : mg "InvalidLine" = some (.ref (He.ga K "InvalidLine"))
  e_InvalidLine : OexC K (He.ga K "InvalidLine")
  xf_InvalidLine : XfC K (He.ga K "InvalidLine")
  iC_InvalidLine : PySem.W.findIn K (.ref (He.ga K "InvalidLine")) "__init__" = some (some (.ref (He.ma K (He.ga K "InvalidLine") "__init__")))
  tI_InvalidLine : PySem.W.typeIn K (.ref (He.ma K (He.ga K "InvalidLine") "__init__")) = some (.type "function")
  no_InvalidLine : PySem.W.findIn K (.ref (He.ga K "InvalidLine")) "given" = some none
  d_InvalidLine : ∃ fd, Fun K "__init__" "InvalidLine.__init__" s_InvalidLine (He.ma K (He.ga K "InvalidLine") "__init__") fd
  g_InvalidNotes : mg "InvalidNotes" = some (.ref (He.ga K "InvalidNotes"))
  e_InvalidNotes : OexC K (He.ga K "InvalidNotes")
  xf_InvalidNotes : XfC K (He.ga K "InvalidNotes")
  iC_InvalidNotes : PySem.W.findIn K (.ref (He.ga K "InvalidNotes")) "__init__" = some (some (.ref (He.ma K (He.ga K "InvalidNotes") "__init__")))
  tI_InvalidNotes : PySem.W.typeIn K (.ref (He.ma K (He.ga K "InvalidNotes") "__init__")) = some (.type "function")
  no_InvalidNotes : PySem.W.findIn K (.ref (He.ga K "InvalidNotes")) "index" = some none
  d_InvalidNotes : ∃ fd, Fun K "__init__" "InvalidNotes.__init__" s_InvalidNotes (He.ma K (He.ga K "InvalidNotes") "__init__") fd
  m_InvalidLine_InvalidNotes : PySem.W.exmOne K (.ref (He.ga K "InvalidLine")) (.ref (He.ga K "InvalidNotes")) = some false
  m_InvalidNotes_InvalidNotes : PySem.W.exmOne K (.ref (He.ga K "InvalidNotes")) (.ref (He.ga K "InvalidNotes")) = some true
  m_InvalidLine_InvalidLine : PySem.W.exmOne K (.ref (He.ga K "InvalidLine")) (.ref (He.ga K "InvalidLine")) = some true
  m_InvalidNotes_InvalidLine : PySem.W.exmOne K (.ref (He.ga K "InvalidNotes")) (.ref (He.ga K "InvalidLine")) = some false
  ne_wrong_line__law_right : tb K "wrong_line" ≠ tb K "_law_right"
section
variable {P : Program} {w : World} {K : PySem.W.Frag} {mg : Str → Option Value} {base : Heap}
theorem b_abs : bootBuiltins "abs" = some (.builtin "abs") := by decide +kernel
theorem b_all : bootBuiltins "all" = some (.builtin "all") := by decide +kernel
theorem b_bool : bootBuiltins "bool" = some (.type "bool") := by decide +kernel
theorem b_divmod : bootBuiltins "divmod" = some (.builtin "divmod") := by decide +kernel
theorem b_enumerate : bootBuiltins "enumerate" = some (.type "enumerate") := by decide +kernel
theorem b_int : bootBuiltins "int" = some (.type "int") := by decide +kernel
theorem b_isinstance : bootBuiltins "isinstance" = some (.builtin "isinstance") := by decide +kernel
theorem b_len : bootBuiltins "len" = some (.builtin "len") := by decide +kernel
theorem b_list : bootBuiltins "list" = some (.type "list") := by decide +kernel
theorem b_max : bootBuiltins "max" = some (.builtin "max") := by decide +kernel
theorem b_min : bootBuiltins "min" = some (.builtin "min") := by decide +kernel
theorem b_range : bootBuiltins "range" = some (.type "range") := by decide +kernel
theorem b_repr : bootBuiltins "repr" = some (.builtin "repr") := by decide +kernel
theorem b_str : bootBuiltins "str" = some (.type "str") := by decide +kernel
theorem b_tuple : bootBuiltins "tuple" = some (.type "tuple") := by decide +kernel
theorem gd_fns (x : Fx K mg base) : ∀ y a, (gd K).fnA y = some a → ∀ h, K.In h → PySem.W.FnAt a h := fun y a h => nomatch h
theorem tm_wrong_line : (tb K "wrong_line", (fun _ _ => "wrong_line.<locals>.<lambda>" : Nat → Nat → Str)) ∈ (gd K).T := List.mem_cons_self
theorem hu_wrong_line (x : Fx K mg base) : ∀ p ∈ (gd K).T, p.1 = tb K "wrong_line" → p.2 = (fun _ _ => "wrong_line.<locals>.<lambda>" : Nat → Nat → Str) := by
  intro p hp h
  rcases List.mem_cons.mp hp with e | hp
  · rw [e]
  rcases List.mem_cons.mp hp with e | hp
  · rw [e] at h; exact absurd h.symm x.ne_wrong_line__law_right
  cases hp
theorem tm__law_right : (tb K "_law_right", (fun _ _ => "_law_right.<locals>.<lambda>" : Nat → Nat → Str)) ∈ (gd K).T := List.mem_cons_of_mem _ (List.mem_cons_self)
theorem hu__law_right (x : Fx K mg base) : ∀ p ∈ (gd K).T, p.1 = tb K "_law_right" → p.2 = (fun _ _ => "_law_right.<locals>.<lambda>" : Nat → Nat → Str) := by
  intro p hp h
  rcases List.mem_cons.mp hp with e | hp
  · rw [e] at h; exact absurd h x.ne_wrong_line__law_right
  rcases List.mem_cons.mp hp with e | hp
  · rw [e]
  cases hp
theorem si_InvalidLine : FnScope ["self", "given"] ["self", "given"] (defScope s_InvalidLine) := ⟨rfl, rfl, rfl, by decide +kernel, rfl, by decide +kernel, by decide +kernel⟩
theorem init_InvalidLine (x : Fx K mg base) {fd : FuncData} (F : Fun K "__init__" "InvalidLine.__init__" s_InvalidLine (He.ma K (He.ga K "InvalidLine") "__init__") fd) : FnOk P w K mg base (L2.CX P w) 1 (He.ma K (He.ga K "InvalidLine") "__init__") fd ["self", "given"] (initSp K "given") :=
  init_ok F si_InvalidLine rfl rfl rfl (Or.inl rfl) (Or.inl rfl) (fun _ => rfl) (by decide) (by decide) (by decide) (by decide)
theorem bind_InvalidLine (x : Fx K mg base) {fd : FuncData} (F : Fun K "__init__" "InvalidLine.__init__" s_InvalidLine (He.ma K (He.ga K "InvalidLine") "__init__") fd) : Binds K fd ["self", "given"] [] := F.binds (fun _ _ _ _ _ _ us hl => match us, hl with | [_, _], _ => rfl)
theorem si_InvalidNotes : FnScope ["self", "index"] ["self", "index"] (defScope s_InvalidNotes) := ⟨rfl, rfl, rfl, by decide +kernel, rfl, by decide +kernel, by decide +kernel⟩
theorem init_InvalidNotes (x : Fx K mg base) {fd : FuncData} (F : Fun K "__init__" "InvalidNotes.__init__" s_InvalidNotes (He.ma K (He.ga K "InvalidNotes") "__init__") fd) : FnOk P w K mg base (L2.CX P w) 1 (He.ma K (He.ga K "InvalidNotes") "__init__") fd ["self", "index"] (initSp K "index") :=
  init_ok F si_InvalidNotes rfl rfl rfl (Or.inl rfl) (Or.inl rfl) (fun _ => rfl) (by decide) (by decide) (by decide) (by decide)
theorem bind_InvalidNotes (x : Fx K mg base) {fd : FuncData} (F : Fun K "__init__" "InvalidNotes.__init__" s_InvalidNotes (He.ma K (He.ga K "InvalidNotes") "__init__") fd) : Binds K fd ["self", "index"] [] := F.binds (fun _ _ _ _ _ _ us hl => match us, hl with | [_, _], _ => rfl)
def mt_InvalidNotes : Str → Option Bool := fun c => if c = "InvalidLine" then some false else if c = "InvalidNotes" then some true else none
theorem hm_InvalidNotes (x : Fx K mg base) : ∀ cn C b, (gd K).clsA cn = some C → mt_InvalidNotes cn = some b → PySem.W.exmOne K (.ref C) (.ref (He.ga K "InvalidNotes")) = some b := by
  intro cn C b h1 h2
  unfold mt_InvalidNotes at h2
  simp only [gd] at h1
  by_cases e_InvalidLine : cn = "InvalidLine"
  · rw [if_pos e_InvalidLine] at h1 h2; cases h1; cases h2; exact x.m_InvalidLine_InvalidNotes
  rw [if_neg e_InvalidLine] at h1 h2
  by_cases e_InvalidNotes : cn = "InvalidNotes"
  · rw [if_pos e_InvalidNotes] at h1 h2; cases h1; cases h2; exact x.m_InvalidNotes_InvalidNotes
  rw [if_neg e_InvalidNotes] at h1 h2
  cases h1
theorem hx_InvalidNotes (x : Fx K mg base) : ∀ cn C, (gd K).clsA cn = some C → mt_InvalidNotes cn = some true → XfC K C ∧ PySem.W.findIn K (.ref C) "index" = some none ∧ (gd K).clsF cn = "index" := by
  intro cn C h1 h2
  unfold mt_InvalidNotes at h2
  simp only [gd] at h1 ⊢
  by_cases e_InvalidLine : cn = "InvalidLine"
  · rw [if_pos e_InvalidLine] at h2; cases h2
  rw [if_neg e_InvalidLine] at h1 h2
  by_cases e_InvalidNotes : cn = "InvalidNotes"
  · rw [if_pos e_InvalidNotes] at h1; cases h1; subst e_InvalidNotes; exact ⟨x.xf_InvalidNotes, x.no_InvalidNotes, rfl⟩
  rw [if_neg e_InvalidNotes] at h1 h2
  cases h1
def mt_InvalidLine : Str → Option Bool := fun c => if c = "InvalidLine" then some true else if c = "InvalidNotes" then some false else none
theorem hm_InvalidLine (x : Fx K mg base) : ∀ cn C b, (gd K).clsA cn = some C → mt_InvalidLine cn = some b → PySem.W.exmOne K (.ref C) (.ref (He.ga K "InvalidLine")) = some b := by
  intro cn C b h1 h2
  unfold mt_InvalidLine at h2
  simp only [gd] at h1
  by_cases e_InvalidLine : cn = "InvalidLine"
  · rw [if_pos e_InvalidLine] at h1 h2; cases h1; cases h2; exact x.m_InvalidLine_InvalidLine
  rw [if_neg e_InvalidLine] at h1 h2
  by_cases e_InvalidNotes : cn = "InvalidNotes"
  · rw [if_pos e_InvalidNotes] at h1 h2; cases h1; cases h2; exact x.m_InvalidNotes_InvalidLine
  rw [if_neg e_InvalidNotes] at h1 h2
  cases h1
theorem hx_InvalidLine (x : Fx K mg base) : ∀ cn C, (gd K).clsA cn = some C → mt_InvalidLine cn = some true → XfC K C ∧ PySem.W.findIn K (.ref C) "given" = some none ∧ (gd K).clsF cn = "given" := by
  intro cn C h1 h2
  unfold mt_InvalidLine at h2
  simp only [gd] at h1 ⊢
  by_cases e_InvalidLine : cn = "InvalidLine"
  · rw [if_pos e_InvalidLine] at h1; cases h1; subst e_InvalidLine; exact ⟨x.xf_InvalidLine, x.no_InvalidLine, rfl⟩
  rw [if_neg e_InvalidLine] at h1 h2
  by_cases e_InvalidNotes : cn = "InvalidNotes"
  · rw [if_pos e_InvalidNotes] at h2; cases h2
  rw [if_neg e_InvalidNotes] at h1 h2
  cases h1
def f_is_whole : SemS :=
  (mRet (mAndV (mIs "int" (mVar 0)) (mNotV (mIs "bool" (mVar 0)))))
def F_is_whole : SemF := runF 1 (f_is_whole)
theorem sc_is_whole : FnScope ["value"] ["value"] (defScope s_is_whole) := ⟨rfl, rfl, rfl, by decide +kernel, rfl, by decide +kernel, by decide +kernel⟩
theorem ok_is_whole (x : Fx K mg base) : DefOk P w K mg base (gd K) (1) "is_whole" ["value"] (F_is_whole) :=
  def_ok x.d_is_whole x.g_is_whole sc_is_whole (by decide +kernel) (fun _ _ _ _ _ _ us hl => match us, hl with | [_], _ => rfl) (fun _ _ _ _ _ _ us hl => match us, hl with | [_], _ => rfl) (fun cdv A outer s H E hcd hr X hX tk hp cn => by
    subst hX
    have ND := sc_is_whole.nd
    exact (sl_one (ss_ret (se_and (se_is (T := "int") (by decide) rfl (se_var 0 rfl (Or.inl rfl)) rfl x.n_isinstance b_isinstance rfl x.n_int b_int) (se_one (se_not (se_is (T := "bool") (by decide) rfl (se_var 0 rfl (Or.inl rfl)) rfl x.n_isinstance b_isinstance rfl x.n_bool b_bool)))))))
def f_is_number : SemS :=
  (mSeq (mIfS (mOrT (mNotT (mTru (mCall F_is_whole (mCons (mVar 0) mNil)))) (mAndT (mTst (mOp (gIsN true) (mVar 1) (mC .none))) (mTst (mOp (gD2 ltD) (mVar 0) (mVar 1))))) (mRet (mC (.bool false))) mNext)
    (mRet (mOrV (mOp (gIsN false) (mVar 2) (mC .none)) (mOp (gD2 leD) (mVar 0) (mVar 2)))))
def F_is_number : SemF := runF 3 (f_is_number)
theorem sc_is_number : FnScope ["value", "low", "high"] ["value", "low", "high"] (defScope s_is_number) := ⟨rfl, rfl, rfl, by decide +kernel, rfl, by decide +kernel, by decide +kernel⟩
theorem ok_is_number (x : Fx K mg base) : DefOk P w K mg base (gd K) (2) "is_number" ["value", "low", "high"] (F_is_number) :=
  def_ok x.d_is_number x.g_is_number sc_is_number (by decide +kernel) (fun _ _ _ _ _ _ us hl => match us, hl with | [_, _, _], _ => rfl) (fun _ _ _ _ _ _ us hl => match us, hl with | [_, _, _], _ => rfl) (fun cdv A outer s H E hcd hr X hX tk hp cn => by
    subst hX
    have ND := sc_is_number.nd
    exact (sl_cons (ss_if (st_of (sw_or (st_not (st_val rfl (se_callD (ok_is_whole x) hr (by decide) rfl tk rfl (sa_cons (se_var 0 rfl (Or.inl rfl)) sa_nil) (mCons_len (fun _ _ _ _ h => mNil_len h))))) (sw_or1 (st_of (sw_and (st_notN (se_var 1 rfl (Or.inl rfl)) se_none) (sw_and1 (st_lt rfl hr.room (se_var 0 rfl (Or.inl rfl)) (se_var 1 rfl (Or.inl rfl))))))))) (sl_one (ss_ret se_bool)) sl_nil)
    (sl_one (ss_ret (se_or (se_isN (se_var 2 rfl (Or.inl rfl)) se_none) (se_one (se_le rfl hr.room (se_var 0 rfl (Or.inl rfl)) (se_var 2 rfl (Or.inl rfl)))))))))
def f_is_figures : SemS :=
  (mSeq (mIfS (mOrT (mTst (mOp (gD2 eqD) (mVar 0) (mC (.str "")))) (mNotT (mTru (mCB gAllL (mCons (mLc (mSeqI (mVar 0)) [1] (mG 1) (fun _ st => .ok true st) (mOp (gD2 (inD false)) (mVar 1) (mC (.str "0123456789")))) mNil))))) (mRet (mC (.bool false))) mNext)
    (mRet (mOrV (mOp (gD2 eqD) (mVar 0) (mC (.str "0"))) (mOp (gD2 neD) (mOp gIx (mVar 0) (mC (.int 0))) (mC (.str "0"))))))
def F_is_figures : SemF := runF 2 (f_is_figures)
theorem sc_is_figures : FnScope ["word", "sign"] ["word"] (defScope s_is_figures) := ⟨rfl, rfl, rfl, by decide +kernel, rfl, by decide +kernel, by decide +kernel⟩
theorem ok_is_figures (x : Fx K mg base) : DefOk P w K mg base (gd K) (1) "is_figures" ["word"] (F_is_figures) :=
  def_ok x.d_is_figures x.g_is_figures sc_is_figures (by decide +kernel) (fun _ _ _ _ _ _ us hl => match us, hl with | [_], _ => rfl) (fun _ _ _ _ _ _ us hl => match us, hl with | [_], _ => rfl) (fun cdv A outer s H E hcd hr X hX tk hp cn => by
    subst hX
    have ND := sc_is_figures.nd
    exact (sl_cons (ss_if (st_of (sw_or (st_eq rfl hr.room (se_var 0 rfl (Or.inl rfl)) se_str) (sw_or1 (st_not (st_val rfl (se_callB (cr_all rfl) cs_all rfl x.n_all b_all (sa_cons (se_lc (own := [("sign", 1)]) rfl ND (si_seq rfl (se_var 0 rfl (Or.inl rfl))) (blkOk_by (by kernel_rfl)) (fun s_ H_ C_ cl_ fp_ => (wg_name (i := 1) (by decide) ND rfl (Or.inl rfl))) (fun s_ H_ C_ cl_ fp_ => sts_nil) (fun s_ H_ C_ cl_ fp_ => (se_in rfl hr.room (se_var 1 rfl (Or.inl rfl)) (se_glS rfl x.c_FIGURES)))) sa_nil))))))) (sl_one (ss_ret se_bool)) sl_nil)
    (sl_one (ss_ret (se_or (se_eq rfl hr.room (se_var 0 rfl (Or.inl rfl)) se_str) (se_one (se_ne rfl hr.room (se_ix rfl (se_var 0 rfl (Or.inl rfl)) se_int) se_str)))))))
def f_wrong_at (ap : U → SemF) : SemS :=
  (mSeq (mIfS (mNotT (mTru (mIs "tuple" (mVar 0)))) (mRet (mLst (mCons (mC .none) mNil))) mNext)
    (mSeq (mFor (mEnum (mVar 0)) (mGTup 2 (fun us en st => if hasOwnL us.tail = false then mGCons (mG 3) (fun us en st => if hasOwnL us.tail = false then mGCons (mG 4) mGNil us en st else .bad) us en st else .bad))
    (mIfS (mOrT (mAndT (mTst (mOp (gIsN true) (mVar 1) (mC .none))) (mTst (mOp (gD2 geD) (mVar 3) (mVar 1)))) (mNotT (mTru (mCallV ap 2 (mCons (mVar 4) (mCons (mSl (mVar 0) mNoPart (mPart (mVar 3))) mNil)))))) (mRet (mLst (mCons (mVar 3) mNil))) mNext))
    (mRet (mLst mNil))))
def F_wrong_at (ap : U → SemF) : SemF := runF 5 (f_wrong_at ap)
theorem sc_wrong_at : FnScope ["value", "most", "is_right", "at", "each"] ["value", "most", "is_right"] (defScope s_wrong_at) := ⟨rfl, rfl, rfl, by decide +kernel, rfl, by decide +kernel, by decide +kernel⟩
theorem ok_wrong_at (x : Fx K mg base) {k0 : Nat} (ap : U → SemF) (hk : 0 ≤ k0) (hap : APOk P w K mg base (gd K) k0 ap) : DefOk P w K mg base (gd K) (k0 + 0 + 1) "wrong_at" ["value", "most", "is_right"] (F_wrong_at ap) :=
  def_ok x.d_wrong_at x.g_wrong_at sc_wrong_at (by decide +kernel) (fun _ _ _ _ _ _ us hl => match us, hl with | [_, _, _], _ => rfl) (fun _ _ _ _ _ _ us hl => match us, hl with | [_, _, _], _ => rfl) (fun cdv A outer s H E hcd hr X hX tk hp cn => by
    subst hX
    have ND := sc_wrong_at.nd
    exact (sl_cons (ss_if (st_not (st_val rfl (se_is (T := "tuple") (by decide) rfl (se_var 0 rfl (Or.inl rfl)) rfl x.n_isinstance b_isinstance rfl x.n_tuple b_tuple))) (sl_one (ss_ret (se_lst (sa_cons se_none sa_nil)))) sl_nil)
    (sl_cons (ss_for hp rfl (si_enum rfl rfl x.n_enumerate (se_var 0 rfl (Or.inl rfl))) (sg_tup rfl rfl (sgs_cons (sg_name (i := 3) ND rfl (Or.inl rfl) (nc_def cn rfl rfl)) (sgs_cons (sg_name (i := 4) ND rfl (Or.inl rfl) (nc_def cn rfl rfl)) sgs_nil)))
    (sl_one (ss_if (st_of (sw_or (st_of (sw_and (st_notN (se_var 1 rfl (Or.inl rfl)) se_none) (sw_and1 (st_ge rfl hr.room (se_var 3 rfl (Or.inl rfl)) (se_var 1 rfl (Or.inl rfl)))))) (sw_or1 (st_not (st_val rfl (se_callV (i := 2) (hap.mono (by omega)) hr tk rfl (Or.inl rfl) (sa_cons (se_var 4 rfl (Or.inl rfl)) (sa_cons (se_sl rfl (se_var 0 rfl (Or.inl rfl)) so_none (so_some (se_var 3 rfl (Or.inl rfl)))) sa_nil)))))))) (sl_one (ss_ret (se_lst (sa_cons (se_var 3 rfl (Or.inl rfl)) sa_nil)))) sl_nil)))
    (sl_one (ss_ret (se_lst sa_nil))))))
def f_wrong_from_one (ap : U → SemF) : SemS :=
  (mRet (mIf (mAndT (mTru (mIs "tuple" (mVar 0))) (mTst (mOp (gD2 eqD) (mVar 0) (mTup mNil)))) (mLst (mCons (mC .none) mNil)) (mCall (F_wrong_at ap) (mCons (mVar 0) (mCons (mVar 1) (mCons (mVar 2) mNil))))))
def F_wrong_from_one (ap : U → SemF) : SemF := runF 3 (f_wrong_from_one ap)
theorem sc_wrong_from_one : FnScope ["value", "most", "is_right"] ["value", "most", "is_right"] (defScope s_wrong_from_one) := ⟨rfl, rfl, rfl, by decide +kernel, rfl, by decide +kernel, by decide +kernel⟩
theorem ok_wrong_from_one (x : Fx K mg base) {k0 : Nat} (ap : U → SemF) (hk : 0 ≤ k0) (hap : APOk P w K mg base (gd K) k0 ap) : DefOk P w K mg base (gd K) (k0 + 1 + 1) "wrong_from_one" ["value", "most", "is_right"] (F_wrong_from_one ap) :=
  def_ok x.d_wrong_from_one x.g_wrong_from_one sc_wrong_from_one (by decide +kernel) (fun _ _ _ _ _ _ us hl => match us, hl with | [_, _, _], _ => rfl) (fun _ _ _ _ _ _ us hl => match us, hl with | [_, _, _], _ => rfl) (fun cdv A outer s H E hcd hr X hX tk hp cn => by
    subst hX
    have ND := sc_wrong_from_one.nd
    exact (sl_one (ss_ret (se_if (st_of (sw_and (st_val rfl (se_is (T := "tuple") (by decide) rfl (se_var 0 rfl (Or.inl rfl)) rfl x.n_isinstance b_isinstance rfl x.n_tuple b_tuple)) (sw_and1 (st_eq rfl hr.room (se_var 0 rfl (Or.inl rfl)) (se_tup sa_nil))))) (se_lst (sa_cons se_none sa_nil)) (se_callD (ok_wrong_at x ap hk hap) hr (by omega) rfl tk rfl (sa_cons (se_var 0 rfl (Or.inl rfl)) (sa_cons (se_var 1 rfl (Or.inl rfl)) (sa_cons (se_var 2 rfl (Or.inl rfl)) sa_nil))) (mCons_len (mCons_len (mCons_len (fun _ _ _ _ h => mNil_len h)))))))))
def f_line_of : SemS :=
  (mRet (mM1 gJoin (mC (.str " ")) (mLc (mSeqI (mVar 0)) [1] (mG 1) (fun _ st => .ok true st) (mIf (mTst (mOp (gIsN false) (mVar 1) (mC .none))) (mC (.str "-")) (mCB gStrI (mCons (mVar 1) mNil))))))
def F_line_of : SemF := runF 2 (f_line_of)
theorem sc_line_of : FnScope ["notes", "note"] ["notes"] (defScope s_line_of) := ⟨rfl, rfl, rfl, by decide +kernel, rfl, by decide +kernel, by decide +kernel⟩
theorem ok_line_of (x : Fx K mg base) : DefOk P w K mg base (gd K) (1) "line_of" ["notes"] (F_line_of) :=
  def_ok x.d_line_of x.g_line_of sc_line_of (by decide +kernel) (fun _ _ _ _ _ _ us hl => match us, hl with | [_], _ => rfl) (fun _ _ _ _ _ _ us hl => match us, hl with | [_], _ => rfl) (fun cdv A outer s H E hcd hr X hX tk hp cn => by
    subst hX
    have ND := sc_line_of.nd
    exact (sl_one (ss_ret (se_join rfl se_str (se_lc (own := [("note", 1)]) rfl ND (si_seq rfl (se_var 0 rfl (Or.inl rfl))) (blkOk_by (by kernel_rfl)) (fun s_ H_ C_ cl_ fp_ => (wg_name (i := 1) (by decide) ND rfl (Or.inl rfl))) (fun s_ H_ C_ cl_ fp_ => sts_nil) (fun s_ H_ C_ cl_ fp_ => (se_if (st_isN (se_var 1 rfl (Or.inl rfl)) se_none) (se_glS rfl x.c_OPEN) (se_callTy call_str_int cs_strI rfl x.n_str b_str (sa_cons (se_var 1 rfl (Or.inl rfl)) sa_nil)))))))))
def f_notes_told : SemS :=
  (mSeq (mAsgT (mM1 gSplit (mVar 0) (mC (.str " "))) (mG 1))
    (mSeq (mIfS (mNotT (mTru (mCB gAllL (mCons (mLc (mSeqI (mVar 1)) [2] (mG 2) (fun _ st => .ok true st) (mOrV (mOp (gD2 eqD) (mVar 2) (mC (.str "-"))) (mCall F_is_figures (mCons (mVar 2) mNil)))) mNil)))) (mRet (mLst mNil)) mNext)
    (mRet (mLst (mCons (mCB gTuple (mCons (mLc (mSeqI (mVar 1)) [2] (mG 2) (fun _ st => .ok true st) (mIf (mTst (mOp (gD2 eqD) (mVar 2) (mC (.str "-")))) (mC .none) (mCB gInt (mCons (mVar 2) mNil)))) mNil)) mNil)))))
def F_notes_told : SemF := runF 3 (f_notes_told)
theorem sc_notes_told : FnScope ["line", "words", "word"] ["line"] (defScope s_notes_told) := ⟨rfl, rfl, rfl, by decide +kernel, rfl, by decide +kernel, by decide +kernel⟩
theorem ok_notes_told (x : Fx K mg base) : DefOk P w K mg base (gd K) (2) "notes_told" ["line"] (F_notes_told) :=
  def_ok x.d_notes_told x.g_notes_told sc_notes_told (by decide +kernel) (fun _ _ _ _ _ _ us hl => match us, hl with | [_], _ => rfl) (fun _ _ _ _ _ _ us hl => match us, hl with | [_], _ => rfl) (fun cdv A outer s H E hcd hr X hX tk hp cn => by
    subst hX
    have ND := sc_notes_told.nd
    exact (sl_cons (ss_set (i := 1) ND rfl (Or.inl rfl) (se_split (se_var 0 rfl (Or.inl rfl)) se_str) (nc_def cn rfl rfl))
    (sl_cons (ss_if (st_not (st_val rfl (se_callB (cr_all rfl) cs_all rfl x.n_all b_all (sa_cons (se_lc (own := [("word", 2)]) rfl ND (si_seq rfl (se_var 1 rfl (Or.inl rfl))) (blkOk_by (by kernel_rfl)) (fun s_ H_ C_ cl_ fp_ => (wg_name (i := 2) (by decide) ND rfl (Or.inl rfl))) (fun s_ H_ C_ cl_ fp_ => sts_nil) (fun s_ H_ C_ cl_ fp_ => (se_or (se_eq rfl hr.room (se_var 2 rfl (Or.inl rfl)) (se_glS rfl x.c_OPEN)) (se_one (se_callD (ok_is_figures x) hr (by decide) rfl tk0 rfl (sa_cons (se_var 2 rfl (Or.inl rfl)) sa_nil) (mCons_len (fun _ _ _ _ h => mNil_len h))))))) sa_nil)))) (sl_one (ss_ret (se_lst sa_nil))) sl_nil)
    (sl_one (ss_ret (se_lst (sa_cons (se_callTy call_tuple_of cs_tuple rfl x.n_tuple b_tuple (sa_cons (se_lc (own := [("word", 2)]) rfl ND (si_seq rfl (se_var 1 rfl (Or.inl rfl))) (blkOk_by (by kernel_rfl)) (fun s_ H_ C_ cl_ fp_ => (wg_name (i := 2) (by decide) ND rfl (Or.inl rfl))) (fun s_ H_ C_ cl_ fp_ => sts_nil) (fun s_ H_ C_ cl_ fp_ => (se_if (st_eq rfl hr.room (se_var 2 rfl (Or.inl rfl)) (se_glS rfl x.c_OPEN)) se_none (se_callTy call_int cs_int rfl x.n_int b_int (sa_cons (se_var 2 rfl (Or.inl rfl)) sa_nil))))) sa_nil)) sa_nil)))))))
def C_0 : List U → SemF := runCE 2 (mOrV (mOp (gIsN false) (mVar 0) (mC .none)) (mCall F_is_number (mCons (mVar 0) (mCons (mC (.int 0)) (mCons (mC (.int 8)) mNil)))))
theorem ns_0 : NScope ["each", "before"] ["each", "before"] [] (c_0).scope := nscope_by (by kernel_rfl)
theorem cok_0 (x : Fx K mg base) : COk P w K mg base (gd K) 3 0 2 C_0 :=
  cok_lam (ci := c_0) (N := ["each", "before"]) (ps := ["each", "before"]) rfl rfl ns_0 (fun F doc pm ctv us hF hl => by
    obtain ⟨n, q, pa, b, s, cl, c⟩ := F
    have e : pa = (c_0).params := hF
    subst e
    match us, hl with | [_, _], _ => rfl) (fun A outer s H E f c cl hr hcl X hX tk hp cn => by
    subst hX
    have ND := ns_0.nd
    exact (se_or (se_isN (se_var 0 rfl (Or.inl rfl)) se_none) (se_one (se_callD (ok_is_number x) hr (by decide) rfl tk rfl (sa_cons (se_var 0 rfl (Or.inl rfl)) (sa_cons se_int (sa_cons (se_glI rfl x.c_MOST_HIGH) sa_nil))) (mCons_len (mCons_len (mCons_len (fun _ _ _ _ h => mNil_len h))))))))
def f_wrong_line : SemS :=
  (mRet (mCall (F_wrong_from_one (apC 0 2 C_0 apNil)) (mCons (mVar 0) (mCons (mC .none) (mCons (mLam 0 []) mNil)))))
def F_wrong_line : SemF := runF 1 (f_wrong_line)
theorem sc_wrong_line : FnScope ["value"] ["value"] (defScope s_wrong_line) := ⟨rfl, rfl, rfl, by decide +kernel, rfl, by decide +kernel, by decide +kernel⟩
theorem ok_wrong_line (x : Fx K mg base) : DefOk P w K mg base (gd K) (6) "wrong_line" ["value"] (F_wrong_line) :=
  def_ok x.d_wrong_line x.g_wrong_line sc_wrong_line (by decide +kernel) (fun _ _ _ _ _ _ us hl => match us, hl with | [_], _ => rfl) (fun _ _ _ _ _ _ us hl => match us, hl with | [_], _ => rfl) (fun cdv A outer s H E hcd hr X hX tk hp cn => by
    subst hX
    have ND := sc_wrong_line.nd
    exact (sl_one (ss_ret (se_callD (ok_wrong_from_one x (k0 := 3) (apC 0 2 C_0 apNil) (by decide) (apC_ok ((cok_0 x).mono (by decide)) (apNil_ok (gd_fns x)))) hr (by decide) rfl tk rfl (sa_cons (se_var 0 rfl (Or.inl rfl)) (sa_cons se_none (sa_cons (se_lamB (js := []) (fr := []) x.t_wrong_line hcd tm_wrong_line (hu_wrong_line x) rfl rfl rfl (by kernel_rfl) rfl) sa_nil))) (mCons_len (mCons_len (mCons_len (fun _ _ _ _ h => mNil_len h))))))))
def f_notes_line : SemS :=
  (mSeq (mFor (mSeqI (mCall F_wrong_line (mCons (mVar 0) mNil))) (mG 1)
    (mRaise "InvalidNotes" (mVar 1)))
    (mRet (mCall F_line_of (mCons (mVar 0) mNil))))
def F_notes_line : SemF := runF 2 (f_notes_line)
theorem sc_notes_line : FnScope ["notes", "at"] ["notes"] (defScope s_notes_line) := ⟨rfl, rfl, rfl, by decide +kernel, rfl, by decide +kernel, by decide +kernel⟩
theorem ok_notes_line (x : Fx K mg base) : DefOk P w K mg base (gd K) (7) "notes_line" ["notes"] (F_notes_line) :=
  def_ok x.d_notes_line x.g_notes_line sc_notes_line (by decide +kernel) (fun _ _ _ _ _ _ us hl => match us, hl with | [_], _ => rfl) (fun _ _ _ _ _ _ us hl => match us, hl with | [_], _ => rfl) (fun cdv A outer s H E hcd hr X hX tk hp cn => by
    subst hX
    have ND := sc_notes_line.nd
    obtain ⟨fI_InvalidNotes, dI_InvalidNotes⟩ := x.d_InvalidNotes
    exact (sl_cons (ss_for hp rfl (si_seq rfl (se_callD (ok_wrong_line x) hr (by decide) rfl tk rfl (sa_cons (se_var 0 rfl (Or.inl rfl)) sa_nil) (mCons_len (fun _ _ _ _ h => mNil_len h)))) (sg_name (i := 1) ND rfl (Or.inl rfl) (nc_def cn rfl rfl))
    (sl_one (ss_raise (f := "index") rfl rfl x.e_InvalidNotes x.iC_InvalidNotes x.tI_InvalidNotes x.no_InvalidNotes (init_InvalidNotes x dI_InvalidNotes) (hr.mono (by decide)) (bind_InvalidNotes x dI_InvalidNotes) rfl x.g_InvalidNotes rfl tk (se_var 1 rfl (Or.inl rfl)))))
    (sl_one (ss_ret (se_callD (ok_line_of x) hr (by decide) rfl tk rfl (sa_cons (se_var 0 rfl (Or.inl rfl)) sa_nil) (mCons_len (fun _ _ _ _ h => mNil_len h)))))))
def f_read_notes : SemS :=
  (mSeq (mFor (mSeqI (mIf (mTru (mIs "str" (mVar 0))) (mCall F_notes_told (mCons (mVar 0) mNil)) (mLst mNil))) (mG 1)
    (mIfS (mTst (mOp (gD2 eqD) (mCall F_wrong_line (mCons (mVar 1) mNil)) (mLst mNil))) (mRet (mVar 1)) mNext))
    (mRaise "InvalidLine" (mVar 0)))
def F_read_notes : SemF := runF 2 (f_read_notes)
theorem sc_read_notes : FnScope ["line", "notes"] ["line"] (defScope s_read_notes) := ⟨rfl, rfl, rfl, by decide +kernel, rfl, by decide +kernel, by decide +kernel⟩
theorem ok_read_notes (x : Fx K mg base) : DefOk P w K mg base (gd K) (7) "read_notes" ["line"] (F_read_notes) :=
  def_ok x.d_read_notes x.g_read_notes sc_read_notes (by decide +kernel) (fun _ _ _ _ _ _ us hl => match us, hl with | [_], _ => rfl) (fun _ _ _ _ _ _ us hl => match us, hl with | [_], _ => rfl) (fun cdv A outer s H E hcd hr X hX tk hp cn => by
    subst hX
    have ND := sc_read_notes.nd
    obtain ⟨fI_InvalidLine, dI_InvalidLine⟩ := x.d_InvalidLine
    exact (sl_cons (ss_for hp rfl (si_seq rfl (se_if (st_val rfl (se_is (T := "str") (by decide) rfl (se_var 0 rfl (Or.inl rfl)) rfl x.n_isinstance b_isinstance rfl x.n_str b_str)) (se_callD (ok_notes_told x) hr (by decide) rfl tk rfl (sa_cons (se_var 0 rfl (Or.inl rfl)) sa_nil) (mCons_len (fun _ _ _ _ h => mNil_len h))) (se_lst sa_nil))) (sg_name (i := 1) ND rfl (Or.inl rfl) (nc_def cn rfl rfl))
    (sl_one (ss_if (st_eq rfl hr.room (se_callD (ok_wrong_line x) hr (by decide) rfl tk rfl (sa_cons (se_var 1 rfl (Or.inl rfl)) sa_nil) (mCons_len (fun _ _ _ _ h => mNil_len h))) (se_lst sa_nil)) (sl_one (ss_ret (se_var 1 rfl (Or.inl rfl)))) sl_nil)))
    (sl_one (ss_raise (f := "given") rfl rfl x.e_InvalidLine x.iC_InvalidLine x.tI_InvalidLine x.no_InvalidLine (init_InvalidLine x dI_InvalidLine) (hr.mono (by decide)) (bind_InvalidLine x dI_InvalidLine) rfl x.g_InvalidLine rfl tk (se_var 0 rfl (Or.inl rfl))))))
def f__law_well : SemS :=
  (mSeq (mAsgT (mOp (gD2 addD) (mC (.int 1522108)) (mOp (gD2 mulI) (mC (.int 5231)) (mVar 1))) (mG 2))
    (mSeq (mFor (mSeqI (mSl (mVar 0) mNoPart (mPart (mC (.int 9))))) (mG 3)
    (mAsgT (mOp (gD2 modD) (mCB gInt (mCons (mOp (gD2 addD) (mOp (gD2 addD) (mOp (gD2 mulI) (mVar 2) (mC (.int 47521))) (mOp (gD2 modD) (mCB gInt (mCons (mVar 3) mNil)) (mC (.int 2147483549)))) (mC (.int 41))) mNil)) (mC (.int 2147483629))) (mG 2)))
    (mSeq (mAsgT (mIf (mTst (mOp (gD2 ltD) (mVar 1) (mCB gLen (mCons (mVar 0) mNil)))) (mCB gInt (mCons (mOp gIx (mVar 0) (mVar 1)) mNil)) (mC (.int 0))) (mG 4))
    (mSeq (mAsgT (mOp (gD2 modD) (mCB gInt (mCons (mOp (gD2 addD) (mOp (gD2 addD) (mOp (gD2 mulI) (mVar 2) (mC (.int 61))) (mOp (gD2 mulI) (mOp (gD2 modD) (mCB gInt (mCons (mVar 4) mNil)) (mC (.int 2147483549))) (mC (.int 16007)))) (mC (.int 17))) mNil)) (mC (.int 2147483629))) (mG 2))
    (mRet (mRef (mCons (mIf (mOrT (mTst (mOp (gD2 ltD) (mVar 4) (mC (.int 0)))) (mTst (mOp (gD2 geD) (mVar 4) (mOp (gD2 powD) (mC (.int 10)) (mC (.int 15)))))) (mCB gAbs (mCons (mVar 4) mNil)) (mC (.int 0))) (mCons (mVar 2) (mCons (mC (.int 0)) mNil)))))))))
def F__law_well : SemF := runF 5 (f__law_well)
theorem sc__law_well : FnScope ["script", "lap", "stirred", "cell", "own"] ["script", "lap"] (defScope s__law_well) := ⟨rfl, rfl, rfl, by decide +kernel, rfl, by decide +kernel, by decide +kernel⟩
theorem ok__law_well (x : Fx K mg base) : DefOk P w K mg base (gd K) (1) "_law_well" ["script", "lap"] (F__law_well) :=
  def_ok x.d__law_well x.g__law_well sc__law_well (by decide +kernel) (fun _ _ _ _ _ _ us hl => match us, hl with | [_, _], _ => rfl) (fun _ _ _ _ _ _ us hl => match us, hl with | [_, _], _ => rfl) (fun cdv A outer s H E hcd hr X hX tk hp cn => by
    subst hX
    have ND := sc__law_well.nd
    exact (sl_cons (ss_set (i := 2) ND rfl (Or.inl rfl) (se_add rfl se_int (se_mul rfl se_int (se_var 1 rfl (Or.inl rfl)))) (nc_def cn rfl rfl))
    (sl_cons (ss_for hp rfl (si_seq rfl (se_sl rfl (se_var 0 rfl (Or.inl rfl)) so_none (so_some se_int))) (sg_name (i := 3) ND rfl (Or.inl rfl) (nc_def cn rfl rfl))
    (sl_one (ss_set (i := 2) ND rfl (Or.inl rfl) (se_mod rfl (se_callTy call_int cs_int rfl x.n_int b_int (sa_cons (se_add rfl (se_add rfl (se_mul rfl (se_var 2 rfl (Or.inl rfl)) se_int) (se_mod rfl (se_callTy call_int cs_int rfl x.n_int b_int (sa_cons (se_var 3 rfl (Or.inl rfl)) sa_nil)) se_int)) se_int) sa_nil)) se_int) (nc_def cn rfl rfl))))
    (sl_cons (ss_set (i := 4) ND rfl (Or.inl rfl) (se_if (st_lt rfl hr.room (se_var 1 rfl (Or.inl rfl)) (se_callB call_len cs_len rfl x.n_len b_len (sa_cons (se_var 0 rfl (Or.inl rfl)) sa_nil))) (se_callTy call_int cs_int rfl x.n_int b_int (sa_cons (se_ix rfl (se_var 0 rfl (Or.inl rfl)) (se_var 1 rfl (Or.inl rfl))) sa_nil)) se_int) (nc_def cn rfl rfl))
    (sl_cons (ss_set (i := 2) ND rfl (Or.inl rfl) (se_mod rfl (se_callTy call_int cs_int rfl x.n_int b_int (sa_cons (se_add rfl (se_add rfl (se_mul rfl (se_var 2 rfl (Or.inl rfl)) se_int) (se_mul rfl (se_mod rfl (se_callTy call_int cs_int rfl x.n_int b_int (sa_cons (se_var 4 rfl (Or.inl rfl)) sa_nil)) se_int) se_int)) se_int) sa_nil)) se_int) (nc_def cn rfl rfl))
    (sl_one (ss_ret (se_ref (sa_cons (se_if (st_of (sw_or (st_lt rfl hr.room (se_var 4 rfl (Or.inl rfl)) se_int) (sw_or1 (st_ge rfl hr.room (se_var 4 rfl (Or.inl rfl)) (se_pow rfl se_int se_int))))) (se_callB call_abs cs_abs rfl x.n_abs b_abs (sa_cons (se_var 4 rfl (Or.inl rfl)) sa_nil)) se_int) (sa_cons (se_var 2 rfl (Or.inl rfl)) (sa_cons se_int sa_nil)))))))))))
def f__law_draw : SemS :=
  (mSeq (mIfS (mTst (mOp (gD2 gtD) (mOp gIx (mVar 0) (mC (.int 0))) (mC (.int 0)))) (mSeq (mAsgT (mCB gDivmod (mCons (mOp gIx (mVar 0) (mC (.int 0))) (mCons (mVar 1) mNil))) (mGTup 2 (fun us en st => if hasOwnL us.tail = false then mGCons (mGSub (mVar 0) (mC (.int 0))) (fun us en st => if hasOwnL us.tail = false then mGCons (mG 2) mGNil us en st else .bad) us en st else .bad)))
    (mRet (mVar 2))) mNext)
    (mSeq (mAsgT (mOp (gD2 addD) (mOp gIx (mVar 0) (mC (.int 2))) (mC (.int 1))) (mGSub (mVar 0) (mC (.int 2))))
    (mSeq (mAsgT (mOp (gD2 modD) (mCB gInt (mCons (mOp (gD2 addD) (mOp (gD2 mulI) (mOp gIx (mVar 0) (mC (.int 1))) (mC (.int 40009))) (mOp (gD2 mulI) (mC (.int 15013)) (mOp gIx (mVar 0) (mC (.int 2))))) mNil)) (mC (.int 2147483629))) (mG 3))
    (mSeq (mAsgT (mOp (gD2 modD) (mCB gInt (mCons (mOp (gD2 addD) (mOp (gD2 mulI) (mVar 3) (mOp (gD2 addD) (mOp (gD2 modD) (mCB gInt (mCons (mVar 3) mNil)) (mC (.int 5003))) (mC (.int 20011)))) (mOp gIx (mVar 0) (mC (.int 2)))) mNil)) (mC (.int 2147483629))) (mGSub (mVar 0) (mC (.int 1))))
    (mRet (mOp (gD2 modD) (mCB gInt (mCons (mOp (gD2 fdivD) (mOp gIx (mVar 0) (mC (.int 1))) (mC (.int 1031))) mNil)) (mVar 1)))))))
def F__law_draw : SemF := runF 4 (f__law_draw)
theorem sc__law_draw : FnScope ["well", "limit", "figure", "mixed"] ["well", "limit"] (defScope s__law_draw) := ⟨rfl, rfl, rfl, by decide +kernel, rfl, by decide +kernel, by decide +kernel⟩
theorem ok__law_draw (x : Fx K mg base) : DefOk P w K mg base (gd K) (1) "_law_draw" ["well", "limit"] (F__law_draw) :=
  def_ok x.d__law_draw x.g__law_draw sc__law_draw (by decide +kernel) (fun _ _ _ _ _ _ us hl => match us, hl with | [_, _], _ => rfl) (fun _ _ _ _ _ _ us hl => match us, hl with | [_, _], _ => rfl) (fun cdv A outer s H E hcd hr X hX tk hp cn => by
    subst hX
    have ND := sc__law_draw.nd
    exact (sl_cons (ss_if (st_gt rfl hr.room (se_ix rfl (se_var 0 rfl (Or.inl rfl)) se_int) se_int) (sl_cons (ss_asg (se_callB call_divmod cs_divmod rfl x.n_divmod b_divmod (sa_cons (se_ix rfl (se_var 0 rfl (Or.inl rfl)) se_int) (sa_cons (se_var 1 rfl (Or.inl rfl)) sa_nil))) (sg_tup rfl rfl (sgs_cons (sg_sub (se_var 0 rfl (Or.inl rfl)) se_int (fun _ => rfl)) (sgs_cons (sg_name (i := 2) ND rfl (Or.inl rfl) (nc_def cn rfl rfl)) sgs_nil))))
    (sl_one (ss_ret (se_var 2 rfl (Or.inl rfl))))) sl_nil)
    (sl_cons (ss_asg (se_add rfl (se_ix rfl (se_var 0 rfl (Or.inl rfl)) se_int) se_int) (sg_sub (se_var 0 rfl (Or.inl rfl)) se_int (fun _ => rfl)))
    (sl_cons (ss_set (i := 3) ND rfl (Or.inl rfl) (se_mod rfl (se_callTy call_int cs_int rfl x.n_int b_int (sa_cons (se_add rfl (se_mul rfl (se_ix rfl (se_var 0 rfl (Or.inl rfl)) se_int) se_int) (se_mul rfl se_int (se_ix rfl (se_var 0 rfl (Or.inl rfl)) se_int))) sa_nil)) se_int) (nc_def cn rfl rfl))
    (sl_cons (ss_asg (se_mod rfl (se_callTy call_int cs_int rfl x.n_int b_int (sa_cons (se_add rfl (se_mul rfl (se_var 3 rfl (Or.inl rfl)) (se_add rfl (se_mod rfl (se_callTy call_int cs_int rfl x.n_int b_int (sa_cons (se_var 3 rfl (Or.inl rfl)) sa_nil)) se_int) se_int)) (se_ix rfl (se_var 0 rfl (Or.inl rfl)) se_int)) sa_nil)) se_int) (sg_sub (se_var 0 rfl (Or.inl rfl)) se_int (fun _ => rfl)))
    (sl_one (ss_ret (se_mod rfl (se_callTy call_int cs_int rfl x.n_int b_int (sa_cons (se_fdiv rfl (se_ix rfl (se_var 0 rfl (Or.inl rfl)) se_int) se_int) sa_nil)) (se_var 1 rfl (Or.inl rfl))))))))))
def f__law_of : SemS :=
  (mRet (mOp gIx (mVar 1) (mCall F__law_draw (mCons (mVar 0) (mCons (mCB gLen (mCons (mVar 1) mNil)) mNil)))))
def F__law_of : SemF := runF 2 (f__law_of)
theorem sc__law_of : FnScope ["well", "some"] ["well", "some"] (defScope s__law_of) := ⟨rfl, rfl, rfl, by decide +kernel, rfl, by decide +kernel, by decide +kernel⟩
theorem ok__law_of (x : Fx K mg base) : DefOk P w K mg base (gd K) (2) "_law_of" ["well", "some"] (F__law_of) :=
  def_ok x.d__law_of x.g__law_of sc__law_of (by decide +kernel) (fun _ _ _ _ _ _ us hl => match us, hl with | [_, _], _ => rfl) (fun _ _ _ _ _ _ us hl => match us, hl with | [_, _], _ => rfl) (fun cdv A outer s H E hcd hr X hX tk hp cn => by
    subst hX
    have ND := sc__law_of.nd
    exact (sl_one (ss_ret (se_ix rfl (se_var 1 rfl (Or.inl rfl)) (se_callD (ok__law_draw x) hr (by decide) rfl tk rfl (sa_cons (se_var 0 rfl (Or.inl rfl)) (sa_cons (se_callB call_len cs_len rfl x.n_len b_len (sa_cons (se_var 1 rfl (Or.inl rfl)) sa_nil)) sa_nil)) (mCons_len (mCons_len (fun _ _ _ _ h => mNil_len h))))))))
def f__law_is : SemS :=
  (mRet (mOp (gD2 eqD) (mCB gRepr (mCons (mVar 0) mNil)) (mCB gRepr (mCons (mVar 1) mNil))))
def F__law_is : SemF := runF 2 (f__law_is)
theorem sc__law_is : FnScope ["told", "due"] ["told", "due"] (defScope s__law_is) := ⟨rfl, rfl, rfl, by decide +kernel, rfl, by decide +kernel, by decide +kernel⟩
theorem ok__law_is (x : Fx K mg base) : DefOk P w K mg base (gd K) (1) "_law_is" ["told", "due"] (F__law_is) :=
  def_ok x.d__law_is x.g__law_is sc__law_is (by decide +kernel) (fun _ _ _ _ _ _ us hl => match us, hl with | [_, _], _ => rfl) (fun _ _ _ _ _ _ us hl => match us, hl with | [_, _], _ => rfl) (fun cdv A outer s H E hcd hr X hX tk hp cn => by
    subst hX
    have ND := sc__law_is.nd
    exact (sl_one (ss_ret (se_eq rfl hr.room (se_callB (call_repr hr) cs_repr rfl x.n_repr b_repr (sa_cons (se_var 0 rfl (Or.inl rfl)) sa_nil)) (se_callB (call_repr hr) cs_repr rfl x.n_repr b_repr (sa_cons (se_var 1 rfl (Or.inl rfl)) sa_nil))))))
def f__law_line : SemS :=
  (mRet (mM1 gJoin (mC (.str " ")) (mLc (mSeqI (mVar 0)) [1] (mG 1) (fun _ st => .ok true st) (mIf (mTst (mOp (gIsN false) (mVar 1) (mC .none))) (mC (.str "-")) (mCB gStrI (mCons (mVar 1) mNil))))))
def F__law_line : SemF := runF 2 (f__law_line)
theorem sc__law_line : FnScope ["notes", "note"] ["notes"] (defScope s__law_line) := ⟨rfl, rfl, rfl, by decide +kernel, rfl, by decide +kernel, by decide +kernel⟩
theorem ok__law_line (x : Fx K mg base) : DefOk P w K mg base (gd K) (1) "_law_line" ["notes"] (F__law_line) :=
  def_ok x.d__law_line x.g__law_line sc__law_line (by decide +kernel) (fun _ _ _ _ _ _ us hl => match us, hl with | [_], _ => rfl) (fun _ _ _ _ _ _ us hl => match us, hl with | [_], _ => rfl) (fun cdv A outer s H E hcd hr X hX tk hp cn => by
    subst hX
    have ND := sc__law_line.nd
    exact (sl_one (ss_ret (se_join rfl se_str (se_lc (own := [("note", 1)]) rfl ND (si_seq rfl (se_var 0 rfl (Or.inl rfl))) (blkOk_by (by kernel_rfl)) (fun s_ H_ C_ cl_ fp_ => (wg_name (i := 1) (by decide) ND rfl (Or.inl rfl))) (fun s_ H_ C_ cl_ fp_ => sts_nil) (fun s_ H_ C_ cl_ fp_ => (se_if (st_isN (se_var 1 rfl (Or.inl rfl)) se_none) se_str (se_callTy call_str_int cs_strI rfl x.n_str b_str (sa_cons (se_var 1 rfl (Or.inl rfl)) sa_nil)))))))))
def f__law_read : SemS :=
  (mSeq (mAsgT (mIf (mTru (mIs "str" (mVar 0))) (mM1 gSplit (mVar 0) (mC (.str " "))) (mLst mNil)) (mG 1))
    (mSeq (mIfS (mOrT (mTst (mOp (gD2 eqD) (mVar 1) (mLst mNil))) (mTst (mOp (gD2 neD) (mLc (mSeqI (mVar 1)) [2] (mG 2) (mTst (mOp (gD2 (inD true)) (mVar 2) (mTup (mCons (mC (.str "-")) (mCons (mC (.str "0")) (mCons (mC (.str "1")) (mCons (mC (.str "2")) (mCons (mC (.str "3")) (mCons (mC (.str "4")) (mCons (mC (.str "5")) (mCons (mC (.str "6")) (mCons (mC (.str "7")) (mCons (mC (.str "8")) mNil))))))))))))) (mVar 2)) (mLst mNil)))) (mRet (mLst mNil)) mNext)
    (mRet (mLst (mCons (mCB gTuple (mCons (mLc (mSeqI (mVar 1)) [2] (mG 2) (fun _ st => .ok true st) (mIf (mTst (mOp (gD2 eqD) (mVar 2) (mC (.str "-")))) (mC .none) (mCB gInt (mCons (mVar 2) mNil)))) mNil)) mNil)))))
def F__law_read : SemF := runF 3 (f__law_read)
theorem sc__law_read : FnScope ["line", "words", "word"] ["line"] (defScope s__law_read) := ⟨rfl, rfl, rfl, by decide +kernel, rfl, by decide +kernel, by decide +kernel⟩
theorem ok__law_read (x : Fx K mg base) : DefOk P w K mg base (gd K) (1) "_law_read" ["line"] (F__law_read) :=
  def_ok x.d__law_read x.g__law_read sc__law_read (by decide +kernel) (fun _ _ _ _ _ _ us hl => match us, hl with | [_], _ => rfl) (fun _ _ _ _ _ _ us hl => match us, hl with | [_], _ => rfl) (fun cdv A outer s H E hcd hr X hX tk hp cn => by
    subst hX
    have ND := sc__law_read.nd
    exact (sl_cons (ss_set (i := 1) ND rfl (Or.inl rfl) (se_if (st_val rfl (se_is (T := "str") (by decide) rfl (se_var 0 rfl (Or.inl rfl)) rfl x.n_isinstance b_isinstance rfl x.n_str b_str)) (se_split (se_var 0 rfl (Or.inl rfl)) se_str) (se_lst sa_nil)) (nc_def cn rfl rfl))
    (sl_cons (ss_if (st_of (sw_or (st_eq rfl hr.room (se_var 1 rfl (Or.inl rfl)) (se_lst sa_nil)) (sw_or1 (st_ne rfl hr.room (se_lc (own := [("word", 2)]) rfl ND (si_seq rfl (se_var 1 rfl (Or.inl rfl))) (blkOk_by (by kernel_rfl)) (fun s_ H_ C_ cl_ fp_ => (wg_name (i := 2) (by decide) ND rfl (Or.inl rfl))) (fun s_ H_ C_ cl_ fp_ => (sts_one (st_notIn rfl hr.room (se_var 2 rfl (Or.inl rfl)) (se_tup (sa_cons se_str (sa_cons se_str (sa_cons se_str (sa_cons se_str (sa_cons se_str (sa_cons se_str (sa_cons se_str (sa_cons se_str (sa_cons se_str (sa_cons se_str sa_nil)))))))))))))) (fun s_ H_ C_ cl_ fp_ => (se_var 2 rfl (Or.inl rfl)))) (se_lst sa_nil))))) (sl_one (ss_ret (se_lst sa_nil))) sl_nil)
    (sl_one (ss_ret (se_lst (sa_cons (se_callTy call_tuple_of cs_tuple rfl x.n_tuple b_tuple (sa_cons (se_lc (own := [("word", 2)]) rfl ND (si_seq rfl (se_var 1 rfl (Or.inl rfl))) (blkOk_by (by kernel_rfl)) (fun s_ H_ C_ cl_ fp_ => (wg_name (i := 2) (by decide) ND rfl (Or.inl rfl))) (fun s_ H_ C_ cl_ fp_ => sts_nil) (fun s_ H_ C_ cl_ fp_ => (se_if (st_eq rfl hr.room (se_var 2 rfl (Or.inl rfl)) se_str) se_none (se_callTy call_int cs_int rfl x.n_int b_int (sa_cons (se_var 2 rfl (Or.inl rfl)) sa_nil))))) sa_nil)) sa_nil)))))))
def f__law_bent : SemS :=
  (mSeq (mAsgT (mCall F__law_draw (mCons (mVar 0) (mCons (mOp (gD2 addD) (mCB gLen (mCons (mVar 1) mNil)) (mC (.int 1))) mNil))) (mG 2))
    (mSeq (mAsgT (mCall F__law_of (mCons (mVar 0) (mCons (mC (.str " -0189a+")) mNil))) (mG 3))
    (mSeq (mAsgT (mLst (mCons (mOp (gD2 addD) (mSl (mVar 1) mNoPart (mPart (mVar 2))) (mSl (mVar 1) (mPart (mOp (gD2 addD) (mVar 2) (mC (.int 1)))) mNoPart)) (mCons (mOp (gD2 addD) (mOp (gD2 addD) (mSl (mVar 1) mNoPart (mPart (mVar 2))) (mVar 3)) (mSl (mVar 1) (mPart (mVar 2)) mNoPart)) (mCons (mOp (gD2 addD) (mOp (gD2 addD) (mSl (mVar 1) mNoPart (mPart (mVar 2))) (mVar 3)) (mSl (mVar 1) (mPart (mOp (gD2 addD) (mVar 2) (mC (.int 1)))) mNoPart)) (mCons (mOp (gD2 addD) (mVar 1) (mVar 3)) mNil))))) (mG 4))
    (mSeq (mAsgT (mOp (gD2 addD) (mVar 4) (mLst (mCons (mRepl " " "  " (mVar 1)) (mCons (mOp (gD2 addD) (mC (.str " ")) (mVar 1)) (mCons (mRepl "-" "none" (mVar 1)) (mCons (mRepl " " "," (mVar 1)) mNil)))))) (mG 4))
    (mSeq (mRet (mCall F__law_of (mCons (mVar 0) (mCons (mVar 4) mNil)))) mNext)))))
def F__law_bent : SemF := fun us st => finS (f__law_bent (us.map some ++ List.replicate (5 - us.length) none) st)
theorem sc__law_bent : FnScope ["well", "line", "at", "sign", "some"] ["well", "line"] (defScope s__law_bent) := ⟨rfl, rfl, rfl, by decide +kernel, rfl, by decide +kernel, by decide +kernel⟩
theorem ok__law_bent (x : Fx K mg base) : DefOk P w K mg base (gd K) (3) "_law_bent" ["well", "line"] (F__law_bent) :=
  def_okT x.d__law_bent x.g__law_bent sc__law_bent (by decide +kernel) (by decide) (fun _ _ _ _ _ _ us hl => match us, hl with | [_, _], _ => rfl) (fun _ _ _ _ _ _ us hl => match us, hl with | [_, _], _ => rfl) (fun cdv A outer s H E hcd hr X hX tk hp => by
    subst hX
    have ND := sc__law_bent.nd
    exact (slt_cons (SS.t (ss_set (i := 2) ND rfl (Or.inl rfl) (se_callD (ok__law_draw x) hr (by decide) rfl tk rfl (sa_cons (se_var 0 rfl (Or.inl rfl)) (sa_cons (se_add rfl (se_callB call_len cs_len rfl x.n_len b_len (sa_cons (se_var 1 rfl (Or.inl rfl)) sa_nil)) se_int) sa_nil)) (mCons_len (mCons_len (fun _ _ _ _ h => mNil_len h)))) (noCell_def rfl rfl)))
    (slt_cons (SS.t (ss_set (i := 3) ND rfl (Or.inl rfl) (se_callD (ok__law_of x) hr (by decide) rfl tk rfl (sa_cons (se_var 0 rfl (Or.inl rfl)) (sa_cons se_str sa_nil)) (mCons_len (mCons_len (fun _ _ _ _ h => mNil_len h)))) (noCell_def rfl rfl)))
    (slt_cons (SS.t (ss_set (i := 4) ND rfl (Or.inl rfl) (se_lst (sa_cons (se_add rfl (se_sl rfl (se_var 1 rfl (Or.inl rfl)) so_none (so_some (se_var 2 rfl (Or.inl rfl)))) (se_sl rfl (se_var 1 rfl (Or.inl rfl)) (so_some (se_add rfl (se_var 2 rfl (Or.inl rfl)) se_int)) so_none)) (sa_cons (se_add rfl (se_add rfl (se_sl rfl (se_var 1 rfl (Or.inl rfl)) so_none (so_some (se_var 2 rfl (Or.inl rfl)))) (se_var 3 rfl (Or.inl rfl))) (se_sl rfl (se_var 1 rfl (Or.inl rfl)) (so_some (se_var 2 rfl (Or.inl rfl))) so_none)) (sa_cons (se_add rfl (se_add rfl (se_sl rfl (se_var 1 rfl (Or.inl rfl)) so_none (so_some (se_var 2 rfl (Or.inl rfl)))) (se_var 3 rfl (Or.inl rfl))) (se_sl rfl (se_var 1 rfl (Or.inl rfl)) (so_some (se_add rfl (se_var 2 rfl (Or.inl rfl)) se_int)) so_none)) (sa_cons (se_add rfl (se_var 1 rfl (Or.inl rfl)) (se_var 3 rfl (Or.inl rfl))) sa_nil))))) (noCell_def rfl rfl)))
    (slt_cons (sst_set (i := 4) ND rfl (Or.inl rfl) (set_op op_addD ops_D2 (SE.t (se_var 4 rfl (Or.inl rfl))) (set_lst (sat_cons (set_repl (se_var 1 rfl (Or.inl rfl))) (sat_cons (SE.t (se_add rfl se_str (se_var 1 rfl (Or.inl rfl)))) (sat_cons (set_repl (se_var 1 rfl (Or.inl rfl))) (sat_cons (set_repl (se_var 1 rfl (Or.inl rfl))) sat_nil)))))) (noCell_def rfl rfl))
    (slt_cons (SS.t (ss_ret (se_callD (ok__law_of x) hr (by decide) rfl tk rfl (sa_cons (se_var 0 rfl (Or.inl rfl)) (sa_cons (se_var 4 rfl (Or.inl rfl)) sa_nil)) (mCons_len (mCons_len (fun _ _ _ _ h => mNil_len h)))))) (SL.t sl_nil)))))))
def f__law_told (ap : U → SemF) : SemS :=
  (mTry (mRet (mLst (mCons (mC (.str "told")) (mCons (mCallV ap 0 mNil) mNil)))) ((mt_InvalidLine, some 1, hRet2 "line") :: ((mt_InvalidNotes, some 1, hRet2 "notes") :: [])))
def F__law_told (ap : U → SemF) : SemF := runF 2 (f__law_told ap)
theorem sc__law_told : FnScope ["act", "e"] ["act"] (defScope s__law_told) := ⟨rfl, rfl, rfl, by decide +kernel, rfl, by decide +kernel, by decide +kernel⟩
theorem ok__law_told (x : Fx K mg base) {k0 : Nat} (ap : U → SemF) (hk : 0 ≤ k0) (hap : APOk P w K mg base (gd K) k0 ap) : DefOk P w K mg base (gd K) (k0 + 0 + 1) "_law_told" ["act"] (F__law_told ap) :=
  def_ok x.d__law_told x.g__law_told sc__law_told (by decide +kernel) (fun _ _ _ _ _ _ us hl => match us, hl with | [_], _ => rfl) (fun _ _ _ _ _ _ us hl => match us, hl with | [_], _ => rfl) (fun cdv A outer s H E hcd hr X hX tk hp cn => by
    subst hX
    have ND := sc__law_told.nd
    exact (sl_one (ss_try ND rfl rfl tk (fun W2 pn2 xe2 tk2 hp2 => (sl_one (ss_ret (se_lst (sa_cons se_str (sa_cons (se_callV0 (i := 0) (hap.mono (by omega)) hr tk2 rfl (Or.inl rfl)) sa_nil)))))) (.as ⟨rfl, by decide, Or.inl x.g_InvalidLine⟩ rfl rfl (fun a_ oe_ cls_ d_ pn_ hz_ hf_ => pss_ret2 (i := 1) rfl (Or.inl rfl) hz_ hf_ rfl) (.as ⟨rfl, by decide, Or.inl x.g_InvalidNotes⟩ rfl rfl (fun a_ oe_ cls_ d_ pn_ hz_ hf_ => pss_ret2 (i := 1) rfl (Or.inl rfl) hz_ hf_ rfl) .nil)) (hsr_ret2 (i := 1) (hm_InvalidLine x) (hx_InvalidLine x) (hsr_ret2 (i := 1) (hm_InvalidNotes x) (hx_InvalidNotes x) .nil)) (by intro m hm; simp at hm; rcases hm with h | h <;> subst h <;> intro z <;> cases z))))
def C_1 : List U → SemF := runCE 1 (mCall F_read_notes (mCons (mVar 0) mNil))
theorem ns_1 : NScope ["value"] [] ["value"] (c_1).scope := nscope_by (by kernel_rfl)
theorem cok_1 (x : Fx K mg base) : COk P w K mg base (gd K) 8 1 0 C_1 :=
  cok_lam (ci := c_1) (N := ["value"]) (ps := []) rfl rfl ns_1 (fun F doc pm ctv us hF hl => by
    obtain ⟨n, q, pa, b, s, cl, c⟩ := F
    have e : pa = (c_1).params := hF
    subst e
    match us, hl with | [], _ => rfl) (fun A outer s H E f c cl hr hcl X hX tk hp cn => by
    subst hX
    have ND := ns_1.nd
    exact (se_callD (ok_read_notes x) hr (by decide) rfl tk rfl (sa_cons (se_var 0 rfl (Or.inr (Or.inr rfl))) sa_nil) (mCons_len (fun _ _ _ _ h => mNil_len h))))
def C_2 : List U → SemF := runCE 1 (mCall F_notes_line (mCons (mVar 0) mNil))
theorem ns_2 : NScope ["value"] [] ["value"] (c_2).scope := nscope_by (by kernel_rfl)
theorem cok_2 (x : Fx K mg base) : COk P w K mg base (gd K) 8 2 0 C_2 :=
  cok_lam (ci := c_2) (N := ["value"]) (ps := []) rfl rfl ns_2 (fun F doc pm ctv us hF hl => by
    obtain ⟨n, q, pa, b, s, cl, c⟩ := F
    have e : pa = (c_2).params := hF
    subst e
    match us, hl with | [], _ => rfl) (fun A outer s H E f c cl hr hcl X hX tk hp cn => by
    subst hX
    have ND := ns_2.nd
    exact (se_callD (ok_notes_line x) hr (by decide) rfl tk rfl (sa_cons (se_var 0 rfl (Or.inr (Or.inr rfl))) sa_nil) (mCons_len (fun _ _ _ _ h => mNil_len h))))
def f__law_right : SemS :=
  (mSeq (mFor (mRg1 (mC (.int 8))) (mG 1)
    (mSeq (mAsgT (mOp (gD2 addD) (mC (.int 1)) (mCall F__law_draw (mCons (mVar 0) (mCons (mCall F__law_of (mCons (mVar 0) (mCons (mTup (mCons (mC (.int 3)) (mCons (mC (.int 9)) (mCons (mC (.int 60)) mNil)))) mNil))) mNil)))) (mG 2))
    (mSeq (mAsgT (mCB gTuple (mCons (mLc (mRg1 (mVar 2)) [12] (mG 12) (fun _ st => .ok true st) (mCall F__law_of (mCons (mVar 0) (mCons (mTup (mCons (mC .none) (mCons (mCall F__law_draw (mCons (mVar 0) (mCons (mC (.int 9)) mNil))) (mCons (mCall F__law_draw (mCons (mVar 0) (mCons (mC (.int 9)) mNil))) mNil)))) mNil)))) mNil)) (mG 3))
    (mSeq (mAsgT (mCall F__law_line (mCons (mVar 3) mNil)) (mGC 4))
    (mSeq (mAsgT (mLst (mCons (mCall F_notes_line (mCons (mVar 3) mNil)) (mCons (mCall F_notes_line (mCons (mVar 3) mNil)) (mCons (mCall F_read_notes (mCons (mVar 4) mNil)) (mCons (mCall F_read_notes (mCons (mVar 4) mNil)) mNil))))) (mG 5))
    (mSeq (mIfS (mNotT (mTru (mCall F__law_is (mCons (mVar 5) (mCons (mLst (mCons (mVar 4) (mCons (mVar 4) (mCons (mVar 3) (mCons (mVar 3) mNil))))) mNil))))) (mRet (mC (.bool false))) mNext)
    (mSeq (mAsgT (mLst (mCons (mC .none) (mCons (mTup mNil) (mCons (mC (.int 5)) (mCons (mC (.str "")) (mCons (mC (.str " ")) (mCons (mC (.str "-")) (mCons (mC (.str "--")) (mCons (mC (.str "9")) (mCons (mC (.str "08")) (mCons (mC (.str "10")) (mCons (mC (.str "0 - 8")) (mCons (mC (.str "a")) (mCons (mC (.str "none")) (mCons (mTup (mCons (mVar 4) mNil)) (mCons (mC (.str "-1")) (mCons (mC (.str "0  1")) (mCons (mC (.str "+1")) mNil)))))))))))))))))) (mG 6))
    (mSeq (mFor (mSeqI (mOp (gD2 addD) (mLst (mCons (mCall F__law_of (mCons (mVar 0) (mCons (mVar 6) mNil))) (mCons (mCall F__law_of (mCons (mVar 0) (mCons (mVar 6) mNil))) mNil))) (mLc (mRg1 (mC (.int 7))) [12] (mG 12) (fun _ st => .ok true st) (mCall F__law_bent (mCons (mVar 0) (mCons (mVar 4) mNil)))))) (mGC 7)
    (mSeq (mAsgT (mCall F__law_read (mCons (mVar 7) mNil)) (mG 8))
    (mSeq (mAsgT (mIf (mTst (mOp (gD2 eqD) (mVar 8) (mLst mNil))) (mLst (mCons (mC (.str "line")) (mCons (mVar 7) mNil))) (mLst (mCons (mC (.str "told")) (mCons (mOp gIx (mVar 8) (mC (.int 0))) mNil)))) (mG 9))
    (mIfS (mNotT (mTru (mCall F__law_is (mCons (mCallX (F__law_told (apC 1 0 C_1 apNil)) (mCons (mLam 1 [7]) mNil)) (mCons (mVar 9) mNil))))) (mRet (mC (.bool false))) mNext))))
    (mSeq (mAsgT (mCall F__law_draw (mCons (mVar 0) (mCons (mVar 2) mNil))) (mG 10))
    (mSeq (mAsgT (mOp (gD2 addD) (mOp (gD2 addD) (mSl (mVar 3) mNoPart (mPart (mVar 10))) (mTup (mCons (mCall F__law_of (mCons (mVar 0) (mCons (mTup (mCons (mNeg (mC (.int 1))) (mCons (mC (.int 9)) (mCons (mC (.bool true)) (mCons (mC (.str "0")) (mCons (mC (.str "-")) (mCons (mTup (mCons (mC (.int 0)) mNil)) (mCons (mC (.bool false)) mNil)))))))) mNil))) mNil))) (mSl (mVar 3) (mPart (mVar 10)) mNoPart)) (mG 11))
    (mFor (mSeqI (mTup (mCons (mTup (mCons (mVar 11) (mCons (mVar 10) mNil))) (mCons (mTup (mCons (mCB gList (mCons (mVar 3) mNil)) (mCons (mC .none) mNil))) (mCons (mTup (mCons (mC .none) (mCons (mC .none) mNil))) (mCons (mTup (mCons (mVar 4) (mCons (mC .none) mNil))) mNil)))))) (mGTup 2 (fun us en st => if hasOwnL us.tail = false then mGCons (mGC 7) (fun us en st => if hasOwnL us.tail = false then mGCons (mG 9) mGNil us en st else .bad) us en st else .bad))
    (mIfS (mNotT (mTru (mCall F__law_is (mCons (mCallX (F__law_told (apC 2 0 C_2 apNil)) (mCons (mLam 2 [7]) mNil)) (mCons (mLst (mCons (mC (.str "notes")) (mCons (mVar 9) mNil))) mNil))))) (mRet (mC (.bool false))) mNext))))))))))))
    (mRet (mC (.bool true))))
def F__law_right : SemF := runF 13 (f__law_right)
theorem sc__law_right : FnScope ["well", "turn", "many", "notes", "line", "had", "some", "value", "found", "due", "at", "wrong", "lap"] ["well"] (defScope s__law_right) := ⟨rfl, rfl, rfl, by decide +kernel, rfl, by decide +kernel, by decide +kernel⟩
theorem ok__law_right (x : Fx K mg base) : DefOk P w K mg base (gd K) (10) "_law_right" ["well"] (F__law_right) :=
  def_ok x.d__law_right x.g__law_right sc__law_right (by decide +kernel) (fun _ _ _ _ _ _ us hl => match us, hl with | [_], _ => rfl) (fun _ _ _ _ _ _ us hl => match us, hl with | [_], _ => rfl) (fun cdv A outer s H E hcd hr X hX tk hp cn => by
    subst hX
    have ND := sc__law_right.nd
    exact (sl_cons (ss_for hp rfl (si_range1 rfl x.n_range se_int) (sg_name (i := 1) ND rfl (Or.inl rfl) (nc_def cn rfl rfl))
    (sl_cons (ss_set (i := 2) ND rfl (Or.inl rfl) (se_add rfl se_int (se_callD (ok__law_draw x) hr (by decide) rfl tk rfl (sa_cons (se_var 0 rfl (Or.inr (Or.inl rfl))) (sa_cons (se_callD (ok__law_of x) hr (by decide) rfl tk rfl (sa_cons (se_var 0 rfl (Or.inr (Or.inl rfl))) (sa_cons (se_tup (sa_cons se_int (sa_cons se_int (sa_cons se_int sa_nil)))) sa_nil)) (mCons_len (mCons_len (fun _ _ _ _ h => mNil_len h)))) sa_nil)) (mCons_len (mCons_len (fun _ _ _ _ h => mNil_len h))))) (nc_def cn rfl rfl))
    (sl_cons (ss_set (i := 3) ND rfl (Or.inl rfl) (se_callTy call_tuple_of cs_tuple rfl x.n_tuple b_tuple (sa_cons (se_lc (own := [("lap", 12)]) rfl ND (si_range1 rfl x.n_range (se_var 2 rfl (Or.inl rfl))) (blkOk_by (by kernel_rfl)) (fun s_ H_ C_ cl_ fp_ => (wg_name (i := 12) (by decide) ND rfl (Or.inl rfl))) (fun s_ H_ C_ cl_ fp_ => sts_nil) (fun s_ H_ C_ cl_ fp_ => (se_callD (ok__law_of x) hr (by decide) rfl tk0 rfl (sa_cons (se_var 0 rfl (Or.inr (Or.inl rfl))) (sa_cons (se_tup (sa_cons se_none (sa_cons (se_callD (ok__law_draw x) hr (by decide) rfl tk0 rfl (sa_cons (se_var 0 rfl (Or.inr (Or.inl rfl))) (sa_cons se_int sa_nil)) (mCons_len (mCons_len (fun _ _ _ _ h => mNil_len h)))) (sa_cons (se_callD (ok__law_draw x) hr (by decide) rfl tk0 rfl (sa_cons (se_var 0 rfl (Or.inr (Or.inl rfl))) (sa_cons se_int sa_nil)) (mCons_len (mCons_len (fun _ _ _ _ h => mNil_len h)))) sa_nil)))) sa_nil)) (mCons_len (mCons_len (fun _ _ _ _ h => mNil_len h)))))) sa_nil)) (nc_def cn rfl rfl))
    (sl_cons (ss_setC (i := 4) ND rfl (Or.inr rfl) (se_callD (ok__law_line x) hr (by decide) rfl tk rfl (sa_cons (se_var 3 rfl (Or.inl rfl)) sa_nil) (mCons_len (fun _ _ _ _ h => mNil_len h))))
    (sl_cons (ss_set (i := 5) ND rfl (Or.inl rfl) (se_lst (sa_cons (se_callD (ok_notes_line x) hr (by decide) rfl tk rfl (sa_cons (se_var 3 rfl (Or.inl rfl)) sa_nil) (mCons_len (fun _ _ _ _ h => mNil_len h))) (sa_cons (se_callKD (ok_notes_line x) hr (by decide) rfl tk (sk_cons (se_var 3 rfl (Or.inl rfl)) sk_nil) (mCons_len (fun _ _ _ _ h => mNil_len h))) (sa_cons (se_callD (ok_read_notes x) hr (by decide) rfl tk rfl (sa_cons (se_var 4 rfl (Or.inr (Or.inl rfl))) sa_nil) (mCons_len (fun _ _ _ _ h => mNil_len h))) (sa_cons (se_callKD (ok_read_notes x) hr (by decide) rfl tk (sk_cons (se_var 4 rfl (Or.inr (Or.inl rfl))) sk_nil) (mCons_len (fun _ _ _ _ h => mNil_len h))) sa_nil))))) (nc_def cn rfl rfl))
    (sl_cons (ss_if (st_not (st_val rfl (se_callD (ok__law_is x) hr (by decide) rfl tk rfl (sa_cons (se_var 5 rfl (Or.inl rfl)) (sa_cons (se_lst (sa_cons (se_var 4 rfl (Or.inr (Or.inl rfl))) (sa_cons (se_var 4 rfl (Or.inr (Or.inl rfl))) (sa_cons (se_var 3 rfl (Or.inl rfl)) (sa_cons (se_var 3 rfl (Or.inl rfl)) sa_nil))))) sa_nil)) (mCons_len (mCons_len (fun _ _ _ _ h => mNil_len h)))))) (sl_one (ss_ret se_bool)) sl_nil)
    (sl_cons (ss_set (i := 6) ND rfl (Or.inl rfl) (se_lst (sa_cons se_none (sa_cons (se_tup sa_nil) (sa_cons se_int (sa_cons se_str (sa_cons se_str (sa_cons se_str (sa_cons se_str (sa_cons se_str (sa_cons se_str (sa_cons se_str (sa_cons se_str (sa_cons se_str (sa_cons se_str (sa_cons (se_tup (sa_cons (se_var 4 rfl (Or.inr (Or.inl rfl))) sa_nil)) (sa_cons se_str (sa_cons se_str (sa_cons se_str sa_nil)))))))))))))))))) (nc_def cn rfl rfl))
    (sl_cons (ss_for hp rfl (si_seq rfl (se_add rfl (se_lst (sa_cons (se_callD (ok__law_of x) hr (by decide) rfl tk rfl (sa_cons (se_var 0 rfl (Or.inr (Or.inl rfl))) (sa_cons (se_var 6 rfl (Or.inl rfl)) sa_nil)) (mCons_len (mCons_len (fun _ _ _ _ h => mNil_len h)))) (sa_cons (se_callD (ok__law_of x) hr (by decide) rfl tk rfl (sa_cons (se_var 0 rfl (Or.inr (Or.inl rfl))) (sa_cons (se_var 6 rfl (Or.inl rfl)) sa_nil)) (mCons_len (mCons_len (fun _ _ _ _ h => mNil_len h)))) sa_nil))) (se_lc (own := [("lap", 12)]) rfl ND (si_range1 rfl x.n_range se_int) (blkOk_by (by kernel_rfl)) (fun s_ H_ C_ cl_ fp_ => (wg_name (i := 12) (by decide) ND rfl (Or.inl rfl))) (fun s_ H_ C_ cl_ fp_ => sts_nil) (fun s_ H_ C_ cl_ fp_ => (se_callD (ok__law_bent x) hr (by decide) rfl tk0 rfl (sa_cons (se_var 0 rfl (Or.inr (Or.inl rfl))) (sa_cons (se_var 4 rfl (Or.inr (Or.inl rfl))) sa_nil)) (mCons_len (mCons_len (fun _ _ _ _ h => mNil_len h)))))))) (sg_cell (i := 7) ND rfl (Or.inr rfl))
    (sl_cons (ss_set (i := 8) ND rfl (Or.inl rfl) (se_callD (ok__law_read x) hr (by decide) rfl tk rfl (sa_cons (se_var 7 rfl (Or.inr (Or.inl rfl))) sa_nil) (mCons_len (fun _ _ _ _ h => mNil_len h))) (nc_def cn rfl rfl))
    (sl_cons (ss_set (i := 9) ND rfl (Or.inl rfl) (se_if (st_eq rfl hr.room (se_var 8 rfl (Or.inl rfl)) (se_lst sa_nil)) (se_lst (sa_cons se_str (sa_cons (se_var 7 rfl (Or.inr (Or.inl rfl))) sa_nil))) (se_lst (sa_cons se_str (sa_cons (se_ix rfl (se_var 8 rfl (Or.inl rfl)) se_int) sa_nil)))) (nc_def cn rfl rfl))
    (sl_one (ss_if (st_not (st_val rfl (se_callD (ok__law_is x) hr (by decide) rfl tk rfl (sa_cons (se_callXD (ok__law_told x (k0 := 8) (apC 1 0 C_1 apNil) (by decide) (apC_ok ((cok_1 x).mono (by decide)) (apNil_ok (gd_fns x)))) hr (by decide) cn rfl rfl (sa_cons (se_lamB (js := [7]) (fr := ["value"]) x.t__law_right hcd tm__law_right (hu__law_right x) rfl rfl rfl (by kernel_rfl) rfl) sa_nil) (mCons_len (fun _ _ _ _ h => mNil_len h))) (sa_cons (se_var 9 rfl (Or.inl rfl)) sa_nil)) (mCons_len (mCons_len (fun _ _ _ _ h => mNil_len h)))))) (sl_one (ss_ret se_bool)) sl_nil)))))
    (sl_cons (ss_set (i := 10) ND rfl (Or.inl rfl) (se_callD (ok__law_draw x) hr (by decide) rfl tk rfl (sa_cons (se_var 0 rfl (Or.inr (Or.inl rfl))) (sa_cons (se_var 2 rfl (Or.inl rfl)) sa_nil)) (mCons_len (mCons_len (fun _ _ _ _ h => mNil_len h)))) (nc_def cn rfl rfl))
    (sl_cons (ss_set (i := 11) ND rfl (Or.inl rfl) (se_add rfl (se_add rfl (se_sl rfl (se_var 3 rfl (Or.inl rfl)) so_none (so_some (se_var 10 rfl (Or.inl rfl)))) (se_tup (sa_cons (se_callD (ok__law_of x) hr (by decide) rfl tk rfl (sa_cons (se_var 0 rfl (Or.inr (Or.inl rfl))) (sa_cons (se_tup (sa_cons (se_neg se_int) (sa_cons se_int (sa_cons se_bool (sa_cons se_str (sa_cons se_str (sa_cons (se_tup (sa_cons se_int sa_nil)) (sa_cons se_bool sa_nil)))))))) sa_nil)) (mCons_len (mCons_len (fun _ _ _ _ h => mNil_len h)))) sa_nil))) (se_sl rfl (se_var 3 rfl (Or.inl rfl)) (so_some (se_var 10 rfl (Or.inl rfl))) so_none)) (nc_def cn rfl rfl))
    (sl_one (ss_for hp rfl (si_seq rfl (se_tup (sa_cons (se_tup (sa_cons (se_var 11 rfl (Or.inl rfl)) (sa_cons (se_var 10 rfl (Or.inl rfl)) sa_nil))) (sa_cons (se_tup (sa_cons (se_callTy call_list_of cs_list rfl x.n_list b_list (sa_cons (se_var 3 rfl (Or.inl rfl)) sa_nil)) (sa_cons se_none sa_nil))) (sa_cons (se_tup (sa_cons se_none (sa_cons se_none sa_nil))) (sa_cons (se_tup (sa_cons (se_var 4 rfl (Or.inr (Or.inl rfl))) (sa_cons se_none sa_nil))) sa_nil)))))) (sg_tup rfl rfl (sgs_cons (sg_cell (i := 7) ND rfl (Or.inr rfl)) (sgs_cons (sg_name (i := 9) ND rfl (Or.inl rfl) (nc_def cn rfl rfl)) sgs_nil)))
    (sl_one (ss_if (st_not (st_val rfl (se_callD (ok__law_is x) hr (by decide) rfl tk rfl (sa_cons (se_callXD (ok__law_told x (k0 := 8) (apC 2 0 C_2 apNil) (by decide) (apC_ok ((cok_2 x).mono (by decide)) (apNil_ok (gd_fns x)))) hr (by decide) cn rfl rfl (sa_cons (se_lamB (js := [7]) (fr := ["value"]) x.t__law_right hcd tm__law_right (hu__law_right x) rfl rfl rfl (by kernel_rfl) rfl) sa_nil) (mCons_len (fun _ _ _ _ h => mNil_len h))) (sa_cons (se_lst (sa_cons se_str (sa_cons (se_var 9 rfl (Or.inl rfl)) sa_nil))) sa_nil)) (mCons_len (mCons_len (fun _ _ _ _ h => mNil_len h)))))) (sl_one (ss_ret se_bool)) sl_nil))))))))))))))
    (sl_one (ss_ret se_bool))))
def f_law : SemS :=
  (mRet (mCB gAllL (mCons (mLc (mRg1 (mCB gMax2 (mCons (mC (.int 1)) (mCons (mCB gMin2 (mCons (mCB gLen (mCons (mVar 0) mNil)) (mCons (mC (.int 3)) mNil))) mNil)))) [1] (mG 1) (fun _ st => .ok true st) (mCall F__law_right (mCons (mCall F__law_well (mCons (mVar 0) (mCons (mVar 1) mNil))) mNil))) mNil)))
def F_law : SemF := runF 2 (f_law)
theorem sc_law : FnScope ["script", "lap"] ["script"] (defScope s_law) := ⟨rfl, rfl, rfl, by decide +kernel, rfl, by decide +kernel, by decide +kernel⟩
theorem ok_law (x : Fx K mg base) : DefOk P w K mg base (gd K) (11) "law" ["script"] (F_law) :=
  def_ok x.d_law x.g_law sc_law (by decide +kernel) (fun _ _ _ _ _ _ us hl => match us, hl with | [_], _ => rfl) (fun _ _ _ _ _ _ us hl => match us, hl with | [_], _ => rfl) (fun cdv A outer s H E hcd hr X hX tk hp cn => by
    subst hX
    have ND := sc_law.nd
    exact (sl_one (ss_ret (se_callB (cr_all rfl) cs_all rfl x.n_all b_all (sa_cons (se_lc (own := [("lap", 1)]) rfl ND (si_range1 rfl x.n_range (se_callB (call_max2 rfl) cs_max2 rfl x.n_max b_max (sa_cons se_int (sa_cons (se_callB (call_min2 rfl) cs_min2 rfl x.n_min b_min (sa_cons (se_callB call_len cs_len rfl x.n_len b_len (sa_cons (se_var 0 rfl (Or.inr (Or.inl rfl))) sa_nil)) (sa_cons se_int sa_nil))) sa_nil)))) (blkOk_by (by kernel_rfl)) (fun s_ H_ C_ cl_ fp_ => (wg_name (i := 1) (by decide) ND rfl (Or.inl rfl))) (fun s_ H_ C_ cl_ fp_ => sts_nil) (fun s_ H_ C_ cl_ fp_ => (se_callD (ok__law_right x) hr (by decide) rfl tk0 rfl (sa_cons (se_callD (ok__law_well x) hr (by decide) rfl tk0 rfl (sa_cons (se_var 0 rfl (Or.inr (Or.inl rfl))) (sa_cons (se_var 1 rfl (Or.inl rfl)) sa_nil)) (mCons_len (mCons_len (fun _ _ _ _ h => mNil_len h)))) sa_nil) (mCons_len (fun _ _ _ _ h => mNil_len h))))) sa_nil)))))
end
end K12
set_option Elab.async false
set_option linter.all false
set_option maxRecDepth 100000
set_option maxHeartbeats 1000000
namespace TT
open PySem
/-! plain evaluation -/
section
variable {α β : Type} {a : α} {s st : Sto} {k : α → Sto → Res β} {kS : α → Sto → RS} {c : Str} {u w : Option U} {en e : Nv} {g : SemS} {x y : U}
theorem ev_bind_ok : (Res.ok a s).bind k = k a s := rfl
theorem ev_bind_exn : (Res.exn c u s : Res α).bind k = .exn c u s := rfl
theorem ev_bind_bad : (Res.bad : Res α).bind k = .bad := rfl
theorem ev_toS_ok : (Res.ok a s).toS en kS = kS a s := rfl
theorem ev_toS_exn : (Res.exn c u s : Res α).toS en kS = .exn c u en s := rfl
theorem ev_then_nx : (RS.nx e s).then g = g e s := rfl
theorem ev_then_rt : (RS.rt x s).then g = .rt x s := rfl
theorem ev_then_exn : (RS.exn c u e s).then g = .exn c u e s := rfl
theorem ev_onB {b : Bool} {k : Bool → Sto → Res U} : onB k (.d (.bool b)) s = k b s := rfl
variable {f f1 f2 : SemE} {t t1 t2 : SemT} {fs : SemA} {F : SemF} {d : D} {i : Nat} {h h1 h2 : SemS}
theorem ev_ret : mRet f en st = (f en st).toS en fun u st => .rt u st := rfl
theorem ev_andV : mAndV f1 f2 en st = (f1 en st).bind (onB fun c st => if c = true then f2 en st else .ok (.d (.bool false)) st) := rfl
theorem ev_orV : mOrV f1 f2 en st = (f1 en st).bind (onB fun c st => if c = true then .ok (.d (.bool true)) st else f2 en st) := rfl
theorem ev_notV : mNotV f en st = (f en st).bind (onB fun c st => .ok (.d (.bool (!c))) st) := rfl
theorem ev_andT : mAndT t1 t2 en st = (t1 en st).bind fun c st => if c = true then t2 en st else .ok false st := rfl
theorem ev_orT : mOrT t1 t2 en st = (t1 en st).bind fun c st => if c = true then .ok true st else t2 en st := rfl
theorem ev_notT : mNotT t en st = (t en st).bind fun c st => .ok (!c) st := rfl
theorem ev_ifS : mIfS t h1 h2 en st = (t en st).toS en fun c st => if c = true then h1 en st else h2 en st := rfl
theorem ev_if : mIf t f1 f2 en st = (t en st).bind fun c st => if c = true then f1 en st else f2 en st := rfl
theorem ev_seq : mSeq h1 h2 en st = (h1 en st).then h2 := rfl
theorem ev_next : mNext en st = .nx en st := rfl
theorem ev_c : mC d en st = .ok (.d d) st := rfl
theorem ev_nil : mNil en st = .ok [] st := rfl
theorem ev_cons : mCons f fs en st = (f en st).bind fun u st => (fs en st).bind fun us st => .ok (u :: us) st := rfl
theorem ev_var (h : en[i]? = some (some x)) : mVar i en st = .ok x st := by unfold mVar; rw [h]
theorem ev_op {g : U → U → Sto → Res U} : mOp g f1 f2 en st = (f1 en st).bind fun u st => (f2 en st).bind fun w st => g u w st := rfl
theorem ev_call : mCall F fs en st = (fs en st).bind fun us st => if hasOwnL us = false ∧ stOwn st = false then F us st else .bad := rfl
theorem ev_cb {g : List U → Sto → Res U} : mCB g fs en st = (fs en st).bind g := rfl
theorem ev_tst {b : Bool} (h : f en st = .ok (.d (.bool b)) s) : mTst f en st = .ok b s := by unfold mTst; rw [h]; rfl
theorem ev_tru {b : Bool} (h : f en st = .ok x s) (hb : truU x = some b) : mTru f en st = .ok b s := by
  unfold mTru; rw [h]; show (match truU x with | some b => Res.ok b s | none => .bad) = _; rw [hb]
theorem ev_is {T : String} (h : f en st = .ok (.d d) s) (hd : noDct d = true) : mIs T f en st = .ok (.d (.bool (isT T d))) s := by
  unfold mIs; rw [h]; show (if noDct d = true then Res.ok (U.d (.bool (isT T d))) s else .bad) = _; rw [if_pos hd]
theorem ev_g2 {g : D → D → Option D} {d1 d2 r : D} (h : g d1 d2 = some r) : gD2 g (.d d1) (.d d2) st = .ok (.d r) st := by unfold gD2; simp [h]
theorem ev_asg {g : SemG} : mAsgT f g en st = (f en st).toS en fun u st => onlyNx (g u en st) := rfl
theorem ev_g : mG i x en st = .nx (en.set i (some x)) st := rfl
theorem ev_only : onlyNx (.nx e s) = .nx e s := rfl
theorem ev_lst {l : List U} {ds : List D} (h : fs en st = .ok l s) (hz : l.length ≤ sizeLine) (hd : allD l = some ds) : mLst fs en st = .ok (.d (.list ds)) s := by
  unfold mLst; rw [h]; show (if l.length ≤ sizeLine then (match allD l with | some l => Res.ok (U.d (.list l)) s | none => .bad) else .bad) = _; rw [if_pos hz, hd]
theorem ev_runF {n : Nat} {us : List U} (h : g (us.map some ++ List.replicate (n - us.length) none) st = .rt x s) (h1 : hasOwn x = false) (h2 : stOwn s = false) : runF n g us st = .ok x s := by
  unfold runF; rw [h]; exact if_pos ⟨h1, h2⟩
end
end TT
namespace K12
open PySem TT
def isWh : D → Bool
  | .int _ => true
  | _ => false
variable {st : Sto}
theorem F_is_whole_eq (x : D) (hn : noDct x = true) (hs : stOwn st = false) : F_is_whole [.d x] st = .ok (.d (.bool (isWh x))) st := by
  refine ev_runF ?_ rfl hs
  unfold f_is_whole
  cases x <;> first | (cases hn; done) | rfl
/-- None, or a whole number from lo to hi -/
def inR (lo hi : Int) : D → Bool
  | .int i => decide (lo ≤ i) && decide (i ≤ hi)
  | _ => false
theorem F_is_number_eq (x : D) (lo hi : Int) (hn : noDct x = true) (hs : stOwn st = false) : F_is_number [.d x, .d (.int lo), .d (.int hi)] st = .ok (.d (.bool (inR lo hi x))) st := by
  refine ev_runF (g := f_is_number) ?_ rfl hs
  have e : mCall F_is_whole (mCons (mVar 0) mNil) [some (.d x), some (.d (.int lo)), some (.d (.int hi))] st = .ok (.d (.bool (isWh x))) st := by
    show (if hasOwnL [U.d x] = false ∧ stOwn st = false then F_is_whole [.d x] st else .bad) = _
    rw [if_pos ⟨rfl, hs⟩, F_is_whole_eq x hn hs]
  unfold f_is_number
  rw [ev_seq, ev_ifS, ev_orT, ev_notT]
  show RS.then (Res.toS _ (((mTru (mCall F_is_whole (mCons (mVar 0) mNil)) [some (.d x), some (.d (.int lo)), some (.d (.int hi))] st).bind _).bind _) _) _ = _
  rw [ev_tru e rfl]
  cases x with
  | int i =>
    by_cases h : i < lo
    · have h2 : ¬ lo ≤ i := by omega
      simp [ev_bind_ok, ev_toS_ok, isWh, ev_andT, mTst, ev_op, mVar, mC, gIsN, isN, gD2, ltD, ordD, h, h2, ev_then_rt, ev_ret, inR]
    · have h2 : lo ≤ i := by omega
      simp [ev_bind_ok, ev_toS_ok, isWh, ev_andT, mTst, ev_op, mVar, mC, gIsN, isN, gD2, ltD, leD, ordD, h, h2, ev_then_nx, ev_ret, inR, ev_orV, onB, ev_next]
  | dict l => cases hn
  | _ => simp [ev_bind_ok, ev_toS_ok, isWh, ev_then_rt, ev_ret, inR, mC]
end K12
set_option Elab.async false
set_option linter.all false
set_option maxRecDepth 100000
set_option maxHeartbeats 1000000
namespace K12
open PySem TT
variable {st : Sto}
/-- what a line may have at one place -/
def noteOk (d : D) : Bool := match d with
  | .none => true
  | d => inR 0 8 d
theorem C_0_eq (x y : D) (hn : noDct x = true) (hs : stOwn st = false) : C_0 [] [.d x, .d y] st = .ok (.d (.bool (noteOk x))) st := by
  have e : ∀ en : Nv, en[0]? = some (some (.d x)) → mCall F_is_number (mCons (mVar 0) (mCons (mC (.int 0)) (mCons (mC (.int 8)) mNil))) en st = .ok (.d (.bool (inR 0 8 x))) st := fun en h => by
    rw [ev_call, ev_cons, ev_var h]
    show (if hasOwnL [U.d x, .d (.int 0), .d (.int 8)] = false ∧ stOwn st = false then F_is_number [.d x, .d (.int 0), .d (.int 8)] st else .bad) = _
    rw [if_pos ⟨rfl, hs⟩, F_is_number_eq x 0 8 hn hs]
  show finE (mOrV (mOp (gIsN false) (mVar 0) (mC .none)) (mCall F_is_number (mCons (mVar 0) (mCons (mC (.int 0)) (mCons (mC (.int 8)) mNil)))) [some (.d x), some (.d y)] st) = _
  show finE (if isN (.d x) = true then .ok (.d (.bool true)) st else mCall F_is_number (mCons (mVar 0) (mCons (mC (.int 0)) (mCons (mC (.int 8)) mNil))) [some (.d x), some (.d y)] st) = _
  rw [e _ rfl]
  have fin : ∀ b, finE (.ok (.d (.bool b)) st) = .ok (.d (.bool b)) st := fun b => if_pos ⟨rfl, hs⟩
  cases x <;> first | exact fin _ | cases hn
def badFrom : Nat → List D → Option Nat
  | _, [] => none
  | i, d :: r => if noteOk d = true then badFrom (i + 1) r else some i
def ap0 : U → SemF := apC 0 2 C_0 apNil
def wbody : SemS := mIfS (mOrT (mAndT (mTst (mOp (gIsN true) (mVar 1) (mC .none))) (mTst (mOp (gD2 geD) (mVar 3) (mVar 1)))) (mNotT (mTru (mCallV ap0 2 (mCons (mVar 4) (mCons (mSl (mVar 0) mNoPart (mPart (mVar 3))) mNil)))))) (mRet (mLst (mCons (mVar 3) mNil))) mNext
def wtgt : SemG := mGTup 2 (fun us en st => if hasOwnL us.tail = false then mGCons (mG 3) (fun us en st => if hasOwnL us.tail = false then mGCons (mG 4) mGNil us en st else .bad) us en st else .bad)
theorem wtgt_eq {v n c a b : Option U} (i : Nat) (x : D) : wtgt (mkTup [.d (.int i), .d x]) [v, n, c, a, b] st = .nx [v, n, c, some (.d (.int i)), some (.d x)] st := rfl
theorem wbody_eq (l : List D) (i : Nat) (x : D) (hn : noDct x = true) (hc : stClo st = false) : wbody [some (.d (.tuple l)), some (.d .none), some (.clo false 0 []), some (.d (.int i)), some (.d x)] st =
    if noteOk x = true then .nx [some (.d (.tuple l)), some (.d .none), some (.clo false 0 []), some (.d (.int i)), some (.d x)] st else .rt (.d (.list [.int i])) st := by
  have hs := stOwn_clo hc
  have e : mCallV ap0 2 (mCons (mVar 4) (mCons (mSl (mVar 0) mNoPart (mPart (mVar 3))) mNil)) [some (.d (.tuple l)), some (.d .none), some (.clo false 0 []), some (.d (.int i)), some (.d x)] st = .ok (.d (.bool (noteOk x))) st := by
    show (if okAp (.clo false 0 []) [U.d x, .d (.tuple (cutL l none (some (i : Int))))] st = true then C_0 [] [U.d x, .d (.tuple (cutL l none (some (i : Int))))] st else .bad) = _
    rw [if_pos (by show (!false && !false && !stClo st && !false) = true; rw [hc]; rfl), C_0_eq x _ hn hs]
  show Res.toS [some (.d (.tuple l)), some (.d .none), some (.clo false 0 []), some (.d (.int i)), some (.d x)] ((mTru (mCallV ap0 2 (mCons (mVar 4) (mCons (mSl (mVar 0) mNoPart (mPart (mVar 3))) mNil))) [some (.d (.tuple l)), some (.d .none), some (.clo false 0 []), some (.d (.int i)), some (.d x)] st).bind fun c st => .ok (!c) st)
    (fun c st => if c = true then mRet (mLst (mCons (mVar 3) mNil)) [some (.d (.tuple l)), some (.d .none), some (.clo false 0 []), some (.d (.int i)), some (.d x)] st else mNext [some (.d (.tuple l)), some (.d .none), some (.clo false 0 []), some (.d (.int i)), some (.d x)] st) = _
  rw [ev_tru e rfl]
  cases noteOk x
  · rw [if_neg (by decide), ev_bind_ok, ev_toS_ok, if_pos (by decide), ev_ret, ev_lst (l := [.d (.int i)]) (ds := [.int i]) rfl (by simp [sizeLine_eq]) rfl]
    rfl
  · rfl
theorem wloop (l : List D) (hc : stClo st = false) : ∀ (r : List D) (i : Nat) (a b : Option U), (∀ d ∈ r, noDct d = true) →
    ∃ a' b', forL wtgt wbody yes (((r.map U.d).zipIdx i).map fun p => mkTup [.d (.int p.2), p.1]) [some (.d (.tuple l)), some (.d .none), some (.clo false 0 []), a, b] st =
      match badFrom i r with
      | some k => .rt (.d (.list [.int k])) st
      | none => .nx [some (.d (.tuple l)), some (.d .none), some (.clo false 0 []), a', b'] st
  | [], i, a, b, _ => ⟨a, b, rfl⟩
  | d :: r, i, a, b, h => by
    have hd := h d (List.mem_cons_self ..)
    have step : forL wtgt wbody yes ((((d :: r).map U.d).zipIdx i).map fun p => mkTup [.d (.int p.2), p.1]) [some (.d (.tuple l)), some (.d .none), some (.clo false 0 []), a, b] st =
        (match wbody [some (.d (.tuple l)), some (.d .none), some (.clo false 0 []), some (.d (.int i)), some (.d d)] st with
        | .nx en st => forL wtgt wbody yes (((r.map U.d).zipIdx (i + 1)).map fun p => mkTup [.d (.int p.2), p.1]) en st
        | .ct en st => forL wtgt wbody yes (((r.map U.d).zipIdx (i + 1)).map fun p => mkTup [.d (.int p.2), p.1]) en st
        | .bk en st => .nx en st
        | z => z) := rfl
    rw [step, wbody_eq l i d hd hc]
    by_cases hk : noteOk d = true
    · rw [if_pos hk]
      obtain ⟨a', b', e⟩ := wloop l hc r (i + 1) (some (.d (.int i))) (some (.d d)) fun z hz => h z (List.mem_cons_of_mem _ hz)
      refine ⟨a', b', ?_⟩
      simp only [badFrom, if_pos hk]
      exact e
    · rw [if_neg hk]
      exact ⟨a, b, by simp only [badFrom, if_neg hk]⟩
/-- where a value is no line: the answer of the program -/
def wrongAt (l : List D) : List D := match badFrom 0 l with
  | some k => [.int k]
  | none => []
theorem F_wrong_at_tup (l : List D) (hl : ∀ d ∈ l, noDct d = true) (hc : stClo st = false) : F_wrong_at ap0 [.d (.tuple l), .d .none, .clo false 0 []] st = .ok (.d (.list (wrongAt l))) st := by
  have hs := stOwn_clo hc
  obtain ⟨a', b', e⟩ := wloop (st := st) l hc l 0 none none hl
  refine ev_runF (g := f_wrong_at ap0) ?_ rfl hs
  show RS.then (RS.then (Res.toS [some (.d (.tuple l)), some (.d .none), some (.clo false 0 []), none, none] (mIs "tuple" (mVar 0) [some (.d (.tuple l)), some (.d .none), some (.clo false 0 []), none, none] st |>.bind fun u st => (match truU u with
    | some b => Res.ok b st
    | none => .bad) |>.bind fun c st => .ok (!c) st) fun c st => if c = true then mRet (mLst (mCons (mC .none) mNil)) [some (.d (.tuple l)), some (.d .none), some (.clo false 0 []), none, none] st else mNext [some (.d (.tuple l)), some (.d .none), some (.clo false 0 []), none, none] st) (mFor (mEnum (mVar 0)) wtgt wbody)) (mRet (mLst mNil)) = _
  show RS.then (forL wtgt wbody yes (((l.map U.d).zipIdx 0).map fun p => mkTup [.d (.int p.2), p.1]) [some (.d (.tuple l)), some (.d .none), some (.clo false 0 []), none, none] st) (mRet (mLst mNil)) = _
  rw [e]
  unfold wrongAt
  cases badFrom 0 l with
  | some k => rfl
  | none =>
    show mRet (mLst mNil) _ st = _
    rw [ev_ret, ev_lst (l := []) (ds := []) rfl (by simp [sizeLine_eq]) rfl]
    rfl
end K12
set_option Elab.async false
set_option linter.all false
set_option maxRecDepth 100000
set_option maxHeartbeats 1000000
namespace K12
open PySem TT
variable {st : Sto}
/-- what wrong_line answers -/
def wrongLine : D → List D
  | .tuple [] => [.none]
  | .tuple l => wrongAt l
  | _ => [.none]
def goodIn : D → Bool
  | .tuple l => l.all noDct
  | d => noDct d
theorem F_wrong_at_no (d : D) (hn : noDct d = true) (ht : ∀ l, d ≠ .tuple l) (hs : stOwn st = false) : F_wrong_at ap0 [.d d, .d .none, .clo false 0 []] st = .ok (.d (.list [.none])) st := by
  refine ev_runF (g := f_wrong_at ap0) ?_ rfl hs
  cases d <;> first | exact absurd rfl (ht _) | rfl | cases hn
theorem F_wfo_eq (d : D) (hg : goodIn d = true) (hsh : shp d = true) (hc : stClo st = false) : F_wrong_from_one ap0 [.d d, .d .none, .clo false 0 []] st = .ok (.d (.list (wrongLine d))) st := by
  have hs := stOwn_clo hc
  refine ev_runF (g := f_wrong_from_one ap0) ?_ rfl hs
  have call : ∀ z, F_wrong_at ap0 [.d d, .d .none, .clo false 0 []] st = .ok z st → mCall (F_wrong_at ap0) (mCons (mVar 0) (mCons (mVar 1) (mCons (mVar 2) mNil))) [some (.d d), some (.d .none), some (.clo false 0 [])] st = .ok z st := fun z h => by
    show (if hasOwnL [U.d d, .d .none, .clo false 0 []] = false ∧ stOwn st = false then F_wrong_at ap0 [.d d, .d .none, .clo false 0 []] st else .bad) = _
    rw [if_pos ⟨rfl, hs⟩, h]
  have notup : (∀ l, d ≠ .tuple l) → noDct d = true → mRet (mIf (mAndT (mTru (mIs "tuple" (mVar 0))) (mTst (mOp (gD2 eqD) (mVar 0) (mTup mNil)))) (mLst (mCons (mC .none) mNil)) (mCall (F_wrong_at ap0) (mCons (mVar 0) (mCons (mVar 1) (mCons (mVar 2) mNil))))) [some (.d d), some (.d .none), some (.clo false 0 [])] st = .rt (.d (.list [.none])) st := fun h hn => by
    have e := call _ (F_wrong_at_no d hn h hs)
    have c : mAndT (mTru (mIs "tuple" (mVar 0))) (mTst (mOp (gD2 eqD) (mVar 0) (mTup mNil))) [some (.d d), some (.d .none), some (.clo false 0 [])] st = .ok false st := by
      cases d <;> first | exact absurd rfl (h _) | rfl | cases hn
    rw [ev_ret, ev_if, c]
    show Res.toS _ (mCall (F_wrong_at ap0) (mCons (mVar 0) (mCons (mVar 1) (mCons (mVar 2) mNil))) [some (.d d), some (.d .none), some (.clo false 0 [])] st) _ = _
    rw [e]
    rfl
  unfold f_wrong_from_one
  cases d with
  | tuple l =>
    have hl : ∀ d ∈ l, noDct d = true := List.all_eq_true.mp hg
    have e := call _ (F_wrong_at_tup l hl hc)
    have q : gD2 eqD (.d (.tuple l)) (.d (.tuple [])) st = .ok (.d (.bool (PyData.eqv (.tuple l) (.tuple [])))) st := ev_g2 (by
      unfold eqD; rw [if_pos ⟨hsh, by decide⟩])
    have c : mAndT (mTru (mIs "tuple" (mVar 0))) (mTst (mOp (gD2 eqD) (mVar 0) (mTup mNil))) [some (.d (.tuple l)), some (.d .none), some (.clo false 0 [])] st = .ok (PyData.eqv (.tuple l) (.tuple [])) st := by
      show mTst (mOp (gD2 eqD) (mVar 0) (mTup mNil)) [some (.d (.tuple l)), some (.d .none), some (.clo false 0 [])] st = _
      refine ev_tst ?_
      show (mTup mNil [some (U.d (.tuple l)), some (.d .none), some (.clo false 0 [])] st).bind (fun w st => gD2 eqD (.d (.tuple l)) w st) = _
      have t : mTup mNil [some (U.d (.tuple l)), some (.d .none), some (.clo false 0 [])] st = .ok (.d (.tuple [])) st := by
        show (if ([] : List U).length ≤ sizeLine then Res.ok (mkTup []) st else .bad) = _
        rw [if_pos (by simp [sizeLine_eq])]; rfl
      rw [t, ev_bind_ok, q]
    show mRet (mIf (mAndT (mTru (mIs "tuple" (mVar 0))) (mTst (mOp (gD2 eqD) (mVar 0) (mTup mNil)))) (mLst (mCons (mC .none) mNil)) (mCall (F_wrong_at ap0) (mCons (mVar 0) (mCons (mVar 1) (mCons (mVar 2) mNil))))) [some (.d (.tuple l)), some (.d .none), some (.clo false 0 [])] st = _
    rw [ev_ret, ev_if, c, ev_bind_ok]
    cases l with
    | nil =>
      have z : PyData.eqv (.tuple []) (.tuple []) = true := by decide +kernel
      rw [z, if_pos rfl, ev_lst (l := [.d .none]) (ds := [.none]) rfl (by simp [sizeLine_eq]) rfl]
      rfl
    | cons a r =>
      have z : PyData.eqv (.tuple (a :: r)) (.tuple []) = false := by simp [PyData.eqv, PyData.eqvAll]
      rw [z, if_neg (by decide), e]
      rfl
  | none => exact notup (fun l h => by cases h) rfl
  | bool b => exact notup (fun l h => by cases h) rfl
  | int b => exact notup (fun l h => by cases h) rfl
  | str b => exact notup (fun l h => by cases h) rfl
  | list b => exact notup (fun l h => by cases h) rfl
  | dict b => cases hg
theorem F_wrong_line_eq (d : D) (hg : goodIn d = true) (hsh : shp d = true) (hc : stClo st = false) : F_wrong_line [.d d] st = .ok (.d (.list (wrongLine d))) st := by
  have hs := stOwn_clo hc
  refine ev_runF (g := f_wrong_line) ?_ rfl hs
  show Res.toS _ (if hasOwnL [U.d d, .d .none, .clo false 0 []] = false ∧ stOwn st = false then F_wrong_from_one ap0 [.d d, .d .none, .clo false 0 []] st else .bad) _ = _
  rw [if_pos ⟨rfl, hs⟩, F_wfo_eq d hg hsh hc]
  rfl
end K12
set_option Elab.async false
set_option linter.all false
set_option maxRecDepth 100000
set_option maxHeartbeats 1000000
namespace TT
open PySem
theorem allD_mapf {α : Type} (f : α → D) : ∀ l : List α, allD (l.map fun x => U.d (f x)) = some (l.map f)
  | [] => rfl
  | x :: r => by
    show (match allD (r.map fun x => U.d (f x)) with | some l => some (f x :: l) | none => none) = _
    rw [allD_mapf f r]
    rfl
theorem lcL_map {i : Nat} {fe : SemE} {en : Nv} {st : Sto} {f : U → U} : ∀ (items acc : List U), (∀ x ∈ items, fe (en.set i (some x)) st = .ok (f x) st) → lcL (mG i) (fun _ st => .ok true st) fe yes en items acc st = .ok (acc ++ items.map f) st
  | [], acc, _ => by simp [lcL]
  | x :: r, acc, h => by
    have e := h x (List.mem_cons_self ..)
    show (match fe (en.set i (some x)) st with
      | .ok y st3 => lcL (mG i) (fun _ st => .ok true st) fe yes en r (acc ++ [y]) st3
      | _ => .bad) = _
    rw [e]
    show lcL (mG i) (fun _ st => .ok true st) fe yes en r (acc ++ [f x]) st = _
    rw [lcL_map r _ fun z hz => h z (List.mem_cons_of_mem _ hz)]
    simp
theorem lcL_filter {i : Nat} {t : SemT} {fe : SemE} {en : Nv} {st : Sto} {f : U → U} {p : U → Bool} : ∀ (items acc : List U), (∀ x ∈ items, t (en.set i (some x)) st = .ok (p x) st) → (∀ x ∈ items, fe (en.set i (some x)) st = .ok (f x) st) →
    lcL (mG i) t fe yes en items acc st = .ok (acc ++ (items.filter p).map f) st
  | [], acc, _, _ => by simp [lcL]
  | x :: r, acc, h1, h => by
    have e := h x (List.mem_cons_self ..)
    have e1 := h1 x (List.mem_cons_self ..)
    show (match t (en.set i (some x)) st with
      | .ok b st2 => if b = true then (match fe (en.set i (some x)) st2 with
          | .ok y st3 => lcL (mG i) t fe yes en r (acc ++ [y]) st3
          | _ => .bad)
        else lcL (mG i) t fe yes en r acc st2
      | _ => .bad) = _
    rw [e1]
    have ih := fun acc => lcL_filter r acc (fun z hz => h1 z (List.mem_cons_of_mem _ hz)) fun z hz => h z (List.mem_cons_of_mem _ hz)
    cases hp : p x with
    | true =>
      show (match fe (en.set i (some x)) st with
          | .ok y st3 => lcL (mG i) t fe yes en r (acc ++ [y]) st3
          | _ => .bad) = _
      rw [e]
      show lcL (mG i) t fe yes en r (acc ++ [f x]) st = _
      rw [ih, List.filter_cons_of_pos hp]
      simp
    | false =>
      show lcL (mG i) t fe yes en r acc st = _
      rw [ih, List.filter_cons_of_neg (by rw [hp]; decide)]
theorem mLc_eq {fi : SemI} {i : Nat} {fe : SemE} {en : Nv} {st st1 : Sto} {items : List U} {α : Type} {xs : List α} {a : α → U} {f : α → D} (hi : fi en st = .ok (items, yes) st1) (hx : items = xs.map a) (h1 : enOwn en = false) (h2 : stOwn st1 = false) (h : ∀ x ∈ xs, fe ((wipeN en [i]).set i (some (a x))) st1 = .ok (.d (f x)) st1) :
    mLc fi [i] (mG i) (fun _ st => .ok true st) fe en st = .ok (.d (.list (xs.map f))) st1 := by
  have key : ∀ (xs : List α) (acc : List U), (∀ x ∈ xs, fe ((wipeN en [i]).set i (some (a x))) st1 = .ok (.d (f x)) st1) → lcL (mG i) (fun _ st => .ok true st) fe yes (wipeN en [i]) (xs.map a) acc st1 = .ok (acc ++ xs.map fun x => U.d (f x)) st1 := by
    intro xs
    induction xs with
    | nil => intro acc _; simp [lcL]
    | cons x r ih =>
      intro acc h
      have e := h x (List.mem_cons_self ..)
      show (match fe ((wipeN en [i]).set i (some (a x))) st1 with
        | .ok y st3 => lcL (mG i) (fun _ st => .ok true st) fe yes (wipeN en [i]) (r.map a) (acc ++ [y]) st3
        | _ => .bad) = _
      rw [e]
      show lcL (mG i) (fun _ st => .ok true st) fe yes (wipeN en [i]) (r.map a) (acc ++ [U.d (f x)]) st1 = _
      rw [ih _ fun z hz => h z (List.mem_cons_of_mem _ hz)]
      simp
  unfold mLc
  rw [hi]
  show (if enOwn en = false ∧ stOwn st1 = false then (lcL (mG i) (fun _ st => .ok true st) fe yes (wipeN en [i]) items [] st1).bind fun l st => (match allD l with
    | some l => Res.ok (U.d (PyData.list l)) st
    | none => .bad) else .bad) = _
  rw [if_pos ⟨h1, h2⟩, hx, key xs [] h, List.nil_append, ev_bind_ok, allD_mapf f xs]
end TT
namespace K12
open PySem TT
variable {st : Sto}
/-- a line's note: None or a number of one figure -/
def isNote : D → Bool
  | .none => true
  | .int i => decide (0 ≤ i) && decide (i ≤ 8)
  | _ => false
def noteStr : D → Str
  | .int i => toString i
  | _ => "-"
def lineOf (l : List D) : Str := Txt.join " " (l.map noteStr)
theorem strsOf_map {α : Type} (f : α → Str) : ∀ l : List α, strsOf (l.map fun x => U.d (.str (f x))) = some (l.map f)
  | [] => rfl
  | x :: r => by
    show (match strsOf (r.map fun x => U.d (.str (f x))) with | some l => some (f x :: l) | none => none) = _
    rw [strsOf_map f r]
    rfl
theorem noteStr_len {d : D} (h : isNote d = true) : (noteStr d).length ≤ 1 := by
  cases d with
  | none => decide
  | int i =>
    simp only [isNote, Bool.and_eq_true, decide_eq_true_eq] at h
    have : i = 0 ∨ i = 1 ∨ i = 2 ∨ i = 3 ∨ i = 4 ∨ i = 5 ∨ i = 6 ∨ i = 7 ∨ i = 8 := by omega
    rcases this with rfl | rfl | rfl | rfl | rfl | rfl | rfl | rfl | rfl <;> decide +kernel
  | _ => cases h
theorem sum_le {l : List D} (h : ∀ d ∈ l, isNote d = true) : ((l.map noteStr).map Str.length).sum ≤ l.length := by
  induction l with
  | nil => simp
  | cons d r ih =>
    have h1 := noteStr_len (h d (List.mem_cons_self ..))
    have h2 := ih fun z hz => h z (List.mem_cons_of_mem _ hz)
    simp only [List.map_cons, List.sum_cons, List.length_cons]
    omega
theorem line_eq (l : List D) (hl : ∀ d ∈ l, isNote d = true) (hz : l.length ≤ 1000) (hs : stOwn st = false) : F_line_of [.d (.tuple l)] st = .ok (.d (.str (lineOf l))) st := by
  refine ev_runF (g := f_line_of) ?_ rfl hs
  have c : mLc (mSeqI (mVar 0)) [1] (mG 1) (fun _ st => .ok true st) (mIf (mTst (mOp (gIsN false) (mVar 1) (mC .none))) (mC (.str "-")) (mCB gStrI (mCons (mVar 1) mNil))) [some (.d (.tuple l)), none] st = .ok (.d (.list (l.map fun d => .str (noteStr d)))) st := by
    refine mLc_eq (xs := l) (a := U.d) rfl rfl rfl hs fun d hd => ?_
    have h := hl d hd
    cases d with
    | none => rfl
    | int i =>
      simp only [isNote, Bool.and_eq_true, decide_eq_true_eq] at h
      have hb : i.natAbs.log2 < 1920 := by
        have : i = 0 ∨ i = 1 ∨ i = 2 ∨ i = 3 ∨ i = 4 ∨ i = 5 ∨ i = 6 ∨ i = 7 ∨ i = 8 := by omega
        rcases this with rfl | rfl | rfl | rfl | rfl | rfl | rfl | rfl | rfl <;> decide +kernel
      show gStrI [.d (.int i)] st = _
      unfold gStrI
      first | exact if_pos hb | (rw [if_pos hb]; rfl)
    | _ => cases h
  show Res.toS _ (mM1 gJoin (mC (.str " ")) (mLc (mSeqI (mVar 0)) [1] (mG 1) (fun _ st => .ok true st) (mIf (mTst (mOp (gIsN false) (mVar 1) (mC .none))) (mC (.str "-")) (mCB gStrI (mCons (mVar 1) mNil)))) [some (.d (.tuple l)), none] st) _ = _
  show Res.toS _ ((mLc (mSeqI (mVar 0)) [1] (mG 1) (fun _ st => .ok true st) (mIf (mTst (mOp (gIsN false) (mVar 1) (mC .none))) (mC (.str "-")) (mCB gStrI (mCons (mVar 1) mNil))) [some (.d (.tuple l)), none] st).bind fun w st => gJoin " " w st) _ = _
  rw [c, ev_bind_ok]
  have j : gJoin " " (.d (.list (l.map fun d => .str (noteStr d)))) st = .ok (.d (.str (lineOf l))) st := by
    unfold gJoin
    show (match strsOf ((l.map fun d => PyData.str (noteStr d)).map U.d) with
      | some ys => if (ys.map Str.length).sum + ys.length * (" " : Str).length ≤ 16777216 then Res.ok (U.d (.str (Txt.join " " ys))) st else .bad
      | none => .bad) = _
    rw [List.map_map]
    show (match strsOf (l.map fun d => U.d (.str (noteStr d))) with
      | some ys => if (ys.map Str.length).sum + ys.length * (" " : Str).length ≤ 16777216 then Res.ok (U.d (.str (Txt.join " " ys))) st else .bad
      | none => .bad) = _
    rw [strsOf_map]
    refine if_pos ?_
    have h1 := sum_le hl
    have h2 : (" " : Str).length = 1 := by decide
    rw [h2, List.length_map]
    omega
  rw [j]
  rfl
theorem law_line_eq (l : List D) (hl : ∀ d ∈ l, isNote d = true) (hz : l.length ≤ 1000) (hs : stOwn st = false) : F__law_line [.d (.tuple l)] st = .ok (.d (.str (lineOf l))) st := line_eq l hl hz hs
end K12
set_option Elab.async false
set_option linter.all false
set_option maxRecDepth 100000
set_option maxHeartbeats 1000000
namespace K12
open PySem TT
variable {st : Sto}
/-- the program on notes -/
theorem call_wrong (d : D) {en : Nv} {i : Nat} (hi : en[i]? = some (some (.d d))) (hg : goodIn d = true) (hsh : shp d = true) (hc : stClo st = false) : mCall F_wrong_line (mCons (mVar i) mNil) en st = .ok (.d (.list (wrongLine d))) st := by
  rw [ev_call, ev_cons, ev_var hi]
  show (if hasOwnL [U.d d] = false ∧ stOwn st = false then F_wrong_line [.d d] st else .bad) = _
  rw [if_pos ⟨rfl, stOwn_clo hc⟩, F_wrong_line_eq d hg hsh hc]
theorem notes_line_ok (l : List D) (hl : ∀ d ∈ l, isNote d = true) (hz : l.length ≤ 1000) (hw : wrongLine (.tuple l) = []) (hg : goodIn (.tuple l) = true) (hsh : shp (.tuple l) = true) (hc : stClo st = false) : F_notes_line [.d (.tuple l)] st = .ok (.d (.str (lineOf l))) st := by
  have hs := stOwn_clo hc
  refine ev_runF (g := f_notes_line) ?_ rfl hs
  show RS.then (Res.toS _ ((mCall F_wrong_line (mCons (mVar 0) mNil) [some (.d (.tuple l)), none] st).bind fun u st => match iterOf u with
    | some l => Res.ok (l, yes) st
    | none => .bad) fun it st => forL (mG 1) (mRaise "InvalidNotes" (mVar 1)) it.2 it.1 [some (.d (.tuple l)), none] st) _ = _
  rw [call_wrong (.tuple l) rfl hg hsh hc, hw]
  show Res.toS _ (if hasOwnL [U.d (.tuple l)] = false ∧ stOwn st = false then F_line_of [.d (.tuple l)] st else .bad) _ = _
  rw [if_pos ⟨rfl, hs⟩, line_eq l hl hz hs]
  rfl
theorem notes_line_exn (d k : D) (hw : wrongLine d = [k]) (hg : goodIn d = true) (hsh : shp d = true) (hc : stClo st = false) : F_notes_line [.d d] st = .exn "InvalidNotes" (some (.d k)) st := by
  have hs := stOwn_clo hc
  have e : f_notes_line ([U.d d].map some ++ List.replicate (2 - [U.d d].length) none) st = .exn "InvalidNotes" (some (.d k)) [some (.d d), some (.d k)] st := by
    show RS.then (Res.toS _ ((mCall F_wrong_line (mCons (mVar 0) mNil) [some (.d d), none] st).bind fun u st => match iterOf u with
      | some l => Res.ok (l, yes) st
      | none => .bad) fun it st => forL (mG 1) (mRaise "InvalidNotes" (mVar 1)) it.2 it.1 [some (.d d), none] st) _ = _
    rw [call_wrong d rfl hg hsh hc, hw]
    rfl
  show runF 2 f_notes_line [.d d] st = _
  unfold runF
  rw [e]
  exact if_pos ⟨rfl, hs⟩
/-- a list of notes is no wrong line -/
theorem noteOk_of {d : D} (h : isNote d = true) : noteOk d = true ∧ noDct d = true := by
  cases d with
  | none => exact ⟨rfl, rfl⟩
  | int i => exact ⟨h, rfl⟩
  | _ => cases h
theorem badFrom_none : ∀ (l : List D) (i : Nat), (∀ d ∈ l, noteOk d = true) → badFrom i l = none
  | [], _, _ => rfl
  | d :: r, i, h => by
    simp only [badFrom, if_pos (h d (List.mem_cons_self ..))]
    exact badFrom_none r (i + 1) fun z hz => h z (List.mem_cons_of_mem _ hz)
theorem badFrom_at : ∀ (l : List D) (i : Nat) (x : D) (r : List D), (∀ d ∈ l, noteOk d = true) → noteOk x = false → badFrom i (l ++ x :: r) = some (i + l.length)
  | [], i, x, r, _, hx => by
    show (if noteOk x = true then badFrom (i + 1) r else some i) = _
    rw [hx]
    rfl
  | d :: l, i, x, r, h, hx => by
    show (if noteOk d = true then badFrom (i + 1) (l ++ x :: r) else some i) = _
    rw [if_pos (h d (List.mem_cons_self ..)), badFrom_at l (i + 1) x r (fun z hz => h z (List.mem_cons_of_mem _ hz)) hx, List.length_cons]
    congr 1
    omega
theorem wrongLine_notes {l : List D} (hl : ∀ d ∈ l, isNote d = true) (h0 : l ≠ []) : wrongLine (.tuple l) = [] := by
  cases l with
  | nil => exact absurd rfl h0
  | cons a r =>
    show wrongAt (a :: r) = []
    unfold wrongAt
    rw [badFrom_none _ 0 fun d hd => (noteOk_of (hl d hd)).1]
end K12
set_option Elab.async false
set_option linter.all false
set_option maxRecDepth 100000
set_option maxHeartbeats 1000000
namespace TT
open PySem
theorem strExt {x y : Str} (h : x.cps.toList = y.cps.toList) : x = y := Str.ext' (Array.toList_inj.mp h)
theorem at0 {α : Type} (a : α) (r : List α) : L2.atI (a :: r) 0 = some a := by
  unfold L2.atI L2.ixN
  simp
theorem eqD_str (x y : Str) : eqD (.str x) (.str y) = some (.bool (decide (x = y))) := by
  unfold eqD
  split
  · simp only [PyData.eqv]
    by_cases h : x = y
    · simp [h]
    · simp [h]
  · rfl
theorem neD_str (x y : Str) : neD (.str x) (.str y) = some (.bool (!decide (x = y))) := by
  unfold neD
  split
  · simp only [PyData.eqv]
    by_cases h : x = y
    · simp [h]
    · simp [h]
  · rfl
theorem boolsOf_map {α : Type} (f : α → Bool) : ∀ l : List α, boolsOf (l.map fun x => U.d (.bool (f x))) = some (l.map f)
  | [] => rfl
  | x :: r => by
    show (match boolsOf (r.map fun x => U.d (.bool (f x))) with | some l => some (f x :: l) | none => none) = _
    rw [boolsOf_map f r]
    rfl
theorem gAllL_map {α : Type} (f : α → Bool) (l : List α) (st : Sto) : gAllL [.d (.list (l.map fun x => .bool (f x)))] st = .ok (.d (.bool (l.all f))) st := by
  unfold gAllL
  have e : lstOf st (.d (.list (l.map fun x => .bool (f x)))) = some (l.map fun x => U.d (.bool (f x))) := by
    show some ((l.map fun x => PyData.bool (f x)).map U.d) = _
    rw [List.map_map]
    rfl
  show (match (lstOf st (.d (.list (l.map fun x => .bool (f x))))).bind boolsOf with
    | some l => Res.ok (U.d (.bool (l.all id))) st
    | none => .bad) = _
  rw [e]
  show (match boolsOf (l.map fun x => U.d (.bool (f x))) with
    | some l => Res.ok (U.d (.bool (l.all id))) st
    | none => .bad) = _
  rw [boolsOf_map]
  show Res.ok (U.d (.bool ((l.map f).all id))) st = _
  rw [List.all_map]
  rfl
end TT
namespace K12
open PySem TT
variable {st : Sto}
def dig (c : Nat) : Bool := decide (48 ≤ c) && decide (c ≤ 57)
theorem dig_in (c : Nat) : strIn ⟨#[c]⟩ "0123456789" = dig c := by
  unfold strIn
  rw [StrLaws.found_one]
  have e : ("0123456789" : Str).cps.toList = [48, 49, 50, 51, 52, 53, 54, 55, 56, 57] := by decide +kernel
  rw [e]
  unfold dig
  by_cases h : 48 ≤ c ∧ c ≤ 57
  · have : c = 48 ∨ c = 49 ∨ c = 50 ∨ c = 51 ∨ c = 52 ∨ c = 53 ∨ c = 54 ∨ c = 55 ∨ c = 56 ∨ c = 57 := by omega
    rcases this with rfl | rfl | rfl | rfl | rfl | rfl | rfl | rfl | rfl | rfl <;> decide
  · have h1 : decide (c ∈ [48, 49, 50, 51, 52, 53, 54, 55, 56, 57]) = false := by
      simp only [List.mem_cons, List.not_mem_nil, or_false, decide_eq_false_iff_not]
      omega
    rw [h1]
    by_cases a : 48 ≤ c
    · have b : ¬ c ≤ 57 := fun b => h ⟨a, b⟩
      simp [a, b]
    · simp [a]
def isFig (w : List Nat) : Bool := match w with
  | [] => false
  | c :: cs => (c :: cs).all dig && (decide ((c :: cs) = [48]) || !decide (c = 48))
theorem sgn_eq (c d : Nat) : decide ((⟨#[c]⟩ : Str) = ⟨#[d]⟩) = decide (c = d) := by
  by_cases h : c = d
  · simp [h]
  · simp [h]
theorem F_is_figures_eq (w : Str) (hz : w.length ≤ 1000) (hs : stOwn st = false) : F_is_figures [.d (.str w)] st = .ok (.d (.bool (isFig w.cps.toList))) st := by
  refine ev_runF (g := f_is_figures) ?_ rfl hs
  have hz2 : w.length ≤ sizeLine := by rw [sizeLine_eq]; omega
  have cmp : ∀ z : Str, mOp (gD2 eqD) (mVar 0) (mC (.str z)) [some (.d (.str w)), none] st = .ok (.d (.bool (decide (w = z)))) st := fun z => ev_g2 (eqD_str w z)
  have c : mLc (mSeqI (mVar 0)) [1] (mG 1) (fun _ st => .ok true st) (mOp (gD2 (inD false)) (mVar 1) (mC (.str "0123456789"))) [some (.d (.str w)), none] st = .ok (.d (.list (w.cps.toList.map fun c => .bool (dig c)))) st := by
    refine mLc_eq (items := signsU w) (xs := w.cps.toList) (a := fun c => U.d (.str ⟨#[c]⟩)) ?_ rfl rfl hs fun c hc => ?_
    · show (match (if w.length ≤ sizeLine then some (signsU w) else none) with
        | some l => Res.ok (l, yes) st
        | none => .bad) = _
      rw [if_pos hz2]
    · show gD2 (inD false) (.d (.str ⟨#[c]⟩)) (.d (.str "0123456789")) st = _
      exact ev_g2 (by show some (PyData.bool (strIn ⟨#[c]⟩ "0123456789")) = _; rw [dig_in])
  have all : mCB gAllL (mCons (mLc (mSeqI (mVar 0)) [1] (mG 1) (fun _ st => .ok true st) (mOp (gD2 (inD false)) (mVar 1) (mC (.str "0123456789")))) mNil) [some (.d (.str w)), none] st = .ok (.d (.bool (w.cps.toList.all dig))) st := by
    rw [ev_cb, ev_cons, c]
    exact gAllL_map dig _ st
  have t : mOrT (mTst (mOp (gD2 eqD) (mVar 0) (mC (.str "")))) (mNotT (mTru (mCB gAllL (mCons (mLc (mSeqI (mVar 0)) [1] (mG 1) (fun _ st => .ok true st) (mOp (gD2 (inD false)) (mVar 1) (mC (.str "0123456789")))) mNil)))) [some (.d (.str w)), none] st = .ok (decide (w = "") || !w.cps.toList.all dig) st := by
    rw [ev_orT, ev_tst (cmp ""), ev_bind_ok]
    by_cases h : w = ""
    · simp [h]
    · rw [if_neg (by simp [h]), ev_notT, ev_tru all rfl, ev_bind_ok]
      simp [h]
  unfold f_is_figures
  show RS.then (mIfS (mOrT (mTst (mOp (gD2 eqD) (mVar 0) (mC (.str "")))) (mNotT (mTru (mCB gAllL (mCons (mLc (mSeqI (mVar 0)) [1] (mG 1) (fun _ st => .ok true st) (mOp (gD2 (inD false)) (mVar 1) (mC (.str "0123456789")))) mNil))))) (mRet (mC (.bool false))) mNext [some (.d (.str w)), none] st)
    (mRet (mOrV (mOp (gD2 eqD) (mVar 0) (mC (.str "0"))) (mOp (gD2 neD) (mOp gIx (mVar 0) (mC (.int 0))) (mC (.str "0"))))) = _
  rw [ev_ifS, t, ev_toS_ok]
  cases hl : w.cps.toList with
  | nil =>
    have e : w = "" := strExt (by show w.cps.toList = _; rw [hl]; decide +kernel)
    rw [if_pos (by simp [e])]
    rfl
  | cons a r =>
    have ne : w ≠ "" := fun e => by
      have q : ("" : Str).cps.toList = [] := by decide +kernel
      rw [e, q] at hl
      cases hl
    by_cases hd : (a :: r).all dig = true
    · rw [if_neg (by simp [ne, hd]), ev_next, ev_then_nx, ev_ret, ev_orV, cmp "0", ev_bind_ok, ev_onB]
      have e0 : decide (w = "0") = decide ((a :: r) = [48]) := by
        have e48 : ("0" : Str).cps.toList = [48] := by decide +kernel
        by_cases h : (a :: r) = [48]
        · have : w = "0" := strExt (by show w.cps.toList = _; rw [hl, h]; exact e48.symm)
          simp [this, h]
        · have : w ≠ "0" := fun e => h (by rw [← hl, e]; exact e48)
          simp [this, h]
      by_cases h0 : w = "0"
      · rw [if_pos (by simp [h0]), ev_toS_ok]
        have q : decide ((a :: r) = [48]) = true := by rw [← e0]; simp [h0]
        simp only [isFig, hd, q, Bool.true_or, Bool.and_true]
      · rw [if_neg (by simp [h0])]
        have ix : mOp gIx (mVar 0) (mC (.int 0)) [some (.d (.str w)), none] st = .ok (.d (.str ⟨#[a]⟩)) st := by
          show gIx (.d (.str w)) (.d (.int 0)) st = _
          unfold gIx
          show (if w.length ≤ sizeLine then (match L2.atI w.cps.toList 0 with
            | some c => Res.ok (U.d (.str ⟨#[c]⟩)) st
            | none => .bad) else .bad) = _
          rw [if_pos hz2, hl, at0]
        have n : mOp (gD2 neD) (mOp gIx (mVar 0) (mC (.int 0))) (mC (.str "0")) [some (.d (.str w)), none] st = .ok (.d (.bool (!decide (a = 48)))) st := by
          rw [ev_op, ix]
          refine ev_g2 ?_
          rw [neD_str]
          have e48 : ("0" : Str) = ⟨#[48]⟩ := by decide +kernel
          rw [e48, sgn_eq]
        rw [n, ev_toS_ok]
        have q : decide ((a :: r) = [48]) = false := by rw [← e0]; simp [h0]
        simp only [isFig, hd, q, Bool.false_or, Bool.true_and]
    · rw [if_pos (by simp [hd])]
      simp only [isFig, hd, Bool.false_and]
      rfl
end K12
set_option Elab.async false
set_option linter.all false
set_option maxRecDepth 100000
set_option maxHeartbeats 1000000
namespace K12
open PySem TT PySem.NumText
variable {st : Sto}
def okW (w : Str) : Bool := decide (w = "-") || isFig w.cps.toList
def noteOf (w : Str) : D := if w = "-" then .none else .int (digitsVal w.cps.toList)
def smallW (w : Str) : Bool := decide (w = "-") || match w.cps.toList with
  | [c] => decide (48 ≤ c) && decide (c ≤ 56)
  | _ => false
theorem allDig {l : List Nat} (h : l.all dig = true) : AllDigits l := fun c hc => by
  have := List.all_eq_true.mp h c hc
  unfold dig at this
  simpa using this
theorem fold_ge : ∀ (l : List Nat) (a : Nat), a ≤ l.foldl (fun acc c => acc * 10 + (c - 48)) a
  | [], a => Nat.le_refl _
  | c :: r, a => Nat.le_trans (by omega) (fold_ge r (a * 10 + (c - 48)))
theorem fig_small {w : Str} (h : w ≠ "-") : smallW w = (isFig w.cps.toList && noteOk (noteOf w)) := by
  have e1 : smallW w = match w.cps.toList with
    | [c] => decide (48 ≤ c) && decide (c ≤ 56)
    | _ => false := by unfold smallW; simp [h]
  have e2 : noteOk (noteOf w) = decide ((digitsVal w.cps.toList : Int) ≤ 8) := by
    unfold noteOf
    rw [if_neg h]
    show (decide (0 ≤ (digitsVal w.cps.toList : Int)) && decide ((digitsVal w.cps.toList : Int) ≤ 8)) = _
    simp
  rw [e1, e2]
  cases w.cps.toList with
  | nil => rfl
  | cons c r =>
    cases r with
    | nil =>
      show (decide (48 ≤ c) && decide (c ≤ 56)) = (((c :: ([] : List Nat)).all dig && (decide ([c] = [48]) || !decide (c = 48))) && decide ((digitsVal [c] : Int) ≤ 8))
      have v : digitsVal [c] = c - 48 := by unfold digitsVal; simp
      rw [v]
      by_cases a : 48 ≤ c
      · by_cases b : c ≤ 56
        · have d : dig c = true := by unfold dig; simp; omega
          have z : ((c - 48 : Nat) : Int) ≤ 8 := by omega
          simp [a, b, d, z]
        · have z : ¬ ((c - 48 : Nat) : Int) ≤ 8 := by omega
          simp [b, z]
      · have d : dig c = false := by unfold dig; simp; omega
        simp [a, d]
    | cons d r =>
      show false = _
      by_cases hd : (c :: d :: r).all dig = true
      · have ad := allDig hd
        have hc := ad c (List.mem_cons_self ..)
        by_cases c0 : c = 48
        · subst c0
          simp [isFig]
        · have v : 10 ≤ digitsVal (c :: d :: r) := by
            unfold digitsVal
            show 10 ≤ r.foldl (fun acc c => acc * 10 + (c - 48)) ((0 * 10 + (c - 48)) * 10 + (d - 48))
            exact Nat.le_trans (by omega) (fold_ge r _)
          have z : ¬ ((digitsVal (c :: d :: r) : Nat) : Int) ≤ 8 := by omega
          simp [z]
      · simp [isFig, hd]
theorem small_eq (w : Str) : smallW w = (okW w && noteOk (noteOf w)) := by
  by_cases h : w = "-"
  · subst h; decide +kernel
  · rw [fig_small h]
    unfold okW
    simp [h]
/-- int of a word of figures -/
theorem gInt_fig {w : Str} (h : isFig w.cps.toList = true) (hz : w.length ≤ 640) : gInt [.d (.str w)] st = .ok (.d (.int (digitsVal w.cps.toList))) st := by
  have hd : w.cps.toList.all dig = true ∧ w.cps.toList ≠ [] := by
    cases e : w.cps.toList with
    | nil => rw [e] at h; cases h
    | cons c r =>
      rw [e] at h
      simp only [isFig, Bool.and_eq_true] at h
      exact ⟨h.1, by simp⟩
  have q := intText_digits (allDig hd.1) hd.2 (by omega)
  show (match PySem.intText? w with
    | some n => if w.length ≤ 640 then Res.ok (U.d (.int n)) st else .bad
    | none => .bad) = _
  rw [q]
  exact if_pos hz
theorem told_elem (w : Str) (hz : w.length ≤ 640) (ho : okW w = true) {en : Nv} (h : en[2]? = some (some (.d (.str w)))) :
    mIf (mTst (mOp (gD2 eqD) (mVar 2) (mC (.str "-")))) (mC .none) (mCB gInt (mCons (mVar 2) mNil)) en st = .ok (.d (noteOf w)) st := by
  have e : mOp (gD2 eqD) (mVar 2) (mC (.str "-")) en st = .ok (.d (.bool (decide (w = "-")))) st := by
    rw [ev_op, ev_var h]
    exact ev_g2 (eqD_str w "-")
  rw [ev_if, ev_tst e, ev_bind_ok]
  by_cases hw : w = "-"
  · rw [if_pos (by simp [hw])]
    unfold noteOf
    rw [if_pos hw]
    rfl
  · rw [if_neg (by simp [hw]), ev_cb, ev_cons, ev_var h]
    show gInt [.d (.str w)] st = _
    have hf : isFig w.cps.toList = true := by
      unfold okW at ho
      simpa [hw] using ho
    rw [gInt_fig hf hz]
    unfold noteOf
    rw [if_neg hw]
theorem gTuple_list (l : List D) (st : Sto) : gTuple [.d (.list l)] st = .ok (.d (.tuple l)) st := by
  unfold gTuple
  simp [seqOf, lstOf, mkTup, allD_map]
def words (x : Str) : List Str := Txt.split x " "
theorem split_eq (x : Str) (hz : x.length ≤ 640) : gSplit x (.d (.str " ")) st = .ok (.d (.list ((words x).map PyData.str))) st := by
  show (if ((" " : Str).length == 0) = false ∧ x.length + 2 ≤ sizeLine then Res.ok (U.d (.list ((Txt.split x " ").map PyData.str))) st else .bad) = _
  exact if_pos ⟨by decide, by rw [sizeLine_eq]; omega⟩
theorem F_notes_told_eq (x : Str) (hz : x.length ≤ 640) (hw : ∀ w ∈ words x, w.length ≤ 640) (hn : (words x).length ≤ 1000) (hs : stOwn st = false) :
    F_notes_told [.d (.str x)] st = .ok (.d (.list (if (words x).all okW = true then [.tuple ((words x).map noteOf)] else []))) st := by
  refine ev_runF (g := f_notes_told) ?_ rfl hs
  have sp : mM1 gSplit (mVar 0) (mC (.str " ")) [some (.d (.str x)), none, none] st = .ok (.d (.list ((words x).map PyData.str))) st := split_eq x hz
  have seq : mSeqI (mVar 1) [some (.d (.str x)), some (.d (.list ((words x).map PyData.str))), none] st = .ok (((words x).map fun w => U.d (.str w)), yes) st := by
    show Res.ok (((words x).map PyData.str).map U.d, yes) st = _
    rw [List.map_map]
    rfl
  have c1 : mLc (mSeqI (mVar 1)) [2] (mG 2) (fun _ st => .ok true st) (mOrV (mOp (gD2 eqD) (mVar 2) (mC (.str "-"))) (mCall F_is_figures (mCons (mVar 2) mNil))) [some (.d (.str x)), some (.d (.list ((words x).map PyData.str))), none] st = .ok (.d (.list ((words x).map fun w => .bool (okW w)))) st := by
    refine mLc_eq (xs := words x) (a := fun w => U.d (.str w)) seq rfl rfl hs fun w hm => ?_
    show mOrV (mOp (gD2 eqD) (mVar 2) (mC (.str "-"))) (mCall F_is_figures (mCons (mVar 2) mNil)) [some (.d (.str x)), some (.d (.list ((words x).map PyData.str))), some (.d (.str w))] st = _
    have e : mOp (gD2 eqD) (mVar 2) (mC (.str "-")) [some (.d (.str x)), some (.d (.list ((words x).map PyData.str))), some (.d (.str w))] st = .ok (.d (.bool (decide (w = "-")))) st := ev_g2 (eqD_str w "-")
    have f : mCall F_is_figures (mCons (mVar 2) mNil) [some (.d (.str x)), some (.d (.list ((words x).map PyData.str))), some (.d (.str w))] st = .ok (.d (.bool (isFig w.cps.toList))) st := by
      show (if hasOwnL [U.d (.str w)] = false ∧ stOwn st = false then F_is_figures [.d (.str w)] st else .bad) = _
      rw [if_pos ⟨rfl, hs⟩, F_is_figures_eq w (by have := hw w hm; omega) hs]
    rw [ev_orV, e, ev_bind_ok, ev_onB]
    unfold okW
    by_cases h : w = "-"
    · simp [h]
    · rw [if_neg (by simp [h]), f]
      simp [h]
  have all : mCB gAllL (mCons (mLc (mSeqI (mVar 1)) [2] (mG 2) (fun _ st => .ok true st) (mOrV (mOp (gD2 eqD) (mVar 2) (mC (.str "-"))) (mCall F_is_figures (mCons (mVar 2) mNil)))) mNil) [some (.d (.str x)), some (.d (.list ((words x).map PyData.str))), none] st = .ok (.d (.bool ((words x).all okW))) st := by
    rw [ev_cb, ev_cons, c1]
    exact gAllL_map okW _ st
  have fin : ∀ b : Bool, (words x).all okW = b → RS.then (mIfS (mNotT (mTru (mCB gAllL (mCons (mLc (mSeqI (mVar 1)) [2] (mG 2) (fun _ st => .ok true st) (mOrV (mOp (gD2 eqD) (mVar 2) (mC (.str "-"))) (mCall F_is_figures (mCons (mVar 2) mNil)))) mNil)))) (mRet (mLst mNil)) mNext [some (.d (.str x)), some (.d (.list ((words x).map PyData.str))), none] st)
      (mRet (mLst (mCons (mCB gTuple (mCons (mLc (mSeqI (mVar 1)) [2] (mG 2) (fun _ st => .ok true st) (mIf (mTst (mOp (gD2 eqD) (mVar 2) (mC (.str "-")))) (mC .none) (mCB gInt (mCons (mVar 2) mNil)))) mNil)) mNil))) = .rt (.d (.list (if b = true then [.tuple ((words x).map noteOf)] else []))) st := fun b hb => by
    rw [ev_ifS, ev_notT, ev_tru all rfl, ev_bind_ok, ev_toS_ok, hb]
    cases b with
    | false =>
      rw [if_pos (by decide), ev_ret, ev_lst (l := []) (ds := []) rfl (by simp [sizeLine_eq]) rfl, ev_toS_ok, ev_then_rt, if_neg (by decide)]
    | true =>
      rw [if_neg (by decide), ev_next, ev_then_nx, ev_ret, if_pos rfl]
      have c2 : mLc (mSeqI (mVar 1)) [2] (mG 2) (fun _ st => .ok true st) (mIf (mTst (mOp (gD2 eqD) (mVar 2) (mC (.str "-")))) (mC .none) (mCB gInt (mCons (mVar 2) mNil))) [some (.d (.str x)), some (.d (.list ((words x).map PyData.str))), none] st = .ok (.d (.list ((words x).map noteOf))) st :=
        mLc_eq (xs := words x) (a := fun w => U.d (.str w)) seq rfl rfl hs fun w hm => told_elem w (by have := hw w hm; omega) (List.all_eq_true.mp hb w hm) rfl
      have t : mCB gTuple (mCons (mLc (mSeqI (mVar 1)) [2] (mG 2) (fun _ st => .ok true st) (mIf (mTst (mOp (gD2 eqD) (mVar 2) (mC (.str "-")))) (mC .none) (mCB gInt (mCons (mVar 2) mNil)))) mNil) [some (.d (.str x)), some (.d (.list ((words x).map PyData.str))), none] st = .ok (.d (.tuple ((words x).map noteOf))) st := by
        rw [ev_cb, ev_cons, c2]
        exact gTuple_list _ _
      rw [ev_lst (l := [.d (.tuple ((words x).map noteOf))]) (ds := [.tuple ((words x).map noteOf)]) (by rw [ev_cons, t]; rfl) (by simp [sizeLine_eq]) rfl, ev_toS_ok]
  unfold f_notes_told
  rw [ev_seq, ev_asg]
  show RS.then (Res.toS [some (.d (.str x)), none, none] (mM1 gSplit (mVar 0) (mC (.str " ")) [some (.d (.str x)), none, none] st) fun u st => onlyNx (mG 1 u [some (.d (.str x)), none, none] st)) _ = _
  rw [sp]
  exact fin _ rfl
end K12
set_option Elab.async false
set_option linter.all false
set_option maxRecDepth 100000
set_option maxHeartbeats 1000000
namespace TT
open PySem
theorem mLcF_eq {fi : SemI} {i : Nat} {t : SemT} {fe : SemE} {en : Nv} {st st1 : Sto} {items : List U} {α : Type} {xs : List α} {a : α → U} {p : α → Bool} {f : α → D} (hi : fi en st = .ok (items, yes) st1) (hx : items = xs.map a) (h1 : enOwn en = false) (h2 : stOwn st1 = false)
    (ht : ∀ x ∈ xs, t ((wipeN en [i]).set i (some (a x))) st1 = .ok (p x) st1) (h : ∀ x ∈ xs, fe ((wipeN en [i]).set i (some (a x))) st1 = .ok (.d (f x)) st1) :
    mLc fi [i] (mG i) t fe en st = .ok (.d (.list ((xs.filter p).map f))) st1 := by
  have key : ∀ (xs : List α) (acc : List U), (∀ x ∈ xs, t ((wipeN en [i]).set i (some (a x))) st1 = .ok (p x) st1) → (∀ x ∈ xs, fe ((wipeN en [i]).set i (some (a x))) st1 = .ok (.d (f x)) st1) → lcL (mG i) t fe yes (wipeN en [i]) (xs.map a) acc st1 = .ok (acc ++ (xs.filter p).map fun x => U.d (f x)) st1 := by
    intro xs
    induction xs with
    | nil => intro acc _ _; simp [lcL]
    | cons x r ih =>
      intro acc ht h
      have e := h x (List.mem_cons_self ..)
      have e1 := ht x (List.mem_cons_self ..)
      have ih2 := fun acc => ih acc (fun z hz => ht z (List.mem_cons_of_mem _ hz)) fun z hz => h z (List.mem_cons_of_mem _ hz)
      show (match t ((wipeN en [i]).set i (some (a x))) st1 with
        | .ok b st2 => if b = true then (match fe ((wipeN en [i]).set i (some (a x))) st2 with
            | .ok y st3 => lcL (mG i) t fe yes (wipeN en [i]) (r.map a) (acc ++ [y]) st3
            | _ => .bad)
          else lcL (mG i) t fe yes (wipeN en [i]) (r.map a) acc st2
        | _ => .bad) = _
      rw [e1]
      cases hp : p x with
      | true =>
        show (match fe ((wipeN en [i]).set i (some (a x))) st1 with
            | .ok y st3 => lcL (mG i) t fe yes (wipeN en [i]) (r.map a) (acc ++ [y]) st3
            | _ => .bad) = _
        rw [e]
        show lcL (mG i) t fe yes (wipeN en [i]) (r.map a) (acc ++ [U.d (f x)]) st1 = _
        rw [ih2, List.filter_cons_of_pos hp]
        simp
      | false =>
        show lcL (mG i) t fe yes (wipeN en [i]) (r.map a) acc st1 = _
        rw [ih2, List.filter_cons_of_neg (by rw [hp]; decide)]
  unfold mLc
  rw [hi]
  show (if enOwn en = false ∧ stOwn st1 = false then (lcL (mG i) t fe yes (wipeN en [i]) items [] st1).bind fun l st => (match allD l with
    | some l => Res.ok (U.d (PyData.list l)) st
    | none => .bad) else .bad) = _
  rw [if_pos ⟨h1, h2⟩, hx, key xs [] ht h, List.nil_append, ev_bind_ok, allD_mapf f _]
theorem canLay_strs : ∀ l : List Str, (∀ x ∈ l, PyData.canLay0 (.str x) = true) → PyData.canLayAll0 (l.map PyData.str) = true
  | [], _ => rfl
  | x :: r, h => by
    show (PyData.canLay0 (.str x) && PyData.canLayAll0 (r.map PyData.str)) = true
    rw [canLay_strs r fun z hz => h z (List.mem_cons_of_mem _ hz), h x (List.mem_cons_self ..)]
    rfl
theorem depth_strs : ∀ l : List Str, PyData.depthAll (l.map PyData.str) = 0
  | [] => rfl
  | x :: r => by
    show max (PyData.depth (.str x)) (PyData.depthAll (r.map PyData.str)) = 0
    rw [depth_strs r]
    rfl
theorem shp_strs (l : List Str) (h : ∀ x ∈ l, PyData.canLay0 (.str x) = true) : shp (.list (l.map PyData.str)) = true := by
  show (PyData.canLayAll0 (l.map PyData.str) && decide (PyData.depthAll (l.map PyData.str) + 1 ≤ 64)) = true
  rw [canLay_strs l h, depth_strs]
  rfl
theorem shp_str {x : Str} (h : PyData.canLay0 (.str x) = true) : shp (.str x) = true := by
  show (PyData.canLay0 (.str x) && decide (PyData.depth (.str x) ≤ 64)) = true
  rw [h]
  rfl
end TT
namespace K12
open PySem TT PySem.NumText
variable {st : Sto}
def smallL : List Str := ["-", "0", "1", "2", "3", "4", "5", "6", "7", "8"]
theorem small_mem (w : Str) : smallL.any (fun z => z == w) = smallW w := by
  by_cases h : smallW w = true
  · rw [h]
    unfold smallW at h
    simp only [Bool.or_eq_true, decide_eq_true_eq] at h
    rcases h with h | h
    · subst h; decide +kernel
    · cases e : w.cps.toList with
      | nil => rw [e] at h; cases h
      | cons c r =>
        cases r with
        | nil =>
          rw [e] at h
          simp only [Bool.and_eq_true, decide_eq_true_eq] at h
          have ew : w = ⟨#[c]⟩ := strExt e
          have : c = 48 ∨ c = 49 ∨ c = 50 ∨ c = 51 ∨ c = 52 ∨ c = 53 ∨ c = 54 ∨ c = 55 ∨ c = 56 := by omega
          rw [ew]
          rcases this with rfl | rfl | rfl | rfl | rfl | rfl | rfl | rfl | rfl <;> decide +kernel
        | cons d r => rw [e] at h; cases h
  · have h0 : smallW w = false := by simpa using h
    rw [h0, Bool.eq_false_iff]
    intro z
    obtain ⟨y, hy, e⟩ := List.any_eq_true.mp z
    have e : y = w := by simpa using e
    subst e
    have q : ∀ y ∈ smallL, smallW y = true := by decide +kernel
    rw [q y hy] at h0
    cases h0
theorem notin_eq (w : Str) (hok : PyData.canLay0 (.str w) = true) : inD true (.str w) (.tuple (smallL.map PyData.str)) = some (.bool (!smallW w)) := by
  have s1 : shp (.tuple (smallL.map PyData.str)) = true := by decide +kernel
  show (if shp (.str w) = true ∧ shp (.tuple (smallL.map PyData.str)) = true then some (PyData.bool (if true then !(smallL.map PyData.str).any fun z => PyData.eqv z (.str w) else (smallL.map PyData.str).any fun z => PyData.eqv z (.str w))) else none) = _
  rw [if_pos ⟨shp_str hok, s1⟩, if_pos rfl, List.any_map]
  show some (PyData.bool (!smallL.any fun z => z == w)) = _
  rw [small_mem]
theorem eqL_nil (l : List Str) (h : ∀ x ∈ l, PyData.canLay0 (.str x) = true) : eqD (.list (l.map PyData.str)) (.list []) = some (.bool l.isEmpty) := by
  unfold eqD
  rw [if_pos ⟨shp_strs l h, by decide⟩]
  cases l <;> rfl
theorem neL_nil (l : List Str) (h : ∀ x ∈ l, PyData.canLay0 (.str x) = true) : neD (.list (l.map PyData.str)) (.list []) = some (.bool (!l.isEmpty)) := by
  unfold neD
  rw [if_pos ⟨shp_strs l h, by decide⟩]
  cases l <;> rfl
/-- the words that the law lets -/
def consts10 : SemA := mCons (mC (.str "-")) (mCons (mC (.str "0")) (mCons (mC (.str "1")) (mCons (mC (.str "2")) (mCons (mC (.str "3")) (mCons (mC (.str "4")) (mCons (mC (.str "5")) (mCons (mC (.str "6")) (mCons (mC (.str "7")) (mCons (mC (.str "8")) mNil)))))))))
theorem consts_eq (en : Nv) : mTup consts10 en st = .ok (.d (.tuple (smallL.map PyData.str))) st := by
  show (if 10 ≤ sizeLine then Res.ok (mkTup _) st else .bad) = _
  rw [if_pos (by rw [sizeLine_eq]; decide)]
  rfl
theorem filter_nil (l : List Str) : (l.filter fun w => !smallW w).isEmpty = l.all smallW := by
  induction l with
  | nil => rfl
  | cons w r ih =>
    by_cases h : smallW w = true
    · rw [List.filter_cons_of_neg (by simp [h]), ih]
      simp [h]
    · have h0 : smallW w = false := by simpa using h
      rw [List.filter_cons_of_pos (by simp [h0])]
      simp [h0]
theorem law_read_str (x : Str) (hz : x.length ≤ 640) (hw : ∀ w ∈ words x, w.length ≤ 640) (h0 : words x ≠ []) (hok : ∀ w ∈ words x, PyData.canLay0 (.str w) = true) (hs : stOwn st = false) :
    F__law_read [.d (.str x)] st = .ok (.d (.list (if (words x).all smallW = true then [.tuple ((words x).map noteOf)] else []))) st := by
  refine ev_runF (g := f__law_read) ?_ rfl hs
  have sp : mIf (mTru (mIs "str" (mVar 0))) (mM1 gSplit (mVar 0) (mC (.str " "))) (mLst mNil) [some (.d (.str x)), none, none] st = .ok (.d (.list ((words x).map PyData.str))) st := split_eq x hz
  have seq : mSeqI (mVar 1) [some (.d (.str x)), some (.d (.list ((words x).map PyData.str))), none] st = .ok (((words x).map fun w => U.d (.str w)), yes) st := by
    show Res.ok (((words x).map PyData.str).map U.d, yes) st = _
    rw [List.map_map]
    rfl
  have nil : ∀ en : Nv, mLst mNil en st = .ok (.d (.list [])) st := fun en => ev_lst (l := []) (ds := []) rfl (by simp [sizeLine_eq]) rfl
  have c1 : mLc (mSeqI (mVar 1)) [2] (mG 2) (mTst (mOp (gD2 (inD true)) (mVar 2) (mTup consts10))) (mVar 2) [some (.d (.str x)), some (.d (.list ((words x).map PyData.str))), none] st = .ok (.d (.list (((words x).filter fun w => !smallW w).map PyData.str))) st := by
    refine mLcF_eq (xs := words x) (a := fun w => U.d (.str w)) (p := fun w => !smallW w) (f := PyData.str) seq rfl rfl hs (fun w hm => ?_) fun w hm => rfl
    refine ev_tst ?_
    show (mTup consts10 [some (U.d (.str x)), some (.d (.list ((words x).map PyData.str))), some (.d (.str w))] st).bind (fun z st => gD2 (inD true) (.d (.str w)) z st) = _
    rw [consts_eq, ev_bind_ok]
    exact ev_g2 (notin_eq w (hok w hm))
  have t : mOrT (mTst (mOp (gD2 eqD) (mVar 1) (mLst mNil))) (mTst (mOp (gD2 neD) (mLc (mSeqI (mVar 1)) [2] (mG 2) (mTst (mOp (gD2 (inD true)) (mVar 2) (mTup consts10))) (mVar 2)) (mLst mNil))) [some (.d (.str x)), some (.d (.list ((words x).map PyData.str))), none] st = .ok (!(words x).all smallW) st := by
    have e1 : mOp (gD2 eqD) (mVar 1) (mLst mNil) [some (.d (.str x)), some (.d (.list ((words x).map PyData.str))), none] st = .ok (.d (.bool false)) st := by
      show (mLst mNil [some (U.d (.str x)), some (.d (.list ((words x).map PyData.str))), none] st).bind (fun z st => gD2 eqD (.d (.list ((words x).map PyData.str))) z st) = _
      rw [nil, ev_bind_ok]
      refine ev_g2 ?_
      rw [eqL_nil _ hok]
      have : (words x).isEmpty = false := by simpa using h0
      rw [this]
    have e2 : mOp (gD2 neD) (mLc (mSeqI (mVar 1)) [2] (mG 2) (mTst (mOp (gD2 (inD true)) (mVar 2) (mTup consts10))) (mVar 2)) (mLst mNil) [some (.d (.str x)), some (.d (.list ((words x).map PyData.str))), none] st = .ok (.d (.bool (!(words x).all smallW))) st := by
      rw [ev_op, c1, ev_bind_ok, nil, ev_bind_ok]
      refine ev_g2 ?_
      rw [neL_nil _ (fun w hm => hok w (List.mem_filter.mp hm).1), filter_nil]
    rw [ev_orT, ev_tst e1, ev_bind_ok, if_neg (by decide), ev_tst e2]
  have fin : ∀ b : Bool, (words x).all smallW = b → RS.then (mIfS (mOrT (mTst (mOp (gD2 eqD) (mVar 1) (mLst mNil))) (mTst (mOp (gD2 neD) (mLc (mSeqI (mVar 1)) [2] (mG 2) (mTst (mOp (gD2 (inD true)) (mVar 2) (mTup consts10))) (mVar 2)) (mLst mNil)))) (mRet (mLst mNil)) mNext [some (.d (.str x)), some (.d (.list ((words x).map PyData.str))), none] st)
      (mRet (mLst (mCons (mCB gTuple (mCons (mLc (mSeqI (mVar 1)) [2] (mG 2) (fun _ st => .ok true st) (mIf (mTst (mOp (gD2 eqD) (mVar 2) (mC (.str "-")))) (mC .none) (mCB gInt (mCons (mVar 2) mNil)))) mNil)) mNil))) = .rt (.d (.list (if b = true then [.tuple ((words x).map noteOf)] else []))) st := fun b hb => by
    rw [ev_ifS, t, ev_toS_ok, hb]
    cases b with
    | false =>
      rw [if_pos (by decide), ev_ret, nil, ev_toS_ok, ev_then_rt, if_neg (by decide)]
    | true =>
      rw [if_neg (by decide), ev_next, ev_then_nx, ev_ret, if_pos rfl]
      have c2 : mLc (mSeqI (mVar 1)) [2] (mG 2) (fun _ st => .ok true st) (mIf (mTst (mOp (gD2 eqD) (mVar 2) (mC (.str "-")))) (mC .none) (mCB gInt (mCons (mVar 2) mNil))) [some (.d (.str x)), some (.d (.list ((words x).map PyData.str))), none] st = .ok (.d (.list ((words x).map noteOf))) st :=
        mLc_eq (xs := words x) (a := fun w => U.d (.str w)) seq rfl rfl hs fun w hm => told_elem w (by have := hw w hm; omega) (by
          have q := List.all_eq_true.mp hb w hm
          rw [small_eq, Bool.and_eq_true] at q
          exact q.1) rfl
      have t : mCB gTuple (mCons (mLc (mSeqI (mVar 1)) [2] (mG 2) (fun _ st => .ok true st) (mIf (mTst (mOp (gD2 eqD) (mVar 2) (mC (.str "-")))) (mC .none) (mCB gInt (mCons (mVar 2) mNil)))) mNil) [some (.d (.str x)), some (.d (.list ((words x).map PyData.str))), none] st = .ok (.d (.tuple ((words x).map noteOf))) st := by
        rw [ev_cb, ev_cons, c2]
        exact gTuple_list _ _
      rw [ev_lst (l := [.d (.tuple ((words x).map noteOf))]) (ds := [.tuple ((words x).map noteOf)]) (by rw [ev_cons, t]; rfl) (by simp [sizeLine_eq]) rfl, ev_toS_ok]
  unfold f__law_read
  rw [ev_seq, ev_asg]
  show RS.then (Res.toS [some (.d (.str x)), none, none] (mIf (mTru (mIs "str" (mVar 0))) (mM1 gSplit (mVar 0) (mC (.str " "))) (mLst mNil) [some (.d (.str x)), none, none] st) fun u st => onlyNx (mG 1 u [some (.d (.str x)), none, none] st)) _ = _
  rw [sp]
  exact fin _ rfl
end K12
set_option Elab.async false
set_option linter.all false
set_option maxRecDepth 100000
set_option maxHeartbeats 1000000
namespace K12
open PySem TT PySem.NumText
variable {st : Sto}
theorem noteOf_kind (w : Str) : noteOf w = .none ∨ ∃ n : Nat, noteOf w = .int n := by
  unfold noteOf
  split
  · exact .inl rfl
  · exact .inr ⟨_, rfl⟩
theorem good_notes (l : List Str) : goodIn (.tuple (l.map noteOf)) = true := by
  show (l.map noteOf).all noDct = true
  rw [List.all_map, List.all_eq_true]
  intro w _
  show noDct (noteOf w) = true
  rcases noteOf_kind w with e | ⟨n, e⟩ <;> rw [e] <;> rfl
theorem lay_notes : ∀ l : List D, (∀ d ∈ l, d = .none ∨ ∃ n : Int, d = .int n) → PyData.canLayAll0 l = true ∧ PyData.depthAll l = 0
  | [], _ => ⟨rfl, rfl⟩
  | d :: r, h => by
    obtain ⟨h1, h2⟩ := lay_notes r fun z hz => h z (List.mem_cons_of_mem _ hz)
    have hd := h d (List.mem_cons_self ..)
    refine ⟨?_, ?_⟩
    · show (PyData.canLay0 d && PyData.canLayAll0 r) = true
      rw [h1]
      rcases hd with e | ⟨n, e⟩ <;> rw [e] <;> rfl
    · show max (PyData.depth d) (PyData.depthAll r) = 0
      rw [h2]
      rcases hd with e | ⟨n, e⟩ <;> rw [e] <;> rfl
theorem shp_notes (l : List D) (h : ∀ d ∈ l, d = .none ∨ ∃ n : Int, d = .int n) : shp (.tuple l) = true := by
  obtain ⟨h1, h2⟩ := lay_notes l h
  show (PyData.canLayAll0 l && decide (PyData.depthAll l + 1 ≤ 64)) = true
  rw [h1, h2]
  rfl
theorem badFrom_some : ∀ (l : List D) (i : Nat), (l.all noteOk = true → badFrom i l = none) ∧ (l.all noteOk = false → ∃ k, badFrom i l = some k)
  | [], i => ⟨fun _ => rfl, fun h => by cases h⟩
  | d :: r, i => by
    obtain ⟨h1, h2⟩ := badFrom_some r (i + 1)
    by_cases hd : noteOk d = true
    · refine ⟨fun h => ?_, fun h => ?_⟩
      · simp only [badFrom, if_pos hd]
        exact h1 (by simpa [hd] using h)
      · simp only [badFrom, if_pos hd]
        exact h2 (by simpa [hd] using h)
    · refine ⟨fun h => ?_, fun h => ?_⟩
      · rw [List.all_cons] at h
        simp [hd] at h
      · exact ⟨i, by simp only [badFrom, if_neg hd]⟩
/-- are notes let by wrong_line -/
theorem wrongLine_dec (l : List D) (h0 : l ≠ []) : (l.all noteOk = true → wrongLine (.tuple l) = []) ∧ (l.all noteOk = false → ∃ k : Int, wrongLine (.tuple l) = [.int k]) := by
  have e : wrongLine (.tuple l) = wrongAt l := by
    cases l with
    | nil => exact absurd rfl h0
    | cons a r => rfl
  obtain ⟨h1, h2⟩ := badFrom_some l 0
  refine ⟨fun h => ?_, fun h => ?_⟩
  · rw [e]; unfold wrongAt; rw [h1 h]
  · obtain ⟨k, hk⟩ := h2 h
    exact ⟨k, by rw [e]; unfold wrongAt; rw [hk]⟩
def rbody : SemS := mIfS (mTst (mOp (gD2 eqD) (mCall F_wrong_line (mCons (mVar 1) mNil)) (mLst mNil))) (mRet (mVar 1)) mNext
theorem nilL (en : Nv) : mLst mNil en st = .ok (.d (.list [])) st := ev_lst (l := []) (ds := []) rfl (by simp [sizeLine_eq]) rfl
theorem rbody_eq (x : U) (l : List D) (h0 : l ≠ []) (hg : goodIn (.tuple l) = true) (hsh : shp (.tuple l) = true) (hc : stClo st = false) : rbody [some x, some (.d (.tuple l))] st = if l.all noteOk = true then .rt (.d (.tuple l)) st else .nx [some x, some (.d (.tuple l))] st := by
  have e := call_wrong (st := st) (.tuple l) (en := [some x, some (.d (.tuple l))]) (i := 1) rfl hg hsh hc
  have t : ∀ (b : Bool) (z : List D), wrongLine (.tuple l) = z → eqD (.list z) (.list []) = some (.bool b) → mTst (mOp (gD2 eqD) (mCall F_wrong_line (mCons (mVar 1) mNil)) (mLst mNil)) [some x, some (.d (.tuple l))] st = .ok b st := fun b z h1 h2 => by
    refine ev_tst ?_
    rw [ev_op, e, ev_bind_ok, nilL, ev_bind_ok, h1]
    exact ev_g2 h2
  obtain ⟨w1, w2⟩ := wrongLine_dec l h0
  unfold rbody
  rw [ev_ifS]
  by_cases h : l.all noteOk = true
  · rw [t true [] (w1 h) (eqL_nil [] (by simp)), if_pos h]
    rfl
  · have h' : l.all noteOk = false := by simpa using h
    obtain ⟨k, hk⟩ := w2 h'
    rw [t false _ hk (by rfl), if_neg h]
    rfl
theorem read_str (x : Str) (hz : x.length ≤ 640) (hw : ∀ w ∈ words x, w.length ≤ 640) (hn : (words x).length ≤ 1000) (h0 : words x ≠ []) (hc : stClo st = false) :
    F_read_notes [.d (.str x)] st = if (words x).all smallW = true then .ok (.d (.tuple ((words x).map noteOf))) st else .exn "InvalidLine" (some (.d (.str x))) st := by
  have hs := stOwn_clo hc
  have told := F_notes_told_eq (st := st) x hz hw hn hs
  have it : mSeqI (mIf (mTru (mIs "str" (mVar 0))) (mCall F_notes_told (mCons (mVar 0) mNil)) (mLst mNil)) [some (.d (.str x)), none] st = .ok ((if (words x).all okW = true then [U.d (.tuple ((words x).map noteOf))] else []), yes) st := by
    have c : mIf (mTru (mIs "str" (mVar 0))) (mCall F_notes_told (mCons (mVar 0) mNil)) (mLst mNil) [some (.d (.str x)), none] st = .ok (.d (.list (if (words x).all okW = true then [.tuple ((words x).map noteOf)] else []))) st := by
      show (if hasOwnL [U.d (.str x)] = false ∧ stOwn st = false then F_notes_told [.d (.str x)] st else .bad) = _
      rw [if_pos ⟨rfl, hs⟩, told]
    show ((mIf (mTru (mIs "str" (mVar 0))) (mCall F_notes_told (mCons (mVar 0) mNil)) (mLst mNil) [some (.d (.str x)), none] st).bind fun u st => match iterOf u with
      | some l => Res.ok (l, yes) st
      | none => .bad) = _
    rw [c]
    cases (words x).all okW <;> rfl
  have hok : (words x).all smallW = ((words x).all okW && ((words x).map noteOf).all noteOk) := by
    rw [List.all_map]
    have : ∀ l : List Str, l.all smallW = (l.all okW && l.all (noteOk ∘ noteOf)) := fun l => by
      induction l with
      | nil => rfl
      | cons w r ih =>
        rw [List.all_cons, List.all_cons, List.all_cons, ih, small_eq]
        show _ = (okW w && r.all okW && (noteOk (noteOf w) && r.all (noteOk ∘ noteOf)))
        cases okW w <;> cases noteOk (noteOf w) <;> cases r.all okW <;> rfl
    exact this _
  have body : f_read_notes ([U.d (.str x)].map some ++ List.replicate (2 - [U.d (.str x)].length) none) st = (if (words x).all smallW = true then .rt (.d (.tuple ((words x).map noteOf))) st else .exn "InvalidLine" (some (.d (.str x))) (if (words x).all okW = true then [some (.d (.str x)), some (.d (.tuple ((words x).map noteOf)))] else [some (.d (.str x)), none]) st) := by
    show RS.then (Res.toS [some (.d (.str x)), none] (mSeqI (mIf (mTru (mIs "str" (mVar 0))) (mCall F_notes_told (mCons (mVar 0) mNil)) (mLst mNil)) [some (.d (.str x)), none] st) fun it st => forL (mG 1) rbody it.2 it.1 [some (.d (.str x)), none] st) (mRaise "InvalidLine" (mVar 0)) = _
    rw [it, ev_toS_ok, hok]
    cases ha : (words x).all okW with
    | false => rfl
    | true =>
      rw [if_pos rfl]
      show RS.then (match rbody [some (.d (.str x)), some (.d (.tuple ((words x).map noteOf)))] st with
        | .nx en st => forL (mG 1) rbody yes [] en st
        | .ct en st => forL (mG 1) rbody yes [] en st
        | .bk en st => .nx en st
        | z => z) (mRaise "InvalidLine" (mVar 0)) = _
      rw [rbody_eq _ _ (by simpa using h0) (good_notes _) (shp_notes _ fun d hd => by
        obtain ⟨w, _, e⟩ := List.mem_map.mp hd
        rw [← e]
        rcases noteOf_kind w with e | ⟨n, e⟩
        · exact .inl e
        · exact .inr ⟨n, e⟩) hc]
      cases hb : ((words x).map noteOf).all noteOk <;> rfl
  show runF 2 f_read_notes [.d (.str x)] st = _
  unfold runF
  rw [body]
  cases (words x).all smallW with
  | true => exact if_pos ⟨rfl, hs⟩
  | false => exact if_pos ⟨rfl, hs⟩
theorem read_other (d : D) (hn : noDct d = true) (h : ∀ x, d ≠ .str x) (hc : stClo st = false) : F_read_notes [.d d] st = .exn "InvalidLine" (some (.d d)) st := by
  have hs := stOwn_clo hc
  have body : f_read_notes ([U.d d].map some ++ List.replicate (2 - [U.d d].length) none) st = .exn "InvalidLine" (some (.d d)) [some (.d d), none] st := by
    have it : mSeqI (mIf (mTru (mIs "str" (mVar 0))) (mCall F_notes_told (mCons (mVar 0) mNil)) (mLst mNil)) [some (.d d), none] st = .ok ([], yes) st := by
      have c : mIf (mTru (mIs "str" (mVar 0))) (mCall F_notes_told (mCons (mVar 0) mNil)) (mLst mNil) [some (.d d), none] st = .ok (.d (.list [])) st := by
        have t : mTru (mIs "str" (mVar 0)) [some (.d d), none] st = .ok false st := by
          cases d <;> first | exact absurd rfl (h _) | rfl | cases hn
        rw [ev_if, t, ev_bind_ok, if_neg (by decide), nilL]
      show ((mIf (mTru (mIs "str" (mVar 0))) (mCall F_notes_told (mCons (mVar 0) mNil)) (mLst mNil) [some (.d d), none] st).bind fun u st => match iterOf u with
        | some l => Res.ok (l, yes) st
        | none => .bad) = _
      rw [c]
      rfl
    show RS.then (Res.toS [some (.d d), none] (mSeqI (mIf (mTru (mIs "str" (mVar 0))) (mCall F_notes_told (mCons (mVar 0) mNil)) (mLst mNil)) [some (.d d), none] st) fun it st => forL (mG 1) rbody it.2 it.1 [some (.d d), none] st) (mRaise "InvalidLine" (mVar 0)) = _
    rw [it]
    rfl
  show runF 2 f_read_notes [.d d] st = _
  unfold runF
  rw [body]
  exact if_pos ⟨rfl, hs⟩
end K12
set_option Elab.async false
set_option linter.all false
set_option maxRecDepth 100000
set_option maxHeartbeats 1000000
namespace K12
open PySem TT PySem.NumText
variable {st : Sto}
/-! ## the well -/
/-- the store's cells: wells alone -/
def Good (st : Sto) : Prop := ∀ c ∈ st, ∃ x y z : Int, c = .lst [.d (.int x), .d (.int y), .d (.int z)]
theorem Good.own (h : Good st) : stOwn st = false ∧ stClo st = false := by
  refine ⟨?_, ?_⟩
  · unfold stOwn
    rw [List.any_eq_false]
    intro c hc
    obtain ⟨x, y, z, e⟩ := h c hc
    subst e
    simp [cellOwn, hasOwnL, hasOwn]
  · unfold stClo
    rw [List.any_eq_false]
    intro c hc
    obtain ⟨x, y, z, e⟩ := h c hc
    subst e
    simp [cellClo, hasCloL, hasClo]
theorem Good.set (h : Good st) (n : Nat) (x y z : Int) : Good (st.set n (.lst [.d (.int x), .d (.int y), .d (.int z)])) := fun c hc => by
  rcases List.mem_or_eq_of_mem_set hc with q | q
  · exact h c q
  · exact ⟨x, y, z, q⟩
/-- a state in which the n-th cell is a well -/
structure GW (st : Sto) (n : Nat) : Prop where
  good : Good st
  lt : n < st.length
theorem GW.at_ {n : Nat} (h : GW st n) : ∃ x y z : Int, st[n]? = some (.lst [.d (.int x), .d (.int y), .d (.int z)]) := by
  obtain ⟨x, y, z, e⟩ := h.good (st[n]'h.lt) (List.getElem_mem h.lt)
  exact ⟨x, y, z, by rw [List.getElem?_eq_getElem h.lt, e]⟩
theorem GW.set {n : Nat} (h : GW st n) (x y z : Int) : GW (st.set n (.lst [.d (.int x), .d (.int y), .d (.int z)])) n := ⟨h.good.set n x y z, by rw [List.length_set]; exact h.lt⟩
theorem ix0 {n : Nat} {x y z : Int} {en : Nv} (e : st[n]? = some (.lst [.d (.int x), .d (.int y), .d (.int z)])) (he : en[0]? = some (some (.ref n))) : mOp gIx (mVar 0) (mC (.int 0)) en st = .ok (.d (.int x)) st := by
  rw [ev_op, ev_var he]
  show (match (match st[n]? with | some (.lst l) => some l | _ => none) with | some l => (match L2.atI l 0 with | some x => Res.ok x st | none => .bad) | none => .bad) = _
  rw [e]
  rfl
theorem ix1 {n : Nat} {x y z : Int} {en : Nv} (e : st[n]? = some (.lst [.d (.int x), .d (.int y), .d (.int z)])) (he : en[0]? = some (some (.ref n))) : mOp gIx (mVar 0) (mC (.int 1)) en st = .ok (.d (.int y)) st := by
  rw [ev_op, ev_var he]
  show (match (match st[n]? with | some (.lst l) => some l | _ => none) with | some l => (match L2.atI l 1 with | some x => Res.ok x st | none => .bad) | none => .bad) = _
  rw [e]
  rfl
theorem ix2 {n : Nat} {x y z : Int} {en : Nv} (e : st[n]? = some (.lst [.d (.int x), .d (.int y), .d (.int z)])) (he : en[0]? = some (some (.ref n))) : mOp gIx (mVar 0) (mC (.int 2)) en st = .ok (.d (.int z)) st := by
  rw [ev_op, ev_var he]
  show (match (match st[n]? with | some (.lst l) => some l | _ => none) with | some l => (match L2.atI l 2 with | some x => Res.ok x st | none => .bad) | none => .bad) = _
  rw [e]
  rfl
theorem put {n : Nat} {x y z : Int} {en : Nv} {k : Nat} {u : U} (e : st[n]? = some (.lst [.d (.int x), .d (.int y), .d (.int z)])) (he : en[0]? = some (some (.ref n))) (hk : k < 3) :
    mGSub (mVar 0) (mC (.int k)) u en st = .nx en (st.set n (.lst (([.d (.int x), .d (.int y), .d (.int z)] : List U).set k u))) := by
  show Res.toS en (mVar 0 en st) (fun o st => Res.toS en (mC (.int k) en st) fun i st => gSetL o i u en st) = _
  rw [ev_var he]
  show (match st[n]? with
    | some (.lst l) => (match L2.ixN l.length (k : Int) with
      | some j => RS.nx en (st.set n (.lst (l.set j u)))
      | none => .bad)
    | _ => .bad) = _
  rw [e]
  have q : L2.ixN 3 (k : Int) = some k := by
    unfold L2.ixN
    rw [if_pos (by omega), if_pos (by omega)]
    simp
  show (match L2.ixN 3 (k : Int) with
      | some j => RS.nx en (st.set n (.lst (([.d (.int x), .d (.int y), .d (.int z)] : List U).set j u)))
      | none => .bad) = _
  rw [q]
theorem mul_ok {i j : Int} (h : (-(2 ^ 64) < i ∧ i < 2 ^ 64) ∨ (-(2 ^ 64) < j ∧ j < 2 ^ 64)) : mulI (.int i) (.int j) = some (.int (i * j)) := if_pos h
theorem mod_ok {i j : Int} (h : 0 < j) : modD (.int i) (.int j) = some (.int (i % j)) := if_pos h
theorem fdiv_ok {i j : Int} (h : 0 < j) (h2 : j.natAbs.log2 < 9000) : fdivD (.int i) (.int j) = some (.int (i / j)) := if_pos ⟨h, h2⟩
theorem op2 {g : D → D → Option D} {f1 f2 : SemE} {en : Nv} {d1 d2 r : D} (h1 : f1 en st = .ok (.d d1) st) (h2 : f2 en st = .ok (.d d2) st) (h : g d1 d2 = some r) : mOp (gD2 g) f1 f2 en st = .ok (.d r) st := by
  rw [ev_op, h1, ev_bind_ok, h2, ev_bind_ok]
  exact ev_g2 h
theorem intE {f : SemE} {en : Nv} {i : Int} (h : f en st = .ok (.d (.int i)) st) : mCB gInt (mCons f mNil) en st = .ok (.d (.int i)) st := by
  rw [ev_cb, ev_cons, h]
  rfl
theorem setI {f : SemE} {i : Nat} {en : Nv} {u : U} (h : f en st = .ok u st) : mAsgT f (mG i) en st = .nx (en.set i (some u)) st := by
  rw [ev_asg, h]
  rfl
/-- THE DRAW: below the limit, the state is of the same kind -/
theorem draw_eq {n : Nat} {lim : Int} (h : GW st n) (h1 : 1 ≤ lim) (h2 : lim < 1000000) : ∃ (r : Int) (st' : Sto), F__law_draw [.ref n, .d (.int lim)] st = .ok (.d (.int r)) st' ∧ 0 ≤ r ∧ r < lim ∧ GW st' n ∧ st'.length = st.length := by
  obtain ⟨x, y, z, e⟩ := h.at_
  have gt : mTst (mOp (gD2 gtD) (mOp gIx (mVar 0) (mC (.int 0))) (mC (.int 0))) [some (.ref n), some (.d (.int lim)), none, none] st = .ok (decide (0 < x)) st := by
    refine ev_tst ?_
    rw [ev_op, ix0 e rfl]
    rfl
  have t : gDivmod [.d (.int x), .d (.int lim)] st = .ok (.d (.tuple [.int (x / lim), .int (x % lim)])) st := if_pos ⟨by omega, by omega⟩
  by_cases hx : 0 < x
  · refine ⟨x % lim, st.set n (.lst [.d (.int (x / lim)), .d (.int y), .d (.int z)]), ?_, Int.emod_nonneg _ (by omega), Int.emod_lt_of_pos _ (by omega), h.set _ _ _, List.length_set ..⟩
    refine ev_runF (g := f__law_draw) ?_ rfl (h.set _ _ _).good.own.1
    have a : mCB gDivmod (mCons (mOp gIx (mVar 0) (mC (.int 0))) (mCons (mVar 1) mNil)) [some (.ref n), some (.d (.int lim)), none, none] st = .ok (.d (.tuple [.int (x / lim), .int (x % lim)])) st := by
      rw [ev_cb, ev_cons, ix0 e rfl]
      exact t
    have tg : mGTup 2 (fun us en st => if hasOwnL us.tail = false then mGCons (mGSub (mVar 0) (mC (.int 0))) (fun us en st => if hasOwnL us.tail = false then mGCons (mG 2) mGNil us en st else .bad) us en st else .bad) (.d (.tuple [.int (x / lim), .int (x % lim)])) [some (.ref n), some (.d (.int lim)), none, none] st =
        .nx [some (.ref n), some (.d (.int lim)), some (.d (.int (x % lim))), none] (st.set n (.lst [.d (.int (x / lim)), .d (.int y), .d (.int z)])) := by
      show RS.then (mGSub (mVar 0) (mC (.int ((0 : Nat) : Int))) (.d (.int (x / lim))) [some (.ref n), some (.d (.int lim)), none, none] st) (fun en st => if hasOwnL ([U.d (.int (x % lim))] : List U).tail = false then mGCons (mG 2) mGNil [.d (.int (x % lim))] en st else .bad) = _
      rw [put e rfl (by decide)]
      rfl
    show f__law_draw [some (.ref n), some (.d (.int lim)), none, none] st = _
    unfold f__law_draw
    rw [ev_seq, ev_ifS, gt, ev_toS_ok, if_pos (by simp [hx]), ev_seq, ev_asg]
    show RS.then (RS.then (Res.toS [some (.ref n), some (.d (.int lim)), none, none] (mCB gDivmod (mCons (mOp gIx (mVar 0) (mC (.int 0))) (mCons (mVar 1) mNil)) [some (.ref n), some (.d (.int lim)), none, none] st) _) _) _ = _
    rw [a, ev_toS_ok, tg]
    rfl
  · have ee : (st.set n (.lst [.d (.int x), .d (.int y), .d (.int (z + 1))]))[n]? = some (.lst [.d (.int x), .d (.int y), .d (.int (z + 1))]) := by
      rw [List.getElem?_set_self h.lt]
    obtain ⟨st1, hst1⟩ : ∃ st1 : Sto, st1 = st.set n (.lst [.d (.int x), .d (.int y), .d (.int (z + 1))]) := ⟨_, rfl⟩
    obtain ⟨m, hm⟩ : ∃ m : Int, m = (y * 40009 + 15013 * (z + 1)) % 2147483629 := ⟨_, rfl⟩
    obtain ⟨v, hv⟩ : ∃ v : Int, v = (m * (m % 5003 + 20011) + (z + 1)) % 2147483629 := ⟨_, rfl⟩
    obtain ⟨st2, hst2⟩ : ∃ st2 : Sto, st2 = st1.set n (.lst [.d (.int x), .d (.int v), .d (.int (z + 1))]) := ⟨_, rfl⟩
    rw [← hst1] at ee
    have g1 : GW st1 n := by rw [hst1]; exact h.set _ _ _
    have g2 : GW st2 n := by rw [hst2]; exact g1.set _ _ _
    have ee2 : st2[n]? = some (.lst [.d (.int x), .d (.int v), .d (.int (z + 1))]) := by
      rw [hst2, List.getElem?_set_self g1.lt]
    have s1 : mAsgT (mOp (gD2 addD) (mOp gIx (mVar 0) (mC (.int 2))) (mC (.int 1))) (mGSub (mVar 0) (mC (.int 2))) [some (.ref n), some (.d (.int lim)), none, none] st = .nx [some (.ref n), some (.d (.int lim)), none, none] st1 := by
      rw [ev_asg, ev_op, ix2 e rfl]
      show onlyNx (mGSub (mVar 0) (mC (.int ((2 : Nat) : Int))) (.d (.int (z + 1))) [some (.ref n), some (.d (.int lim)), none, none] st) = _
      rw [put e rfl (by decide), hst1]
      rfl
    have m0 : 0 ≤ m ∧ m < 2147483629 := by rw [hm]; exact ⟨Int.emod_nonneg _ (by decide), Int.emod_lt_of_pos _ (by decide)⟩
    have s2 : mAsgT (mOp (gD2 modD) (mCB gInt (mCons (mOp (gD2 addD) (mOp (gD2 mulI) (mOp gIx (mVar 0) (mC (.int 1))) (mC (.int 40009))) (mOp (gD2 mulI) (mC (.int 15013)) (mOp gIx (mVar 0) (mC (.int 2))))) mNil)) (mC (.int 2147483629))) (mG 3) [some (.ref n), some (.d (.int lim)), none, none] st1 =
        .nx [some (.ref n), some (.d (.int lim)), none, some (.d (.int m))] st1 := by
      exact setI (op2 (intE (op2 (op2 (ix1 ee rfl) rfl (mul_ok (i := y) (j := 40009) (.inr ⟨by decide, by decide⟩))) (op2 rfl (ix2 ee rfl) (mul_ok (i := 15013) (j := z + 1) (.inl ⟨by decide, by decide⟩))) rfl)) rfl (by rw [mod_ok (by decide), ← hm]))
    have s3 : mAsgT (mOp (gD2 modD) (mCB gInt (mCons (mOp (gD2 addD) (mOp (gD2 mulI) (mVar 3) (mOp (gD2 addD) (mOp (gD2 modD) (mCB gInt (mCons (mVar 3) mNil)) (mC (.int 5003))) (mC (.int 20011)))) (mOp gIx (mVar 0) (mC (.int 2)))) mNil)) (mC (.int 2147483629))) (mGSub (mVar 0) (mC (.int 1))) [some (.ref n), some (.d (.int lim)), none, some (.d (.int m))] st1 =
        .nx [some (.ref n), some (.d (.int lim)), none, some (.d (.int m))] st2 := by
      have a : mOp (gD2 modD) (mCB gInt (mCons (mOp (gD2 addD) (mOp (gD2 mulI) (mVar 3) (mOp (gD2 addD) (mOp (gD2 modD) (mCB gInt (mCons (mVar 3) mNil)) (mC (.int 5003))) (mC (.int 20011)))) (mOp gIx (mVar 0) (mC (.int 2)))) mNil)) (mC (.int 2147483629)) [some (.ref n), some (.d (.int lim)), none, some (.d (.int m))] st1 = .ok (.d (.int v)) st1 :=
        op2 (intE (op2 (op2 rfl (op2 (op2 (intE rfl) rfl (mod_ok (i := m) (j := 5003) (by decide))) rfl rfl) (mul_ok (i := m) (j := m % 5003 + 20011) (.inl ⟨by omega, by omega⟩))) (ix2 ee rfl) rfl)) rfl (by rw [mod_ok (by decide), ← hv])
      rw [ev_asg, a, ev_toS_ok]
      show onlyNx (mGSub (mVar 0) (mC (.int ((1 : Nat) : Int))) (.d (.int v)) [some (.ref n), some (.d (.int lim)), none, some (.d (.int m))] st1) = _
      rw [put ee rfl (by decide), hst2]
      rfl
    have s4 : mRet (mOp (gD2 modD) (mCB gInt (mCons (mOp (gD2 fdivD) (mOp gIx (mVar 0) (mC (.int 1))) (mC (.int 1031))) mNil)) (mVar 1)) [some (.ref n), some (.d (.int lim)), none, some (.d (.int m))] st2 = .rt (.d (.int (v / 1031 % lim))) st2 := by
      have a : mOp (gD2 modD) (mCB gInt (mCons (mOp (gD2 fdivD) (mOp gIx (mVar 0) (mC (.int 1))) (mC (.int 1031))) mNil)) (mVar 1) [some (.ref n), some (.d (.int lim)), none, some (.d (.int m))] st2 = .ok (.d (.int (v / 1031 % lim))) st2 :=
        op2 (intE (op2 (ix1 ee2 rfl) rfl (fdiv_ok (i := v) (j := 1031) (by decide) (by decide +kernel)))) rfl (mod_ok (by omega))
      rw [ev_ret, a]
      rfl
    refine ⟨v / 1031 % lim, st2, ?_, Int.emod_nonneg _ (by omega), Int.emod_lt_of_pos _ (by omega), g2, by rw [hst2, List.length_set, hst1, List.length_set]⟩
    refine ev_runF (g := f__law_draw) ?_ rfl g2.good.own.1
    show f__law_draw [some (.ref n), some (.d (.int lim)), none, none] st = _
    unfold f__law_draw
    rw [ev_seq, ev_ifS, gt, ev_toS_ok, if_neg (by simp [hx]), ev_next, ev_then_nx, ev_seq, s1, ev_then_nx, ev_seq, s2, ev_then_nx, ev_seq, s3, ev_then_nx, s4]
end K12
set_option Elab.async false
set_option linter.all false
set_option maxRecDepth 100000
set_option maxHeartbeats 1000000
namespace K12
open PySem TT PySem.NumText
variable {st : Sto}
theorem atI_get {α : Type} {l : List α} {r : Int} (h0 : 0 ≤ r) (h1 : r < l.length) : ∃ x ∈ l, L2.atI l r = some x := by
  have h2 : r.toNat < l.length := by omega
  refine ⟨l[r.toNat], List.getElem_mem h2, ?_⟩
  unfold L2.atI L2.ixN
  rw [if_pos h0, if_pos h1]
  show l[r.toNat]? = _
  exact List.getElem?_eq_getElem h2
/-- one of a row -/
theorem law_of_row {n : Nat} {u : U} {l : List U} (hu : ∀ st, seqOf st u = some l) (hns : ∀ z, u ≠ .d (.str z)) (hno : hasOwn u = false) (hnl : ∀ x ∈ l, hasOwn x = false) (h : GW st n) (h1 : l ≠ []) (h2 : l.length < 1000000) :
    ∃ x ∈ l, ∃ st', F__law_of [.ref n, u] st = .ok x st' ∧ GW st' n ∧ st'.length = st.length := by
  have hlen : gLen [u] st = .ok (.d (.int l.length)) st := by
    unfold gLen
    split
    · rename_i z e
      cases e
      exact absurd rfl (hns z)
    · rename_i v _ e
      cases e
      rw [hu]
    · rename_i e1 e2
      exact absurd rfl (e2 u)
  obtain ⟨r, st', d1, d2, d3, d4, d5⟩ := draw_eq h (lim := l.length) (by have := List.length_pos_iff.mpr h1; omega) (by omega)
  obtain ⟨x, hx, e⟩ := atI_get d2 d3
  refine ⟨x, hx, st', ?_, d4, d5⟩
  refine ev_runF (g := f__law_of) ?_ (hnl x hx) d4.good.own.1
  have c : mCall F__law_draw (mCons (mVar 0) (mCons (mCB gLen (mCons (mVar 1) mNil)) mNil)) [some (.ref n), some u] st = .ok (.d (.int r)) st' := by
    rw [ev_call, ev_cons, ev_var rfl, ev_bind_ok, ev_cons, ev_cb, ev_cons, ev_var (x := u) rfl, ev_bind_ok]
    show (((gLen [u] st).bind fun u st => (mNil [some (.ref n), some u] st).bind fun us st => Res.ok (u :: us) st).bind fun us st => Res.ok (U.ref n :: us) st).bind (fun us st => if hasOwnL us = false ∧ stOwn st = false then F__law_draw us st else .bad) = _
    rw [hlen]
    show (if hasOwnL [U.ref n, .d (.int l.length)] = false ∧ stOwn st = false then F__law_draw [U.ref n, .d (.int l.length)] st else .bad) = _
    rw [if_pos ⟨rfl, h.good.own.1⟩, d1]
  show f__law_of [some (.ref n), some u] st = _
  unfold f__law_of
  rw [ev_ret, ev_op, ev_var (x := u) rfl, ev_bind_ok, c, ev_bind_ok]
  have g : gIx u (.d (.int r)) st' = .ok x st' := by
    unfold gIx
    dsimp only
    split
    · rename_i z
      exact absurd rfl (hns z)
    · rw [hu]
      show (match L2.atI l r with | some x => Res.ok x st' | none => .bad) = _
      rw [e]
  rw [g]
  rfl
theorem law_of_tup {n : Nat} {l : List D} (h : GW st n) (h1 : l ≠ []) (h2 : l.length < 1000000) : ∃ x ∈ l, ∃ st', F__law_of [.ref n, .d (.tuple l)] st = .ok (.d x) st' ∧ GW st' n ∧ st'.length = st.length := by
  obtain ⟨x, hx, st', r⟩ := law_of_row (st := st) (n := n) (u := .d (.tuple l)) (l := l.map U.d) (fun _ => rfl) (fun z e => by cases e) rfl (fun x hx => by obtain ⟨d, _, e⟩ := List.mem_map.mp hx; rw [← e]; rfl) h (by simpa using h1) (by simpa using h2)
  obtain ⟨d, hd, e⟩ := List.mem_map.mp hx
  subst e
  exact ⟨d, hd, st', r⟩
theorem law_of_lst {n : Nat} {l : List D} (h : GW st n) (h1 : l ≠ []) (h2 : l.length < 1000000) : ∃ x ∈ l, ∃ st', F__law_of [.ref n, .d (.list l)] st = .ok (.d x) st' ∧ GW st' n ∧ st'.length = st.length := by
  obtain ⟨x, hx, st', r⟩ := law_of_row (st := st) (n := n) (u := .d (.list l)) (l := l.map U.d) (fun _ => rfl) (fun z e => by cases e) rfl (fun x hx => by obtain ⟨d, _, e⟩ := List.mem_map.mp hx; rw [← e]; rfl) h (by simpa using h1) (by simpa using h2)
  obtain ⟨d, hd, e⟩ := List.mem_map.mp hx
  subst e
  exact ⟨d, hd, st', r⟩
theorem law_of_str {n : Nat} {z : Str} (h : GW st n) (h1 : z.cps.toList ≠ []) (h2 : z.length < 1000000) : ∃ c ∈ z.cps.toList, ∃ st', F__law_of [.ref n, .d (.str z)] st = .ok (.d (.str ⟨#[c]⟩)) st' ∧ GW st' n ∧ st'.length = st.length := by
  have hz : z.length ≤ sizeLine := by rw [sizeLine_eq]; omega
  have hl : (z.length : Int) = z.cps.toList.length := by simp [Str.length]
  obtain ⟨r, st', d1, d2, d3, d4, d5⟩ := draw_eq h (lim := z.length) (by have := List.length_pos_iff.mpr h1; omega) (by omega)
  obtain ⟨c, hc, e⟩ := atI_get (l := z.cps.toList) d2 (by omega)
  refine ⟨c, hc, st', ?_, d4, d5⟩
  refine ev_runF (g := f__law_of) ?_ rfl d4.good.own.1
  have cc : mCall F__law_draw (mCons (mVar 0) (mCons (mCB gLen (mCons (mVar 1) mNil)) mNil)) [some (.ref n), some (.d (.str z))] st = .ok (.d (.int r)) st' := by
    have hlen : gLen [.d (.str z)] st = .ok (.d (.int z.length)) st := if_pos hz
    rw [ev_call, ev_cons, ev_var rfl, ev_bind_ok, ev_cons, ev_cb, ev_cons, ev_var (x := .d (.str z)) rfl, ev_bind_ok]
    show (((gLen [.d (.str z)] st).bind fun u st => (mNil [some (.ref n), some (.d (.str z))] st).bind fun us st => Res.ok (u :: us) st).bind fun us st => Res.ok (U.ref n :: us) st).bind (fun us st => if hasOwnL us = false ∧ stOwn st = false then F__law_draw us st else .bad) = _
    rw [hlen]
    show (if hasOwnL [U.ref n, .d (.int z.length)] = false ∧ stOwn st = false then F__law_draw [U.ref n, .d (.int z.length)] st else .bad) = _
    rw [if_pos ⟨rfl, h.good.own.1⟩, d1]
  show f__law_of [some (.ref n), some (.d (.str z))] st = _
  unfold f__law_of
  rw [ev_ret, ev_op, ev_var (x := .d (.str z)) rfl, ev_bind_ok, cc, ev_bind_ok]
  have g : gIx (.d (.str z)) (.d (.int r)) st' = .ok (.d (.str ⟨#[c]⟩)) st' := by
    show (if z.length ≤ sizeLine then (match L2.atI z.cps.toList r with
      | some c => Res.ok (U.d (.str ⟨#[c]⟩)) st'
      | none => .bad) else .bad) = _
    rw [if_pos hz, e]
  rw [g]
  rfl
end K12
set_option Elab.async false
set_option linter.all false
set_option maxRecDepth 100000
set_option maxHeartbeats 1000000
namespace K12
open PySem TT PySem.NumText
variable {st : Sto}
theorem cutL_map {α β : Type} (f : α → β) (l : List α) (lo hi : Option Int) : cutL (l.map f) lo hi = (cutL l lo hi).map f := by
  unfold cutL
  simp [List.map_take, List.map_drop]
def wellBody : SemS := mAsgT (mOp (gD2 modD) (mCB gInt (mCons (mOp (gD2 addD) (mOp (gD2 addD) (mOp (gD2 mulI) (mVar 2) (mC (.int 47521))) (mOp (gD2 modD) (mCB gInt (mCons (mVar 3) mNil)) (mC (.int 2147483549)))) (mC (.int 41))) mNil)) (mC (.int 2147483629))) (mG 2)
theorem well_loop {s lap : Option U} : ∀ (l : List Int) (a : Int) (c : Option U), ∃ (a' : Int) (c' : Option U), forL (mG 3) wellBody yes (l.map fun i => U.d (.int i)) [s, lap, some (.d (.int a)), c, none] st = .nx [s, lap, some (.d (.int a')), c', none] st
  | [], a, c => ⟨a, c, rfl⟩
  | i :: r, a, c => by
    have b : wellBody [s, lap, some (.d (.int a)), some (.d (.int i)), none] st = .nx [s, lap, some (.d (.int ((a * 47521 + i % 2147483549 + 41) % 2147483629))), some (.d (.int i)), none] st :=
      setI (op2 (intE (op2 (op2 (op2 rfl rfl (mul_ok (i := a) (j := 47521) (.inr ⟨by decide, by decide⟩))) (op2 (intE rfl) rfl (mod_ok (i := i) (j := 2147483549) (by decide))) rfl) rfl rfl)) rfl (mod_ok (by decide)))
    obtain ⟨a', c', e⟩ := well_loop (s := s) (lap := lap) r ((a * 47521 + i % 2147483549 + 41) % 2147483629) (some (.d (.int i)))
    refine ⟨a', c', ?_⟩
    show (match wellBody [s, lap, some (.d (.int a)), some (.d (.int i)), none] st with
      | .nx en st => forL (mG 3) wellBody yes (r.map fun i => U.d (.int i)) en st
      | .ct en st => forL (mG 3) wellBody yes (r.map fun i => U.d (.int i)) en st
      | .bk en st => .nx en st
      | z => z) = _
    rw [b]
    exact e
theorem well_eq (ns : List Int) (lap : Nat) (hg : Good st) : ∃ x y z : Int, F__law_well [.d (.list (ns.map PyData.int)), .d (.int lap)] st = .ok (.ref st.length) (st ++ [.lst [.d (.int x), .d (.int y), .d (.int z)]]) := by
  obtain ⟨a0, ha0⟩ : ∃ a0 : Int, a0 = 1522108 + 5231 * lap := ⟨_, rfl⟩
  have s1 : mAsgT (mOp (gD2 addD) (mC (.int 1522108)) (mOp (gD2 mulI) (mC (.int 5231)) (mVar 1))) (mG 2) [some (.d (.list (ns.map PyData.int))), some (.d (.int lap)), none, none, none] st = .nx [some (.d (.list (ns.map PyData.int))), some (.d (.int lap)), some (.d (.int a0)), none, none] st :=
    setI (op2 rfl (op2 rfl rfl (mul_ok (i := 5231) (j := lap) (.inl ⟨by decide, by decide⟩))) (by rw [ha0]; rfl))
  obtain ⟨a', c', lp⟩ := well_loop (st := st) (s := some (.d (.list (ns.map PyData.int)))) (lap := some (.d (.int lap))) (cutL ns none (some 9)) a0 none
  have s2 : mFor (mSeqI (mSl (mVar 0) mNoPart (mPart (mC (.int 9))))) (mG 3) wellBody [some (.d (.list (ns.map PyData.int))), some (.d (.int lap)), some (.d (.int a0)), none, none] st = .nx [some (.d (.list (ns.map PyData.int))), some (.d (.int lap)), some (.d (.int a')), c', none] st := by
    show forL (mG 3) wellBody yes ((cutL (ns.map PyData.int) none (some 9)).map U.d) [some (.d (.list (ns.map PyData.int))), some (.d (.int lap)), some (.d (.int a0)), none, none] st = _
    rw [cutL_map, List.map_map]
    exact lp
  obtain ⟨own, s3⟩ : ∃ own : Int, mAsgT (mIf (mTst (mOp (gD2 ltD) (mVar 1) (mCB gLen (mCons (mVar 0) mNil)))) (mCB gInt (mCons (mOp gIx (mVar 0) (mVar 1)) mNil)) (mC (.int 0))) (mG 4) [some (.d (.list (ns.map PyData.int))), some (.d (.int lap)), some (.d (.int a')), c', none] st = .nx [some (.d (.list (ns.map PyData.int))), some (.d (.int lap)), some (.d (.int a')), c', some (.d (.int own))] st := by
    have len : mCB gLen (mCons (mVar 0) mNil) [some (.d (.list (ns.map PyData.int))), some (.d (.int lap)), some (.d (.int a')), c', none] st = .ok (.d (.int (ns.length : Int))) st := by
      show Res.ok (U.d (.int (((ns.map PyData.int).map U.d).length : Int))) st = _
      rw [List.length_map, List.length_map]
    have t : mTst (mOp (gD2 ltD) (mVar 1) (mCB gLen (mCons (mVar 0) mNil))) [some (.d (.list (ns.map PyData.int))), some (.d (.int lap)), some (.d (.int a')), c', none] st = .ok (decide ((lap : Int) < ns.length)) st :=
      ev_tst (op2 rfl len rfl)
    by_cases h : (lap : Int) < ns.length
    · obtain ⟨x, hx, e⟩ := atI_get (l := ns) (r := lap) (by omega) h
      refine ⟨x, setI ?_⟩
      rw [ev_if, t, ev_bind_ok, if_pos (by simpa using h)]
      refine intE ?_
      show (match L2.atI ((ns.map PyData.int).map U.d) (lap : Int) with | some x => Res.ok x st | none => .bad) = _
      have e2 : L2.atI ((ns.map PyData.int).map U.d) (lap : Int) = some (U.d (.int x)) := by
        rw [List.map_map]
        unfold L2.atI at e ⊢
        rw [List.length_map]
        cases q : L2.ixN ns.length (lap : Int) with
        | none => rw [q] at e; cases e
        | some j =>
          rw [q] at e
          show (ns.map (U.d ∘ PyData.int))[j]? = _
          rw [List.getElem?_map, show ns[j]? = some x from e]
          rfl
      rw [e2]
    · refine ⟨0, setI ?_⟩
      rw [ev_if, t, ev_bind_ok, if_neg (by simpa using h)]
      rfl
  obtain ⟨b, hb⟩ : ∃ b : Int, b = (a' * 61 + own % 2147483549 * 16007 + 17) % 2147483629 := ⟨_, rfl⟩
  have s4 : mAsgT (mOp (gD2 modD) (mCB gInt (mCons (mOp (gD2 addD) (mOp (gD2 addD) (mOp (gD2 mulI) (mVar 2) (mC (.int 61))) (mOp (gD2 mulI) (mOp (gD2 modD) (mCB gInt (mCons (mVar 4) mNil)) (mC (.int 2147483549))) (mC (.int 16007)))) (mC (.int 17))) mNil)) (mC (.int 2147483629))) (mG 2) [some (.d (.list (ns.map PyData.int))), some (.d (.int lap)), some (.d (.int a')), c', some (.d (.int own))] st =
      .nx [some (.d (.list (ns.map PyData.int))), some (.d (.int lap)), some (.d (.int b)), c', some (.d (.int own))] st :=
    setI (op2 (intE (op2 (op2 (op2 rfl rfl (mul_ok (i := a') (j := 61) (.inr ⟨by decide, by decide⟩))) (op2 (op2 (intE rfl) rfl (mod_ok (i := own) (j := 2147483549) (by decide))) rfl (mul_ok (i := own % 2147483549) (j := 16007) (.inr ⟨by decide, by decide⟩))) rfl) rfl rfl)) rfl (by rw [mod_ok (by decide), ← hb]))
  obtain ⟨k, s5⟩ : ∃ k : Int, mIf (mOrT (mTst (mOp (gD2 ltD) (mVar 4) (mC (.int 0)))) (mTst (mOp (gD2 geD) (mVar 4) (mOp (gD2 powD) (mC (.int 10)) (mC (.int 15)))))) (mCB gAbs (mCons (mVar 4) mNil)) (mC (.int 0)) [some (.d (.list (ns.map PyData.int))), some (.d (.int lap)), some (.d (.int b)), c', some (.d (.int own))] st = .ok (.d (.int k)) st := by
    have t1 : mTst (mOp (gD2 ltD) (mVar 4) (mC (.int 0))) [some (.d (.list (ns.map PyData.int))), some (.d (.int lap)), some (.d (.int b)), c', some (.d (.int own))] st = .ok (decide (own < 0)) st := ev_tst (op2 rfl rfl rfl)
    have pw : mOp (gD2 powD) (mC (.int 10)) (mC (.int 15)) [some (.d (.list (ns.map PyData.int))), some (.d (.int lap)), some (.d (.int b)), c', some (.d (.int own))] st = .ok (.d (.int (10 ^ 15))) st := op2 rfl rfl (by
      show (if (0 : Int) ≤ 15 ∧ (15 : Int) ≤ 1000000 ∧ (10 : Int).natAbs < 2 ^ 64 then some (PyData.int ((10 : Int) ^ (15 : Int).toNat)) else none) = _
      rw [if_pos ⟨by decide, by decide, by decide⟩]
      rfl)
    have t2 : mTst (mOp (gD2 geD) (mVar 4) (mOp (gD2 powD) (mC (.int 10)) (mC (.int 15)))) [some (.d (.list (ns.map PyData.int))), some (.d (.int lap)), some (.d (.int b)), c', some (.d (.int own))] st = .ok (decide ((10 ^ 15 : Int) ≤ own)) st := ev_tst (op2 rfl pw rfl)
    have ab : mCB gAbs (mCons (mVar 4) mNil) [some (.d (.list (ns.map PyData.int))), some (.d (.int lap)), some (.d (.int b)), c', some (.d (.int own))] st = .ok (.d (.int (if own < 0 then -own else own))) st := rfl
    rw [ev_if, ev_orT, t1, ev_bind_ok]
    by_cases h1 : own < 0
    · rw [if_pos (by simp [h1]), ev_bind_ok, if_pos rfl, ab]
      exact ⟨_, rfl⟩
    · rw [if_neg (by simp [h1]), t2, ev_bind_ok]
      by_cases h2 : (10 ^ 15 : Int) ≤ own
      · rw [if_pos (by simpa using h2), ab]
        exact ⟨_, rfl⟩
      · rw [if_neg (by simpa using h2)]
        exact ⟨0, rfl⟩
  refine ⟨k, b, 0, ?_⟩
  have gs : Good (st ++ [.lst [.d (.int k), .d (.int b), .d (.int 0)]]) := fun c hc => by
    rcases List.mem_append.mp hc with q | q
    · exact hg c q
    · exact ⟨k, b, 0, by simpa using q⟩
  refine ev_runF (g := f__law_well) ?_ rfl gs.own.1
  show f__law_well [some (.d (.list (ns.map PyData.int))), some (.d (.int lap)), none, none, none] st = _
  unfold f__law_well
  rw [ev_seq, s1, ev_then_nx, ev_seq, show mFor (mSeqI (mSl (mVar 0) mNoPart (mPart (mC (.int 9))))) (mG 3) (mAsgT (mOp (gD2 modD) (mCB gInt (mCons (mOp (gD2 addD) (mOp (gD2 addD) (mOp (gD2 mulI) (mVar 2) (mC (.int 47521))) (mOp (gD2 modD) (mCB gInt (mCons (mVar 3) mNil)) (mC (.int 2147483549)))) (mC (.int 41))) mNil)) (mC (.int 2147483629))) (mG 2)) [some (.d (.list (ns.map PyData.int))), some (.d (.int lap)), some (.d (.int a0)), none, none] st = _ from s2, ev_then_nx, ev_seq, s3, ev_then_nx, ev_seq, s4, ev_then_nx, ev_ret]
  have r : mRef (mCons (mIf (mOrT (mTst (mOp (gD2 ltD) (mVar 4) (mC (.int 0)))) (mTst (mOp (gD2 geD) (mVar 4) (mOp (gD2 powD) (mC (.int 10)) (mC (.int 15)))))) (mCB gAbs (mCons (mVar 4) mNil)) (mC (.int 0))) (mCons (mVar 2) (mCons (mC (.int 0)) mNil))) [some (.d (.list (ns.map PyData.int))), some (.d (.int lap)), some (.d (.int b)), c', some (.d (.int own))] st = .ok (.ref st.length) (st ++ [.lst [.d (.int k), .d (.int b), .d (.int 0)]]) := by
    unfold mRef
    rw [ev_cons, s5]
    show (if ([U.d (.int k), .d (.int b), .d (.int 0)] : List U).length ≤ sizeLine then Res.ok (U.ref st.length) (st ++ [.lst [.d (.int k), .d (.int b), .d (.int 0)]]) else .bad) = _
    rw [if_pos (by simp [sizeLine_eq])]
  rw [r]
  rfl
end K12
set_option Elab.async false
set_option linter.all false
set_option maxRecDepth 100000
set_option maxHeartbeats 1000000
namespace K12
open PySem TT
/-! ## texts -/
abbrev cl (x : Str) : List Nat := x.cps.toList
theorem cl_app (x y : Str) : cl (x ++ y) = cl x ++ cl y := by
  show (x ++ y).cps.toList = _
  rw [Str.cps_append, Array.toList_append]
theorem len_cl (x : Str) : x.length = (cl x).length := by simp [Str.length]
theorem join_part (y : Str) : ∀ (ps : List Str) (p : Str), p ∈ ps → (∀ c ∈ cl p, c ∈ cl (Str.join y ps)) ∧ p.length ≤ (Str.join y ps).length
  | [], p, h => by cases h
  | [q], p, h => by
    have e : p = q := by simpa using h
    subst e
    exact ⟨fun c hc => hc, Nat.le_refl _⟩
  | q :: r :: t, p, h => by
    have e : Str.join y (q :: r :: t) = q ++ y ++ Str.join y (r :: t) := rfl
    rw [e]
    rcases List.mem_cons.mp h with z | z
    · subst z
      refine ⟨fun c hc => ?_, ?_⟩
      · rw [cl_app, cl_app]; simp [hc]
      · rw [Str.length_append, Str.length_append]; omega
    · obtain ⟨h1, h2⟩ := join_part y (r :: t) p z
      refine ⟨fun c hc => ?_, ?_⟩
      · rw [cl_app, cl_app]; exact List.mem_append_right _ (h1 c hc)
      · rw [Str.length_append, Str.length_append]; omega
theorem join_chars (y : Str) : ∀ (ps : List Str) (c : Nat), c ∈ cl (Str.join y ps) → c ∈ cl y ∨ ∃ p ∈ ps, c ∈ cl p
  | [], c, h => by
    have e : cl (Str.join y []) = [] := rfl
    rw [e] at h
    cases h
  | [q], c, h => .inr ⟨q, List.mem_cons_self .., h⟩
  | q :: r :: t, c, h => by
    have e : Str.join y (q :: r :: t) = q ++ y ++ Str.join y (r :: t) := rfl
    rw [e, cl_app, cl_app] at h
    rcases List.mem_append.mp h with z | z
    · rcases List.mem_append.mp z with z | z
      · exact .inr ⟨q, List.mem_cons_self .., z⟩
      · exact .inl z
    · rcases join_chars y (r :: t) c z with z | ⟨p, hp, z⟩
      · exact .inl z
      · exact .inr ⟨p, List.mem_cons_of_mem _ hp, z⟩
theorem join_sum (y : Str) : ∀ ps : List Str, (ps.map Str.length).sum ≤ (Str.join y ps).length
  | [] => Nat.zero_le _
  | [q] => by
    show q.length + 0 ≤ q.length
    omega
  | q :: r :: t => by
    have e : Str.join y (q :: r :: t) = q ++ y ++ Str.join y (r :: t) := rfl
    have ih := join_sum y (r :: t)
    rw [e, Str.length_append, Str.length_append, List.map_cons, List.sum_cons]
    omega
/-- a text that is let: short, its signs true -/
structure Fine (x : Str) (n : Nat) : Prop where
  len : x.length ≤ n
  ok : ∀ c ∈ cl x, c < 0x110000
theorem Fine.str {x : Str} {n : Nat} (h : Fine x n) : PyData.canLay0 (.str x) = true := by
  show x.cps.all (· < 0x110000) = true
  rw [← Array.all_toList, List.all_eq_true]
  exact fun c hc => decide_eq_true (h.ok c hc)
theorem sp_eq : (" " : Str) = ⟨#[32]⟩ := by decide +kernel
theorem words_join (x : Str) : Str.join " " (words x) = x := StrLaws.join_split x " "
theorem words_fine {x : Str} {n : Nat} (h : Fine x n) : ∀ w ∈ words x, Fine w n := fun w hw => by
  obtain ⟨h1, h2⟩ := join_part " " (words x) w hw
  rw [words_join] at h1 h2
  exact ⟨Nat.le_trans h2 h.len, fun c hc => h.ok c (h1 c hc)⟩
theorem words_len (x : Str) : (words x).length ≤ x.length + 2 := PyProof.Rows.split_le x " "
theorem words_ne (x : Str) : words x ≠ [] := by
  unfold words Txt.split
  split
  · simp
  · split
    · simp
    · rw [StrLaws.partsBetween_eq]
      obtain ⟨p, q, e⟩ := StrLaws.partsFrom_ne x (" " : Str).length 0 (Builtin.Str.occurrences x " " 0 x.length (x.length + 1))
      rw [e]
      simp
theorem Fine.app {x y : Str} {m n : Nat} (h : Fine x m) (h2 : Fine y n) : Fine (x ++ y) (m + n) :=
  ⟨by rw [Str.length_append]; have := h.len; have := h2.len; omega, fun c hc => by
    rw [cl_app] at hc
    rcases List.mem_append.mp hc with z | z
    · exact h.ok c z
    · exact h2.ok c z⟩
theorem Fine.mono {x : Str} {m n : Nat} (h : Fine x m) (hm : m ≤ n) : Fine x n := ⟨Nat.le_trans h.len hm, h.ok⟩
theorem Fine.repl {x z : Str} {n k : Nat} {c : Nat} (h : Fine x n) (hz : Fine z k) : Fine (Txt.replace x ⟨#[c]⟩ z) (n + (n + 2) * k) := by
  rw [StrLaws.replace_one]
  have hp : ∀ p ∈ Txt.split x ⟨#[c]⟩, ∀ d ∈ cl p, d ∈ cl x := fun p hp d hd => by
    have q := (join_part ⟨#[c]⟩ _ p hp).1 d hd
    rw [StrLaws.join_split] at q
    exact q
  refine ⟨?_, fun d hd => ?_⟩
  · have h1 := StrLaws.join_length_le z (Txt.split x ⟨#[c]⟩)
    have h2 := join_sum ⟨#[c]⟩ (Txt.split x ⟨#[c]⟩)
    rw [StrLaws.join_split] at h2
    have h3 := PyProof.Rows.split_le x ⟨#[c]⟩
    have h4 := h.len
    have h5 : (Txt.split x ⟨#[c]⟩).length * z.length ≤ (n + 2) * k := Nat.mul_le_mul (by omega) hz.len
    have h6 : ((Txt.split x ⟨#[c]⟩).map fun x => x.length).sum = ((Txt.split x ⟨#[c]⟩).map Str.length).sum := rfl
    omega
  · rcases join_chars z _ d hd with q | ⟨p, hp2, q⟩
    · exact hz.ok d q
    · exact h.ok d (hp p hp2 d q)
end K12
set_option Elab.async false
set_option linter.all false
set_option maxRecDepth 100000
set_option maxHeartbeats 1000000
namespace K12
open PySem TT
variable {st : Sto}
theorem cut_fine {x : Str} {n : Nat} (h : Fine x n) (lo hi : Option Int) : Fine (L2.cutS x lo hi) n :=
  ⟨Nat.le_trans (L2.cutS_length x lo hi) h.len, fun c hc => by
    have hc : c ∈ (x.cps.toList.drop (HT.sIx x.length 0 lo)).take (HT.sIx x.length x.length hi - HT.sIx x.length 0 lo) := by simpa [L2.cutS] using hc
    exact h.ok c (List.mem_of_mem_drop (List.mem_of_mem_take hc))⟩
theorem add_str {f1 f2 : SemE} {en : Nv} {x y : Str} (h1 : f1 en st = .ok (.d (.str x)) st) (h2 : f2 en st = .ok (.d (.str y)) st) (hz : x.length + y.length ≤ 100000) : mOp (gD2 addD) f1 f2 en st = .ok (.d (.str (x ++ y))) st :=
  op2 h1 h2 (by
    show (if x.length + y.length ≤ sizeLine then some (PyData.str (x ++ y)) else none) = _
    rw [if_pos (by rw [sizeLine_eq]; omega)])
theorem sl_str {f : SemE} {lo hi : SemO} {en : Nv} {x : Str} {a b : Option Int} (h : f en st = .ok (.d (.str x)) st) (h1 : lo en st = .ok a st) (h2 : hi en st = .ok b st) (hz : x.length ≤ 100000) : mSl f lo hi en st = .ok (.d (.str (L2.cutS x a b))) st := by
  unfold mSl
  rw [h, ev_bind_ok, h1, ev_bind_ok, h2, ev_bind_ok]
  exact if_pos (by rw [sizeLine_eq]; omega)
theorem repl_ok {f : SemE} {en : Nv} {x y z : Str} (h : f en st = .ok (.d (.str x)) st) (hz : x.length + (x.length + 1) * z.length ≤ 16777216) : mRepl y z f en st = .ok (.d (.str (Txt.replace x y z))) st := by
  unfold mRepl
  rw [h, ev_bind_ok]
  exact if_pos hz
theorem gdw {n : Nat} {st : Sto} (h : GW st n) : stOwn st = false := h.good.own.1
theorem fine_lit {x : Str} (n : Nat) (h : (decide (x.length ≤ n) && (cl x).all fun c => decide (c < 0x110000)) = true) : Fine x n := by
  simp only [Bool.and_eq_true, decide_eq_true_eq, List.all_eq_true] at h
  exact ⟨h.1, h.2⟩
theorem bent_eq {n : Nat} {x : Str} (h : GW st n) (hx : Fine x 120) : ∃ (z : Str) (st' : Sto), F__law_bent [.ref n, .d (.str x)] st = .ok (.d (.str z)) st' ∧ Fine z 640 ∧ GW st' n ∧ st'.length = st.length := by
  have hl := hx.len
  obtain ⟨r, st1, d1, d2, d3, g1, l1⟩ := draw_eq h (lim := x.length + 1) (by omega) (by omega)
  obtain ⟨c, hc, st2, o1, g2, l2⟩ := law_of_str (st := st1) (n := n) (z := " -0189a+") g1 (by decide +kernel) (by decide +kernel)
  have hs : Fine (⟨#[c]⟩ : Str) 1 := ⟨Nat.le_refl _, fun d hd => by
    have e : d = c := by simpa using hd
    have q : ∀ c ∈ (" -0189a+" : Str).cps.toList, c < 0x110000 := by decide +kernel
    rw [e]; exact q c hc⟩
  have s1 : mAsgT (mCall F__law_draw (mCons (mVar 0) (mCons (mOp (gD2 addD) (mCB gLen (mCons (mVar 1) mNil)) (mC (.int 1))) mNil))) (mG 2) [some (.ref n), some (.d (.str x)), none, none, none] st = .nx [some (.ref n), some (.d (.str x)), some (.d (.int r)), none, none] st1 := by
    have a : mOp (gD2 addD) (mCB gLen (mCons (mVar 1) mNil)) (mC (.int 1)) [some (.ref n), some (.d (.str x)), none, none, none] st = .ok (.d (.int (x.length + 1))) st :=
      op2 (show mCB gLen (mCons (mVar 1) mNil) [some (.ref n), some (.d (.str x)), none, none, none] st = .ok (.d (.int x.length)) st from if_pos (by rw [sizeLine_eq]; omega)) rfl rfl
    have b : mCall F__law_draw (mCons (mVar 0) (mCons (mOp (gD2 addD) (mCB gLen (mCons (mVar 1) mNil)) (mC (.int 1))) mNil)) [some (.ref n), some (.d (.str x)), none, none, none] st = .ok (.d (.int r)) st1 := by
      rw [ev_call, ev_cons, ev_var rfl, ev_bind_ok, ev_cons, a]
      show (if hasOwnL [U.ref n, .d (.int (x.length + 1))] = false ∧ stOwn st = false then F__law_draw [.ref n, .d (.int (x.length + 1))] st else .bad) = _
      rw [if_pos ⟨rfl, gdw h⟩, d1]
    rw [ev_asg, b]
    rfl
  have s2 : mAsgT (mCall F__law_of (mCons (mVar 0) (mCons (mC (.str " -0189a+")) mNil))) (mG 3) [some (.ref n), some (.d (.str x)), some (.d (.int r)), none, none] st1 = .nx [some (.ref n), some (.d (.str x)), some (.d (.int r)), some (.d (.str ⟨#[c]⟩)), none] st2 := by
    have b : mCall F__law_of (mCons (mVar 0) (mCons (mC (.str " -0189a+")) mNil)) [some (.ref n), some (.d (.str x)), some (.d (.int r)), none, none] st1 = .ok (.d (.str ⟨#[c]⟩)) st2 := by
      show (if hasOwnL [U.ref n, .d (.str " -0189a+")] = false ∧ stOwn st1 = false then F__law_of [.ref n, .d (.str " -0189a+")] st1 else .bad) = _
      rw [if_pos ⟨rfl, gdw g1⟩, o1]
    rw [ev_asg, b]
    rfl
  obtain ⟨lo, hlo⟩ : ∃ lo : Str, lo = L2.cutS x none (some r) := ⟨_, rfl⟩
  obtain ⟨hi, hhi⟩ : ∃ hi : Str, hi = L2.cutS x (some r) none := ⟨_, rfl⟩
  obtain ⟨h1, hh1⟩ : ∃ h1 : Str, h1 = L2.cutS x (some (r + 1)) none := ⟨_, rfl⟩
  have f1 : Fine lo 120 := by rw [hlo]; exact cut_fine hx _ _
  have f2 : Fine hi 120 := by rw [hhi]; exact cut_fine hx _ _
  have f3 : Fine h1 120 := by rw [hh1]; exact cut_fine hx _ _
  have fl := f1.len
  have fl2 := f2.len
  have fl3 := f3.len
  have one : (⟨#[c]⟩ : Str).length = 1 := rfl
  have s3 : mAsgT (mLst (mCons (mOp (gD2 addD) (mSl (mVar 1) mNoPart (mPart (mVar 2))) (mSl (mVar 1) (mPart (mOp (gD2 addD) (mVar 2) (mC (.int 1)))) mNoPart)) (mCons (mOp (gD2 addD) (mOp (gD2 addD) (mSl (mVar 1) mNoPart (mPart (mVar 2))) (mVar 3)) (mSl (mVar 1) (mPart (mVar 2)) mNoPart)) (mCons (mOp (gD2 addD) (mOp (gD2 addD) (mSl (mVar 1) mNoPart (mPart (mVar 2))) (mVar 3)) (mSl (mVar 1) (mPart (mOp (gD2 addD) (mVar 2) (mC (.int 1)))) mNoPart)) (mCons (mOp (gD2 addD) (mVar 1) (mVar 3)) mNil))))) (mG 4) [some (.ref n), some (.d (.str x)), some (.d (.int r)), some (.d (.str ⟨#[c]⟩)), none] st2 =
      .nx [some (.ref n), some (.d (.str x)), some (.d (.int r)), some (.d (.str ⟨#[c]⟩)), some (.d (.list [.str (lo ++ h1), .str (lo ++ ⟨#[c]⟩ ++ hi), .str (lo ++ ⟨#[c]⟩ ++ h1), .str (x ++ ⟨#[c]⟩)]))] st2 := by
    have el : mSl (mVar 1) mNoPart (mPart (mVar 2)) [some (.ref n), some (.d (.str x)), some (.d (.int r)), some (.d (.str ⟨#[c]⟩)), none] st2 = .ok (.d (.str lo)) st2 := by rw [hlo]; exact sl_str rfl rfl rfl (by omega)
    have eh : mSl (mVar 1) (mPart (mVar 2)) mNoPart [some (.ref n), some (.d (.str x)), some (.d (.int r)), some (.d (.str ⟨#[c]⟩)), none] st2 = .ok (.d (.str hi)) st2 := by rw [hhi]; exact sl_str rfl rfl rfl (by omega)
    have eh1 : mSl (mVar 1) (mPart (mOp (gD2 addD) (mVar 2) (mC (.int 1)))) mNoPart [some (.ref n), some (.d (.str x)), some (.d (.int r)), some (.d (.str ⟨#[c]⟩)), none] st2 = .ok (.d (.str h1)) st2 := by rw [hh1]; exact sl_str rfl rfl rfl (by omega)
    have a1 := add_str el eh1 (by omega)
    have b0 := add_str (f2 := mVar 3) (y := ⟨#[c]⟩) el rfl (by omega)
    have bl : (lo ++ (⟨#[c]⟩ : Str)).length = lo.length + 1 := by rw [Str.length_append]; rfl
    have a2 := add_str b0 eh (by omega)
    have a3 := add_str b0 eh1 (by omega)
    have a4 : mOp (gD2 addD) (mVar 1) (mVar 3) [some (.ref n), some (.d (.str x)), some (.d (.int r)), some (.d (.str ⟨#[c]⟩)), none] st2 = .ok (.d (.str (x ++ ⟨#[c]⟩))) st2 := add_str rfl rfl (by omega)
    rw [ev_asg, ev_lst (l := [.d (.str (lo ++ h1)), .d (.str (lo ++ ⟨#[c]⟩ ++ hi)), .d (.str (lo ++ ⟨#[c]⟩ ++ h1)), .d (.str (x ++ ⟨#[c]⟩))]) (ds := [.str (lo ++ h1), .str (lo ++ ⟨#[c]⟩ ++ hi), .str (lo ++ ⟨#[c]⟩ ++ h1), .str (x ++ ⟨#[c]⟩)]) (by rw [ev_cons, a1, ev_bind_ok, ev_cons, a2, ev_bind_ok, ev_cons, a3, ev_bind_ok, ev_cons, a4]; rfl) (by simp [sizeLine_eq]) rfl]
    rfl
  have sp32 : (" " : Str) = ⟨#[32]⟩ := sp_eq
  have mi45 : ("-" : Str) = ⟨#[45]⟩ := by decide +kernel
  have r1 : Fine (Txt.replace x " " "  ") 640 := by rw [sp32]; exact (hx.repl (fine_lit 2 (by decide +kernel))).mono (by decide)
  have r2 : Fine (Txt.replace x "-" "none") 640 := by rw [mi45]; exact (hx.repl (fine_lit 4 (by decide +kernel))).mono (by decide)
  have r3 : Fine (Txt.replace x " " ",") 640 := by rw [sp32]; exact (hx.repl (fine_lit 1 (by decide +kernel))).mono (by decide)
  have r4 : Fine (" " ++ x) 640 := ((fine_lit (x := " ") 1 (by decide +kernel)).app hx).mono (by decide)
  obtain ⟨L, hL⟩ : ∃ L : List Str, L = [lo ++ h1, lo ++ ⟨#[c]⟩ ++ hi, lo ++ ⟨#[c]⟩ ++ h1, x ++ ⟨#[c]⟩, Txt.replace x " " "  ", " " ++ x, Txt.replace x "-" "none", Txt.replace x " " ","] := ⟨_, rfl⟩
  have hLf : ∀ z ∈ L, Fine z 640 := fun z hz => by
    rw [hL] at hz
    simp only [List.mem_cons, List.not_mem_nil, or_false] at hz
    rcases hz with e | e | e | e | e | e | e | e <;> subst e
    · exact (f1.app f3).mono (by decide)
    · exact ((f1.app hs).app f2).mono (by decide)
    · exact ((f1.app hs).app f3).mono (by decide)
    · exact (hx.app hs).mono (by decide)
    · exact r1
    · exact r4
    · exact r2
    · exact r3
  have s4 : mAsgT (mOp (gD2 addD) (mVar 4) (mLst (mCons (mRepl " " "  " (mVar 1)) (mCons (mOp (gD2 addD) (mC (.str " ")) (mVar 1)) (mCons (mRepl "-" "none" (mVar 1)) (mCons (mRepl " " "," (mVar 1)) mNil)))))) (mG 4)
      [some (.ref n), some (.d (.str x)), some (.d (.int r)), some (.d (.str ⟨#[c]⟩)), some (.d (.list [.str (lo ++ h1), .str (lo ++ ⟨#[c]⟩ ++ hi), .str (lo ++ ⟨#[c]⟩ ++ h1), .str (x ++ ⟨#[c]⟩)]))] st2 =
      .nx [some (.ref n), some (.d (.str x)), some (.d (.int r)), some (.d (.str ⟨#[c]⟩)), some (.d (.list (L.map PyData.str)))] st2 := by
    have l2 : ("  " : Str).length = 2 := by decide +kernel
    have l4 : ("none" : Str).length = 4 := by decide +kernel
    have l1 : ("," : Str).length = 1 := by decide +kernel
    have l0 : (" " : Str).length = 1 := by decide +kernel
    refine setI ?_
    refine op2 rfl (ev_lst (l := [.d (.str (Txt.replace x " " "  ")), .d (.str (" " ++ x)), .d (.str (Txt.replace x "-" "none")), .d (.str (Txt.replace x " " ","))]) (ds := [.str (Txt.replace x " " "  "), .str (" " ++ x), .str (Txt.replace x "-" "none"), .str (Txt.replace x " " ",")]) ?_ (by simp [sizeLine_eq]) rfl) ?_
    · rw [ev_cons, repl_ok (x := x) rfl (by rw [l2]; omega), ev_bind_ok, ev_cons, add_str (x := " ") (y := x) rfl rfl (by rw [l0]; omega), ev_bind_ok, ev_cons, repl_ok (x := x) rfl (by rw [l4]; omega), ev_bind_ok, ev_cons, repl_ok (x := x) rfl (by rw [l1]; omega)]
      rfl
    · rw [hL]
      show (if 4 + 4 ≤ sizeLine then some (PyData.list _) else none) = _
      rw [if_pos (by rw [sizeLine_eq]; decide)]
      rfl
  obtain ⟨z, hz, st3, o3, g3, l3⟩ := law_of_lst (st := st2) (n := n) (l := L.map PyData.str) g2 (by rw [hL]; simp) (by rw [hL]; simp)
  obtain ⟨y, hy, e⟩ := List.mem_map.mp hz
  subst e
  refine ⟨y, st3, ?_, hLf y hy, g3, by rw [l3, l2, l1]⟩
  have s5 : mRet (mCall F__law_of (mCons (mVar 0) (mCons (mVar 4) mNil))) [some (.ref n), some (.d (.str x)), some (.d (.int r)), some (.d (.str ⟨#[c]⟩)), some (.d (.list (L.map PyData.str)))] st2 = .rt (.d (.str y)) st3 := by
    show Res.toS _ (if hasOwnL [U.ref n, .d (.list (L.map PyData.str))] = false ∧ stOwn st2 = false then F__law_of [.ref n, .d (.list (L.map PyData.str))] st2 else .bad) _ = _
    rw [if_pos ⟨rfl, gdw g2⟩, o3]
    rfl
  show finS (f__law_bent [some (.ref n), some (.d (.str x)), none, none, none] st) = _
  unfold f__law_bent
  rw [ev_seq, s1, ev_then_nx, ev_seq, s2, ev_then_nx, ev_seq, s3, ev_then_nx, ev_seq, s4, ev_then_nx, ev_seq, s5]
  exact if_pos ⟨rfl, gdw g3⟩
end K12
set_option Elab.async false
set_option linter.all false
set_option maxRecDepth 100000
set_option maxHeartbeats 1000000
namespace K12
open PySem TT
variable {st : Sto}
/-! ## what the law hears -/
abbrev hs2 : List HdM := [(mt_InvalidLine, some 1, hRet2 "line"), (mt_InvalidNotes, some 1, hRet2 "notes")]
theorem told_ok {ap : U → SemF} {g : U} {d : D} (hg : stClo st = false) (h : mCallV ap 0 mNil [some g, none] st = .ok (.d d) st) : F__law_told ap [g] st = .ok (.d (.list [.str "told", d])) st := by
  refine ev_runF (g := f__law_told ap) ?_ rfl (stOwn_clo hg)
  have b : mRet (mLst (mCons (mC (.str "told")) (mCons (mCallV ap 0 mNil) mNil))) [some g, none] st = .rt (.d (.list [.str "told", d])) st := by
    rw [ev_ret, ev_lst (l := [.d (.str "told"), .d d]) (ds := [.str "told", d]) (by rw [ev_cons, ev_c, ev_bind_ok, ev_cons, h]; rfl) (by simp [sizeLine_eq]) rfl]
    rfl
  show (match mRet (mLst (mCons (mC (.str "told")) (mCons (mCallV ap 0 mNil) mNil))) [some g, none] st with
    | .exn c u e s => runHs hs2 c u e s
    | r => r) = _
  rw [b]
theorem told_exn {ap : U → SemF} {g : U} {d : D} {c w : Str} (hg : stClo st = false) (h : mCallV ap 0 mNil [some g, none] st = .exn c (some (.d d)) st) (hw : runHs hs2 c (some (.d d)) [some g, none] st = .rt (.d (.list [.str w, d])) st) : F__law_told ap [g] st = .ok (.d (.list [.str w, d])) st := by
  refine ev_runF (g := f__law_told ap) ?_ rfl (stOwn_clo hg)
  have b : mRet (mLst (mCons (mC (.str "told")) (mCons (mCallV ap 0 mNil) mNil))) [some g, none] st = .exn c (some (.d d)) [some g, none] st := by
    rw [ev_ret]
    unfold mLst
    rw [ev_cons, ev_c, ev_bind_ok, ev_cons, h]
    rfl
  show (match mRet (mLst (mCons (mC (.str "told")) (mCons (mCallV ap 0 mNil) mNil))) [some g, none] st with
    | .exn c u e s => runHs hs2 c u e s
    | r => r) = _
  rw [b]
  exact hw
theorem hs_line (d : D) (g : U) : runHs hs2 "InvalidLine" (some (.d d)) [some g, none] st = .rt (.d (.list [.str "line", d])) st := by
  have e : mt_InvalidLine "InvalidLine" = some true := by decide +kernel
  unfold runHs
  rw [e]
  rfl
theorem hs_notes (d : D) (g : U) : runHs hs2 "InvalidNotes" (some (.d d)) [some g, none] st = .rt (.d (.list [.str "notes", d])) st := by
  have e : mt_InvalidLine "InvalidNotes" = some false := by decide +kernel
  have e2 : mt_InvalidNotes "InvalidNotes" = some true := by decide +kernel
  unfold runHs
  rw [e]
  show runHs [(mt_InvalidNotes, some 1, hRet2 "notes")] "InvalidNotes" (some (.d d)) [some g, none] st = _
  unfold runHs
  rw [e2]
  rfl
/-- read_notes(value), heard -/
def heardRead (d : D) : D := match d with
  | .str x => if (words x).all smallW = true then .list [.str "told", .tuple ((words x).map noteOf)] else .list [.str "line", .str x]
  | d => .list [.str "line", d]
theorem callV1 (d : D) (hc : stClo st = false) : mCallV (apC 1 0 C_1 apNil) 0 mNil [some (.clo false 1 [.d d]), none] st = finE (F_read_notes [.d d] st) := by
  show (if okAp (.clo false 1 [.d d]) [] st = true then C_1 [.d d] [] st else .bad) = _
  rw [if_pos (by show (!false && !false && !stClo st && !false) = true; rw [hc]; rfl)]
  show finE (if hasOwnL [U.d d] = false ∧ stOwn st = false then F_read_notes [.d d] st else .bad) = _
  rw [if_pos ⟨rfl, stOwn_clo hc⟩]
theorem callV2 (d : D) (hc : stClo st = false) : mCallV (apC 2 0 C_2 apNil) 0 mNil [some (.clo false 2 [.d d]), none] st = finE (F_notes_line [.d d] st) := by
  show (if okAp (.clo false 2 [.d d]) [] st = true then C_2 [.d d] [] st else .bad) = _
  rw [if_pos (by show (!false && !false && !stClo st && !false) = true; rw [hc]; rfl)]
  show finE (if hasOwnL [U.d d] = false ∧ stOwn st = false then F_notes_line [.d d] st else .bad) = _
  rw [if_pos ⟨rfl, stOwn_clo hc⟩]
theorem heard_read (d : D) (hn : noDct d = true) (hf : ∀ x, d = .str x → Fine x 640) (hc : stClo st = false) : F__law_told (apC 1 0 C_1 apNil) [.clo false 1 [.d d]] st = .ok (.d (heardRead d)) st := by
  have hs := stOwn_clo hc
  have fe : ∀ z : D, finE (.exn "InvalidLine" (some (.d z)) st) = .exn "InvalidLine" (some (.d z)) st := fun z => if_pos ⟨rfl, hs⟩
  by_cases h : ∃ x, d = .str x
  · obtain ⟨x, rfl⟩ := h
    have fx := hf x rfl
    have e := read_str (st := st) x fx.len (fun w hw => (words_fine fx w hw).len) (by have := words_len x; have := fx.len; omega) (words_ne x) hc
    by_cases hsm : (words x).all smallW = true
    · rw [if_pos hsm] at e
      have := told_ok (st := st) (ap := apC 1 0 C_1 apNil) (g := .clo false 1 [.d (.str x)]) (d := .tuple ((words x).map noteOf)) hc (by rw [callV1 _ hc, e]; exact if_pos ⟨rfl, hs⟩)
      rw [this]
      show _ = Res.ok (U.d (if (words x).all smallW = true then PyData.list [.str "told", .tuple ((words x).map noteOf)] else .list [.str "line", .str x])) st
      rw [if_pos hsm]
    · rw [if_neg hsm] at e
      rw [told_exn (c := "InvalidLine") (w := "line") hc (by rw [callV1 _ hc, e]; exact fe _) (hs_line _ _)]
      show _ = Res.ok (U.d (if (words x).all smallW = true then PyData.list [.str "told", .tuple ((words x).map noteOf)] else .list [.str "line", .str x])) st
      rw [if_neg hsm]
  · have e := read_other (st := st) d hn (fun x hx => h ⟨x, hx⟩) hc
    rw [told_exn (c := "InvalidLine") (w := "line") hc (by rw [callV1 _ hc, e]; exact fe _) (hs_line _ _)]
    unfold heardRead
    split
    · rename_i x
      exact absurd ⟨x, rfl⟩ h
    · rfl
theorem heard_notes (d k : D) (hw : wrongLine d = [k]) (hg : goodIn d = true) (hsh : shp d = true) (hc : stClo st = false) : F__law_told (apC 2 0 C_2 apNil) [.clo false 2 [.d d]] st = .ok (.d (.list [.str "notes", k])) st :=
  told_exn (c := "InvalidNotes") (w := "notes") hc (by rw [callV2 _ hc, notes_line_exn d k hw hg hsh hc]; exact if_pos ⟨rfl, stOwn_clo hc⟩) (hs_notes _ _)
end K12
set_option Elab.async false
set_option linter.all false
set_option maxRecDepth 100000
set_option maxHeartbeats 1000000
namespace K12
open PySem TT
variable {st : Sto}
/-! ## what may be shown -/
structure Nice (d : D) (n k : Nat) : Prop where
  lay : d.canLay0 = true
  sh : d.showable = true
  nd : d.hasDict = false
  len : d.shown.length ≤ n
  dp : d.depth ≤ k
structure NiceL (l : List D) (n k : Nat) : Prop where
  lay : PyData.canLayAll0 l = true
  sh : PyData.showableAll l = true
  nd : PyData.hasDictAll l = false
  len : ∀ t ∈ PyData.shownAll l, t.length ≤ n
  dp : PyData.depthAll l ≤ k
theorem Nice.mono {d : D} {m n k j : Nat} (h : Nice d m k) (hm : m ≤ n) (hk : k ≤ j) : Nice d n j := ⟨h.lay, h.sh, h.nd, Nat.le_trans h.len hm, Nat.le_trans h.dp hk⟩
theorem nice_none : Nice .none 10 0 := ⟨rfl, rfl, rfl, by decide +kernel, by decide +kernel⟩
theorem nice_bool (b : Bool) : Nice (.bool b) 10 0 := ⟨rfl, rfl, rfl, by cases b <;> decide +kernel, by cases b <;> decide +kernel⟩
theorem nice_nat {k : Nat} (h : k < 100) : Nice (.int k) 10 0 := by
  have q : ∀ k < 100, (PyData.int (k : Nat)).showable = true ∧ (PyData.int (k : Nat)).shown.length ≤ 10 := by decide +kernel
  exact ⟨rfl, (q k h).1, rfl, (q k h).2, Nat.zero_le _⟩
theorem nice_neg1 : Nice (.int (-1)) 10 0 := ⟨rfl, by decide +kernel, rfl, by decide +kernel, Nat.zero_le _⟩
theorem nice_str {x : Str} {n : Nat} (h : Fine x n) : Nice (.str x) (10 * n + 2) 0 := by
  refine ⟨h.str, rfl, rfl, ?_, Nat.zero_le _⟩
  show (reprText x).length ≤ _
  have q := StrLaws.reprText_len x fun c hc => Nat.lt_of_lt_of_le (h.ok c hc) (by decide)
  have := h.len
  omega
theorem niceL_of {n k : Nat} : ∀ {l : List D}, (∀ d ∈ l, Nice d n k) → NiceL l n k
  | [], _ => ⟨rfl, rfl, rfl, (fun t ht => nomatch ht), Nat.zero_le _⟩
  | d :: r, h => by
    have hd := h d (List.mem_cons_self ..)
    have hr := niceL_of (l := r) fun z hz => h z (List.mem_cons_of_mem _ hz)
    refine ⟨?_, ?_, ?_, fun t ht => ?_, ?_⟩
    · show (PyData.canLay0 d && PyData.canLayAll0 r) = true
      rw [hd.lay, hr.lay]; rfl
    · show (PyData.showable d && PyData.showableAll r) = true
      rw [hd.sh, hr.sh]; rfl
    · show (PyData.hasDict d || PyData.hasDictAll r) = false
      rw [hd.nd, hr.nd]; rfl
    · rcases List.mem_cons.mp (show t ∈ PyData.shown d :: PyData.shownAll r from ht) with e | e
      · rw [e]; exact hd.len
      · exact hr.len t e
    · show max (PyData.depth d) (PyData.depthAll r) ≤ k
      exact Nat.max_le.mpr ⟨hd.dp, hr.dp⟩
theorem shownAll_len : ∀ l : List D, (PyData.shownAll l).length = l.length
  | [] => rfl
  | d :: r => by
    show (PyData.shown d :: PyData.shownAll r).length = _
    rw [List.length_cons, List.length_cons, shownAll_len r]
theorem textFrom_le {n : Nat} : ∀ (ts : List Str) (k : Nat) (acc : Str), (∀ t ∈ ts, t.length ≤ n) → (textFrom k acc ts).length ≤ acc.length + ts.length * (n + 2)
  | [], k, acc, _ => by show acc.length ≤ _; omega
  | t :: r, k, acc, h => by
    have h1 := h t (List.mem_cons_self ..)
    have ih := textFrom_le r (k + 1) (acc ++ (if k > 0 then ", " else "" : String) ++ t) fun z hz => h z (List.mem_cons_of_mem _ hz)
    have e : (((if k > 0 then ", " else "" : String) : String) : Str).length ≤ 2 := by
      split <;> decide +kernel
    rw [Str.length_append, Str.length_append] at ih
    show (textFrom (k + 1) (acc ++ (if k > 0 then ", " else "" : String) ++ t) r).length ≤ _
    rw [List.length_cons, Nat.succ_mul]
    omega
theorem nice_list {l : List D} {n k m : Nat} (h : ∀ d ∈ l, Nice d n k) (hm : l.length ≤ m) : Nice (.list l) (m * (n + 2) + 2) (k + 1) := by
  have q := niceL_of h
  refine ⟨q.lay, q.sh, q.nd, ?_, ?_⟩
  · show (textFrom 0 "[" (PyData.shownAll l) ++ "]").length ≤ _
    have t := textFrom_le (PyData.shownAll l) 0 "[" q.len
    rw [shownAll_len] at t
    have e1 : ("[" : Str).length = 1 := by decide +kernel
    have e2 : ("]" : Str).length = 1 := by decide +kernel
    have e3 : l.length * (n + 2) ≤ m * (n + 2) := Nat.mul_le_mul_right _ hm
    rw [Str.length_append]
    omega
  · show PyData.depthAll l + 1 ≤ k + 1
    have := q.dp
    omega
theorem join_le {n : Nat} {y : Str} : ∀ ts : List Str, (∀ t ∈ ts, t.length ≤ n) → (Str.join y ts).length ≤ ts.length * (n + y.length)
  | [], _ => Nat.zero_le _
  | [t], h => by
    have := h t (List.mem_cons_self ..)
    show t.length ≤ 1 * (n + y.length)
    omega
  | t :: u :: r, h => by
    have h1 := h t (List.mem_cons_self ..)
    have ih := join_le (y := y) (u :: r) fun z hz => h z (List.mem_cons_of_mem _ hz)
    have e : Str.join y (t :: u :: r) = t ++ y ++ Str.join y (u :: r) := rfl
    rw [e, Str.length_append, Str.length_append, List.length_cons, Nat.succ_mul]
    omega
theorem nice_tuple {l : List D} {n k m : Nat} (h : ∀ d ∈ l, Nice d n k) (hm : l.length ≤ m) : Nice (.tuple l) (m * (n + 2) + 4) (k + 1) := by
  have q := niceL_of h
  refine ⟨q.lay, q.sh, q.nd, ?_, ?_⟩
  · show (("(" : Str) ++ Str.join ", " (PyData.shownAll l) ++ (if (PyData.shownAll l).length == 1 then ",)" else ")" : String)).length ≤ _
    have t := join_le (y := ", ") (PyData.shownAll l) q.len
    rw [shownAll_len] at t
    have e1 : ("(" : Str).length = 1 := by decide +kernel
    have e2 : (", " : Str).length = 2 := by decide +kernel
    have e4 : (((if (PyData.shownAll l).length == 1 then ",)" else ")" : String) : String) : Str).length ≤ 2 := by
      split <;> decide +kernel
    rw [e2] at t
    have e3 : l.length * (n + 2) ≤ m * (n + 2) := Nat.mul_le_mul_right _ hm
    rw [Str.length_append, Str.length_append]
    omega
  · show PyData.depthAll l + 1 ≤ k + 1
    have := q.dp
    omega
/-- the law's comparison of a list with itself -/
theorem repr_eq {l : List D} {n k : Nat} (h : Nice (.list l) n k) (hn : n ≤ 1000000) (hk : k < 100) : gRepr [.d (.list l)] st = .ok (.d (.str (PyData.shown (.list l)))) st := by
  refine if_pos ⟨h.lay, h.sh, h.nd, ?_, ?_, rfl⟩
  · have := h.len
    rw [sizeLine_eq]
    omega
  · have := h.dp
    omega
theorem law_is_refl {l : List D} {n k : Nat} (h : Nice (.list l) n k) (hn : n ≤ 1000000) (hk : k < 100) (hs : stOwn st = false) : F__law_is [.d (.list l), .d (.list l)] st = .ok (.d (.bool true)) st := by
  refine ev_runF (g := f__law_is) ?_ rfl hs
  have e : ∀ i : Nat, i < 2 → mCB gRepr (mCons (mVar i) mNil) [some (.d (.list l)), some (.d (.list l))] st = .ok (.d (.str (PyData.shown (.list l)))) st := fun i hi => by
    have hv : ([some (.d (.list l)), some (.d (.list l))] : Nv)[i]? = some (some (.d (.list l))) := by
      rcases (by omega : i = 0 ∨ i = 1) with rfl | rfl <;> rfl
    rw [ev_cb, ev_cons, ev_var hv]
    exact repr_eq h hn hk
  have c : mOp (gD2 eqD) (mCB gRepr (mCons (mVar 0) mNil)) (mCB gRepr (mCons (mVar 1) mNil)) [some (.d (.list l)), some (.d (.list l))] st = .ok (.d (.bool true)) st :=
    op2 (e 0 (by decide)) (e 1 (by decide)) (by rw [eqD_str]; simp)
  show f__law_is [some (.d (.list l)), some (.d (.list l))] st = _
  unfold f__law_is
  rw [ev_ret, c]
  rfl
end K12
set_option Elab.async false
set_option linter.all false
set_option maxRecDepth 100000
set_option maxHeartbeats 1000000
namespace K12
open PySem TT
variable {st : Sto}
/-! ## a line of notes, read back -/
theorem note_facts : ∀ d : D, isNote d = true → noteOf (noteStr d) = d ∧ smallW (noteStr d) = true ∧ 32 ∉ cl (noteStr d) ∧ Fine (noteStr d) 1 := by
  have fin : ∀ x : Str, (decide (x.length ≤ 1) && x.cps.toList.all fun c => decide (c < 0x110000)) = true → Fine x 1 := fun x h => fine_lit 1 h
  intro d h
  cases d with
  | none => exact ⟨rfl, by decide +kernel, by decide +kernel, fin _ (by decide +kernel)⟩
  | int i =>
    simp only [isNote, Bool.and_eq_true, decide_eq_true_eq] at h
    have : i = 0 ∨ i = 1 ∨ i = 2 ∨ i = 3 ∨ i = 4 ∨ i = 5 ∨ i = 6 ∨ i = 7 ∨ i = 8 := by omega
    have key : ∀ i : Int, (noteStr (.int i) ≠ "-" ∧ ((NumText.digitsVal (noteStr (.int i)).cps.toList : Nat) : Int) = i) → noteOf (noteStr (.int i)) = .int i := fun i hi => by
      unfold noteOf
      rw [if_neg hi.1, hi.2]
    rcases this with rfl | rfl | rfl | rfl | rfl | rfl | rfl | rfl | rfl <;> exact ⟨key _ ⟨by decide +kernel, by decide +kernel⟩, by decide +kernel, by decide +kernel, fin _ (by decide +kernel)⟩
  | _ => cases h
theorem words_line {l : List D} (hl : ∀ d ∈ l, isNote d = true) (h0 : l ≠ []) : words (lineOf l) = l.map noteStr := by
  unfold words lineOf
  refine TL.split_join (s := 32) (S := []) (by decide +kernel) (by decide +kernel) (by simpa using h0) fun p hp => ?_
  obtain ⟨d, hd, e⟩ := List.mem_map.mp hp
  rw [← e]
  exact (note_facts d (hl d hd)).2.2.1
theorem map_back {l : List D} (hl : ∀ d ∈ l, isNote d = true) : (l.map noteStr).map noteOf = l := by
  induction l with
  | nil => rfl
  | cons d r ih =>
    rw [List.map_cons, List.map_cons, (note_facts d (hl d (List.mem_cons_self ..))).1, ih fun z hz => hl z (List.mem_cons_of_mem _ hz)]
theorem line_fine {l : List D} (hl : ∀ d ∈ l, isNote d = true) (hz : l.length ≤ 60) : Fine (lineOf l) 120 := by
  have e : lineOf l = Str.join " " (l.map noteStr) := TL.join_eq " " _
  rw [e]
  have hf : ∀ p ∈ l.map noteStr, Fine p 1 := fun p hp => by
    obtain ⟨d, hd, e⟩ := List.mem_map.mp hp
    rw [← e]
    exact (note_facts d (hl d hd)).2.2.2
  refine ⟨?_, fun c hc => ?_⟩
  · have q := join_le (y := " ") (l.map noteStr) (n := 1) fun t ht => (hf t ht).len
    have e1 : (" " : Str).length = 1 := by decide +kernel
    rw [List.length_map, e1] at q
    omega
  · rcases join_chars " " _ c hc with z | ⟨p, hp, z⟩
    · have q : ∀ c ∈ cl (" " : Str), c < 0x110000 := by decide +kernel
      exact q c z
    · exact (hf p hp).ok c z
theorem line_small {l : List D} (hl : ∀ d ∈ l, isNote d = true) : (l.map noteStr).all smallW = true := by
  rw [List.all_map, List.all_eq_true]
  exact fun d hd => (note_facts d (hl d hd)).2.1
theorem read_line {l : List D} (hl : ∀ d ∈ l, isNote d = true) (h0 : l ≠ []) (hz : l.length ≤ 60) (hc : stClo st = false) : F_read_notes [.d (.str (lineOf l))] st = .ok (.d (.tuple l)) st := by
  have f := (line_fine hl hz).mono (show 120 ≤ 640 by decide)
  rw [read_str (lineOf l) f.len (fun w hw => (words_fine f w hw).len) (by have := words_len (lineOf l); have := f.len; omega) (words_ne _) hc, words_line hl h0, if_pos (line_small hl), map_back hl]
theorem notes_shp {l : List D} (hl : ∀ d ∈ l, isNote d = true) : shp (.tuple l) = true ∧ goodIn (.tuple l) = true := by
  refine ⟨shp_notes l fun d hd => ?_, ?_⟩
  · have h := hl d hd
    cases d with
    | none => exact .inl rfl
    | int i => exact .inr ⟨i, rfl⟩
    | _ => cases h
  · show l.all noDct = true
    rw [List.all_eq_true]
    exact fun d hd => (noteOk_of (hl d hd)).2
theorem say_line {l : List D} (hl : ∀ d ∈ l, isNote d = true) (h0 : l ≠ []) (hz : l.length ≤ 60) (hc : stClo st = false) : F_notes_line [.d (.tuple l)] st = .ok (.d (.str (lineOf l))) st :=
  notes_line_ok l hl (by omega) (wrongLine_notes hl h0) (notes_shp hl).2 (notes_shp hl).1 hc
theorem note_nice {d : D} (h : isNote d = true) : Nice d 10 0 := by
  cases d with
  | none => exact nice_none
  | int i =>
    simp only [isNote, Bool.and_eq_true, decide_eq_true_eq] at h
    have e : i = ((i.toNat : Nat) : Int) := by omega
    rw [e]
    exact nice_nat (by omega)
  | _ => cases h
/-- an effectful row: the element keeps the state's kind -/
theorem lc_draw {n : Nat} {g : SemG} {fe : SemE} {en : Nv} (P : D → Prop) (hstep : ∀ (u : U) (st : Sto), GW st n → ∃ (en1 : Nv) (d : D) (st' : Sto), g u en st = .nx en1 st ∧ fe en1 st = .ok (.d d) st' ∧ P d ∧ GW st' n ∧ st'.length = st.length) :
    ∀ (items : List U) (acc : List D) (st : Sto), GW st n → ∃ (r : List D) (st' : Sto), lcL g (fun _ st => .ok true st) fe yes en items (acc.map U.d) st = .ok ((acc ++ r).map U.d) st' ∧ r.length = items.length ∧ (∀ d ∈ r, P d) ∧ GW st' n ∧ st'.length = st.length
  | [], acc, st, h => ⟨[], st, by rw [List.append_nil]; rfl, rfl, (fun _ z => nomatch z), h, rfl⟩
  | u :: r, acc, st, h => by
    obtain ⟨en1, d, st1, e1, e2, hp, h1, l1⟩ := hstep u st h
    obtain ⟨rs, st2, e3, l2, hps, h2, l3⟩ := lc_draw P hstep r (acc ++ [d]) st1 h1
    refine ⟨d :: rs, st2, ?_, by rw [List.length_cons, List.length_cons, l2], fun z hz => ?_, h2, by rw [l3, l1]⟩
    · show (match g u en st with
        | .nx en1 st1 => (match fe en1 st1 with
            | .ok y st3 => lcL g (fun _ st => .ok true st) fe yes en r (acc.map U.d ++ [y]) st3
            | _ => .bad)
        | _ => .bad) = _
      rw [e1]
      show (match fe en1 st with
            | .ok y st3 => lcL g (fun _ st => .ok true st) fe yes en r (acc.map U.d ++ [y]) st3
            | _ => .bad) = _
      rw [e2]
      have q : acc.map U.d ++ [U.d d] = (acc ++ [d]).map U.d := by simp
      show lcL g (fun _ st => .ok true st) fe yes en r (acc.map U.d ++ [U.d d]) st1 = _
      rw [q, e3, List.append_assoc]
      rfl
    · rcases List.mem_cons.mp hz with e | e
      · rw [e]; exact hp
      · exact hps z e
end K12
set_option Elab.async false
set_option linter.all false
set_option maxRecDepth 100000
set_option maxHeartbeats 1000000
namespace K12
open PySem TT
variable {st : Sto}
/-! ## the law's own reader, at any value -/
def readOf (d : D) : List D := match d with
  | .str x => if (words x).all smallW = true then [.tuple ((words x).map noteOf)] else []
  | _ => []
theorem ifs_rt {t : SemT} {h1 h2 h3 : SemS} {en : Nv} {x : U} {s s2 : Sto} (e : t en st = .ok true s) (e2 : h1 en s = .rt x s2) : mSeq (mIfS t h1 h2) h3 en st = .rt x s2 := by
  rw [ev_seq, ev_ifS, e, ev_toS_ok, if_pos rfl, e2]
  rfl
theorem ifs_nx {t : SemT} {h1 : SemS} {en : Nv} {s : Sto} (e : t en st = .ok false s) : mIfS t h1 mNext en st = .nx en s := by
  rw [ev_ifS, e, ev_toS_ok, if_neg (by decide)]
  rfl
theorem seq_nx {h1 h2 : SemS} {en en1 : Nv} {s : Sto} {r : RS} (e : h1 en st = .nx en1 s) (e2 : h2 en1 s = r) : mSeq h1 h2 en st = r := by
  rw [ev_seq, e, ev_then_nx, e2]
theorem nil_mt (en : Nv) : mLst mNil en st = .ok (.d (.list [])) st := ev_lst (l := []) (ds := []) rfl (by simp [sizeLine_eq]) rfl
theorem law_read_other (d : D) (hn : noDct d = true) (h : ∀ x, d ≠ .str x) (hs : stOwn st = false) : F__law_read [.d d] st = .ok (.d (.list [])) st := by
  refine ev_runF (g := f__law_read) ?_ rfl hs
  have c : mIf (mTru (mIs "str" (mVar 0))) (mM1 gSplit (mVar 0) (mC (.str " "))) (mLst mNil) [some (.d d), none, none] st = .ok (.d (.list [])) st := by
    have t : mTru (mIs "str" (mVar 0)) [some (.d d), none, none] st = .ok false st := by
      cases d <;> first | exact absurd rfl (h _) | rfl | cases hn
    rw [ev_if, t, ev_bind_ok, if_neg (by decide), nil_mt]
  unfold f__law_read
  rw [ev_seq, ev_asg]
  show RS.then (Res.toS [some (.d d), none, none] (mIf (mTru (mIs "str" (mVar 0))) (mM1 gSplit (mVar 0) (mC (.str " "))) (mLst mNil) [some (.d d), none, none] st) fun u st => onlyNx (mG 1 u [some (.d d), none, none] st)) _ = _
  rw [c]
  have e1 : mOp (gD2 eqD) (mVar 1) (mLst mNil) [some (.d d), some (.d (.list [])), none] st = .ok (.d (.bool true)) st := by
    show (mLst mNil [some (U.d d), some (.d (.list [])), none] st).bind (fun z st => gD2 eqD (.d (.list [])) z st) = _
    rw [nil_mt, ev_bind_ok]
    refine ev_g2 ?_
    exact eqL_nil [] (fun _ z => nomatch z)
  have q : ∀ (t2 : SemT) (h3 : SemS), mSeq (mIfS (mOrT (mTst (mOp (gD2 eqD) (mVar 1) (mLst mNil))) t2) (mRet (mLst mNil)) mNext) h3 [some (.d d), some (.d (.list [])), none] st = .rt (.d (.list [])) st := fun t2 h3 =>
    ifs_rt (s := st) (by rw [ev_orT, ev_tst e1, ev_bind_ok, if_pos rfl]) (by rw [ev_ret, nil_mt, ev_toS_ok])
  exact q (mTst (mOp (gD2 neD) (mLc (mSeqI (mVar 1)) [2] (mG 2) (mTst (mOp (gD2 (inD true)) (mVar 2) (mTup consts10))) (mVar 2)) (mLst mNil))) (mRet (mLst (mCons (mCB gTuple (mCons (mLc (mSeqI (mVar 1)) [2] (mG 2) (fun _ st => .ok true st) (mIf (mTst (mOp (gD2 eqD) (mVar 2) (mC (.str "-")))) (mC .none) (mCB gInt (mCons (mVar 2) mNil)))) mNil)) mNil)))
theorem law_read_any (d : D) (hn : noDct d = true) (hf : ∀ x, d = .str x → Fine x 640) (hs : stOwn st = false) : F__law_read [.d d] st = .ok (.d (.list (readOf d))) st := by
  by_cases h : ∃ x, d = .str x
  · obtain ⟨x, rfl⟩ := h
    have fx := hf x rfl
    exact law_read_str x fx.len (fun w hw => (words_fine fx w hw).len) (words_ne x) (fun w hw => (words_fine fx w hw).str) hs
  · rw [law_read_other d hn (fun x hx => h ⟨x, hx⟩) hs]
    unfold readOf
    split
    · rename_i x
      exact absurd ⟨x, rfl⟩ h
    · rfl
/-! one value of the reader's turn -/
theorem heard_of (d : D) : heardRead d = if readOf d = [] then .list [.str "line", d] else .list [.str "told", (readOf d).headD .none] := by
  unfold heardRead readOf
  split
  · rename_i x
    show _ = if (if (words x).all smallW = true then [PyData.tuple ((words x).map noteOf)] else []) = [] then PyData.list [.str "line", .str x] else .list [.str "told", (if (words x).all smallW = true then [PyData.tuple ((words x).map noteOf)] else []).headD .none]
    by_cases h : (words x).all smallW = true
    · rw [if_pos h, if_pos h, if_neg (by simp)]; rfl
    · rw [if_neg h, if_neg h, if_pos rfl]
  · rw [if_pos]
    first
    | rfl
    | (split
       · rename_i y h; exact absurd rfl (h y)
       · rfl)
def vBody : SemS :=
  (mSeq (mAsgT (mCall F__law_read (mCons (mVar 7) mNil)) (mG 8))
    (mSeq (mAsgT (mIf (mTst (mOp (gD2 eqD) (mVar 8) (mLst mNil))) (mLst (mCons (mC (.str "line")) (mCons (mVar 7) mNil))) (mLst (mCons (mC (.str "told")) (mCons (mOp gIx (mVar 8) (mC (.int 0))) mNil)))) (mG 9))
    (mIfS (mNotT (mTru (mCall F__law_is (mCons (mCallX (F__law_told (apC 1 0 C_1 apNil)) (mCons (mLam 1 [7]) mNil)) (mCons (mVar 9) mNil))))) (mRet (mC (.bool false))) mNext)))
theorem note_small {w : Str} (h : smallW w = true) : isNote (noteOf w) = true := by
  rw [small_eq, Bool.and_eq_true] at h
  have h2 := h.2
  unfold noteOf at h2 ⊢
  by_cases e : w = "-"
  · rw [if_pos e]; rfl
  · rw [if_neg e] at h2 ⊢
    simp only [noteOk, isNote, inR, Bool.and_eq_true, decide_eq_true_eq] at h2 ⊢
    omega
theorem read_cases {d : D} (hf : ∀ x, d = .str x → Fine x 640) : readOf d = [] ∨ ∃ l, readOf d = [.tuple l] ∧ Nice (.tuple l) 7708 1 := by
  unfold readOf
  split
  · rename_i x
    split
    · rename_i h
      refine .inr ⟨_, rfl, ?_⟩
      have q : ∀ d ∈ (words x).map noteOf, Nice d 10 0 := fun d hd => by
        obtain ⟨w, hw, e⟩ := List.mem_map.mp hd
        rw [← e]
        exact note_nice (note_small (List.all_eq_true.mp h w hw))
      have l := (hf x rfl).len
      have l2 := words_len x
      exact nice_tuple (m := 642) q (by rw [List.length_map]; omega)
    · exact .inl rfl
  · exact .inl rfl
theorem lit_nice (x : Str) (h : (decide (x.length ≤ 10) && (cl x).all fun c => decide (c < 0x110000)) = true) : Nice (.str x) 7708 1 := (nice_str (fine_lit 10 h)).mono (by decide) (by decide)
theorem two_nice {a b : D} (ha : Nice a 7708 1) (hb : Nice b 7708 1) : Nice (.list [a, b]) 15422 2 :=
  nice_list (l := [a, b]) (m := 2) (fun d hd => by
    rcases List.mem_cons.mp hd with rfl | hd
    · exact ha
    · rcases List.mem_cons.mp hd with rfl | hd
      · exact hb
      · cases hd) (Nat.le_refl _)
theorem heard_nice {d : D} (hf : ∀ x, d = .str x → Fine x 640) (hd : Nice d 7708 1) : Nice (heardRead d) 15422 2 := by
  rw [heard_of]
  rcases read_cases hf with h | ⟨l, h, hl⟩
  · rw [if_pos h]
    exact two_nice (lit_nice _ (by decide +kernel)) hd
  · rw [if_neg (by rw [h]; simp), h]
    exact two_nice (lit_nice _ (by decide +kernel)) hl
theorem read_eqnil {d : D} (hf : ∀ x, d = .str x → Fine x 640) : eqD (.list (readOf d)) (.list []) = some (.bool (readOf d).isEmpty) := by
  rcases read_cases hf with h | ⟨l, h, hl⟩
  · rw [h]; exact eqL_nil [] (fun _ z => nomatch z)
  · rw [h]
    have q : Nice (.list [.tuple l]) 7712 2 := nice_list (l := [.tuple l]) (n := 7708) (k := 1) (m := 1) (fun d hd => by
      rcases List.mem_cons.mp hd with rfl | hd
      · exact hl
      · cases hd) (Nat.le_refl _)
    unfold eqD
    have q2 : shp (.list [.tuple l]) = true := by
      show (PyData.canLayAll0 [.tuple l] && decide (PyData.depthAll [.tuple l] + 1 ≤ 64)) = true
      rw [show PyData.canLayAll0 [.tuple l] = true from q.lay]
      have q3 : PyData.depthAll [.tuple l] + 1 ≤ 2 := q.dp
      simp only [Bool.true_and, decide_eq_true_eq]
      omega
    rw [if_pos ⟨q2, by decide⟩]
    rfl
theorem value_step {d : D} {e0 e1 e2 e3 e4 e5 e6 e8 e9 e10 e11 e12 : Option U} (hn : noDct d = true) (hf : ∀ x, d = .str x → Fine x 640) (hc : stClo st = false) (hd : Nice d 7708 1) :
    vBody [e0, e1, e2, e3, e4, e5, e6, some (.d d), e8, e9, e10, e11, e12] st = .nx [e0, e1, e2, e3, e4, e5, e6, some (.d d), some (.d (.list (readOf d))), some (.d (heardRead d)), e10, e11, e12] st := by
  have hs := stOwn_clo hc
  unfold vBody
  refine seq_nx (en1 := [e0, e1, e2, e3, e4, e5, e6, some (.d d), some (.d (.list (readOf d))), e9, e10, e11, e12]) (s := st) ?_ (seq_nx (en1 := [e0, e1, e2, e3, e4, e5, e6, some (.d d), some (.d (.list (readOf d))), some (.d (heardRead d)), e10, e11, e12]) (s := st) ?_ ?_)
  · rw [ev_asg]
    have c : mCall F__law_read (mCons (mVar 7) mNil) [e0, e1, e2, e3, e4, e5, e6, some (.d d), e8, e9, e10, e11, e12] st = .ok (.d (.list (readOf d))) st := by
      show (if hasOwnL [U.d d] = false ∧ stOwn st = false then F__law_read [.d d] st else .bad) = _
      rw [if_pos ⟨rfl, hs⟩, law_read_any d hn hf hs]
    rw [c]
    rfl
  · rw [ev_asg]
    have t : mTst (mOp (gD2 eqD) (mVar 8) (mLst mNil)) [e0, e1, e2, e3, e4, e5, e6, some (.d d), some (.d (.list (readOf d))), e9, e10, e11, e12] st = .ok (readOf d).isEmpty st := by
      refine ev_tst ?_
      show (mLst mNil [e0, e1, e2, e3, e4, e5, e6, some (.d d), some (.d (.list (readOf d))), e9, e10, e11, e12] st).bind (fun z st => gD2 eqD (.d (.list (readOf d))) z st) = _
      rw [nil_mt, ev_bind_ok]
      exact ev_g2 (read_eqnil hf)
    rw [ev_if, t, ev_bind_ok, heard_of]
    rcases read_cases hf with h | ⟨l, h, _⟩
    · rw [if_pos h, if_pos (by rw [h]; rfl)]
      rw [ev_lst (l := [.d (.str "line"), .d d]) (ds := [.str "line", d]) rfl (by simp [sizeLine_eq]) rfl]
      rfl
    · rw [if_neg (by rw [h]; simp), if_neg (by rw [h]; simp)]
      rw [h]
      rw [ev_lst (l := [.d (.str "told"), .d (.tuple l)]) (ds := [.str "told", .tuple l]) (by rfl) (by simp [sizeLine_eq]) rfl]
      rfl
  · refine ifs_nx ?_
    have a : mCallX (F__law_told (apC 1 0 C_1 apNil)) (mCons (mLam 1 [7]) mNil) [e0, e1, e2, e3, e4, e5, e6, some (.d d), some (.d (.list (readOf d))), some (.d (heardRead d)), e10, e11, e12] st = .ok (.d (heardRead d)) st := by
      show (if stClo st = false then cleanR (F__law_told (apC 1 0 C_1 apNil) [.clo false 1 [.d d]] st) else .bad) = _
      rw [if_pos hc, heard_read d hn hf hc]
      exact if_pos ⟨rfl, hc⟩
    obtain ⟨l, hl⟩ : ∃ l, heardRead d = .list l := by
      rw [heard_of]; split <;> exact ⟨_, rfl⟩
    have b : mCall F__law_is (mCons (mCallX (F__law_told (apC 1 0 C_1 apNil)) (mCons (mLam 1 [7]) mNil)) (mCons (mVar 9) mNil)) [e0, e1, e2, e3, e4, e5, e6, some (.d d), some (.d (.list (readOf d))), some (.d (heardRead d)), e10, e11, e12] st = .ok (.d (.bool true)) st := by
      rw [ev_call, ev_cons, a, ev_bind_ok]
      show (if hasOwnL [U.d (heardRead d), .d (heardRead d)] = false ∧ stOwn st = false then F__law_is [.d (heardRead d), .d (heardRead d)] st else .bad) = _
      rw [if_pos ⟨rfl, hs⟩, hl]
      have hh := heard_nice hf hd
      rw [hl] at hh
      exact law_is_refl hh (by decide) (by decide) hs
    rw [ev_notT, ev_tru (b := true) b rfl]
    rfl
end K12
set_option Elab.async false
set_option linter.all false
set_option maxRecDepth 100000
set_option maxHeartbeats 1000000
namespace K12
open PySem TT
variable {st : Sto}
/-! ## the turn's frame, with data alone beside the well -/
def fr (n : Nat) (a1 a2 a3 a4 a5 a6 a7 a8 a9 a10 a11 a12 : Option D) : Nv := [some (.ref n), a1.map U.d, a2.map U.d, a3.map U.d, a4.map U.d, a5.map U.d, a6.map U.d, a7.map U.d, a8.map U.d, a9.map U.d, a10.map U.d, a11.map U.d, a12.map U.d]
theorem fr_own (n : Nat) (a1 a2 a3 a4 a5 a6 a7 a8 a9 a10 a11 a12 : Option D) : enOwn (fr n a1 a2 a3 a4 a5 a6 a7 a8 a9 a10 a11 a12) = false := by
  unfold enOwn
  rw [List.any_eq_false]
  have hd : ∀ a : Option D, ¬ (match a.map U.d with | some u => hasOwn u | none => false) = true := fun a => by
    cases a with
    | none => exact Bool.noConfusion
    | some d => exact Bool.noConfusion
  intro o ho
  simp only [fr, List.mem_cons, List.not_mem_nil, or_false] at ho
  rcases ho with rfl | rfl | rfl | rfl | rfl | rfl | rfl | rfl | rfl | rfl | rfl | rfl | rfl
  · exact Bool.noConfusion
  all_goals exact hd _
variable {n : Nat} {a1 a2 a3 a4 a5 a6 a10 a11 a12 : Option D}
theorem value_loop (hc : stClo st = false) : ∀ (vs : List D) (a7 a8 a9 : Option D), (∀ d ∈ vs, noDct d = true ∧ (∀ x, d = .str x → Fine x 640) ∧ Nice d 7708 1) →
    ∃ b7 b8 b9, forL (mGC 7) vBody yes (vs.map U.d) (fr n a1 a2 a3 a4 a5 a6 a7 a8 a9 a10 a11 a12) st = .nx (fr n a1 a2 a3 a4 a5 a6 b7 b8 b9 a10 a11 a12) st
  | [], a7, a8, a9, _ => ⟨a7, a8, a9, rfl⟩
  | d :: r, a7, a8, a9, h => by
    obtain ⟨b7, b8, b9, e⟩ := value_loop hc r (some d) (some (.list (readOf d))) (some (heardRead d)) fun z hz => h z (List.mem_cons_of_mem _ hz)
    refine ⟨b7, b8, b9, ?_⟩
    obtain ⟨h1, h2, h3⟩ := h d (List.mem_cons_self ..)
    have g : mGC 7 (.d d) (fr n a1 a2 a3 a4 a5 a6 a7 a8 a9 a10 a11 a12) st = .nx (fr n a1 a2 a3 a4 a5 a6 (some d) a8 a9 a10 a11 a12) st :=
      if_pos ⟨fr_own .., stOwn_clo hc, rfl⟩
    have b : vBody (fr n a1 a2 a3 a4 a5 a6 (some d) a8 a9 a10 a11 a12) st = .nx (fr n a1 a2 a3 a4 a5 a6 (some d) (some (.list (readOf d))) (some (heardRead d)) a10 a11 a12) st := value_step h1 h2 hc h3
    rw [List.map_cons, forL, if_pos rfl, g]
    show (match vBody (fr n a1 a2 a3 a4 a5 a6 (some d) a8 a9 a10 a11 a12) st with
      | .nx en st => forL (mGC 7) vBody yes (r.map U.d) en st
      | .ct en st => forL (mGC 7) vBody yes (r.map U.d) en st
      | .bk en st => .nx en st
      | z => z) = _
    rw [b]
    exact e
def nBody : SemS := (mIfS (mNotT (mTru (mCall F__law_is (mCons (mCallX (F__law_told (apC 2 0 C_2 apNil)) (mCons (mLam 2 [7]) mNil)) (mCons (mLst (mCons (mC (.str "notes")) (mCons (mVar 9) mNil))) mNil))))) (mRet (mC (.bool false))) mNext)
def nPut : SemG := (mGTup 2 (fun us en st => if hasOwnL us.tail = false then mGCons (mGC 7) (fun us en st => if hasOwnL us.tail = false then mGCons (mG 9) mGNil us en st else .bad) us en st else .bad))
theorem note_step {d k : D} {a8 : Option D} (hw : wrongLine d = [k]) (hg : goodIn d = true) (hsh : shp d = true) (hk : Nice k 7708 1) (hc : stClo st = false) :
    nBody (fr n a1 a2 a3 a4 a5 a6 (some d) a8 (some k) a10 a11 a12) st = .nx (fr n a1 a2 a3 a4 a5 a6 (some d) a8 (some k) a10 a11 a12) st := by
  have hs := stOwn_clo hc
  unfold nBody
  refine ifs_nx ?_
  have a : mCallX (F__law_told (apC 2 0 C_2 apNil)) (mCons (mLam 2 [7]) mNil) (fr n a1 a2 a3 a4 a5 a6 (some d) a8 (some k) a10 a11 a12) st = .ok (.d (.list [.str "notes", k])) st := by
    show (if stClo st = false then cleanR (F__law_told (apC 2 0 C_2 apNil) [.clo false 2 [.d d]] st) else .bad) = _
    rw [if_pos hc, heard_notes d k hw hg hsh hc]
    exact if_pos ⟨rfl, hc⟩
  have l : mLst (mCons (mC (.str "notes")) (mCons (mVar 9) mNil)) (fr n a1 a2 a3 a4 a5 a6 (some d) a8 (some k) a10 a11 a12) st = .ok (.d (.list [.str "notes", k])) st :=
    ev_lst (l := [.d (.str "notes"), .d k]) (ds := [.str "notes", k]) rfl (by simp [sizeLine_eq]) rfl
  have b : mCall F__law_is (mCons (mCallX (F__law_told (apC 2 0 C_2 apNil)) (mCons (mLam 2 [7]) mNil)) (mCons (mLst (mCons (mC (.str "notes")) (mCons (mVar 9) mNil))) mNil)) (fr n a1 a2 a3 a4 a5 a6 (some d) a8 (some k) a10 a11 a12) st = .ok (.d (.bool true)) st := by
    rw [ev_call, ev_cons, a, ev_bind_ok, ev_cons, l]
    show (if hasOwnL [U.d (.list [.str "notes", k]), .d (.list [.str "notes", k])] = false ∧ stOwn st = false then F__law_is [.d (.list [.str "notes", k]), .d (.list [.str "notes", k])] st else .bad) = _
    rw [if_pos ⟨rfl, hs⟩]
    exact law_is_refl (two_nice (lit_nice _ (by decide +kernel)) hk) (by decide) (by decide) hs
  rw [ev_notT, ev_tru (b := true) b rfl]
  rfl
theorem note_loop (hc : stClo st = false) {a8 : Option D} : ∀ (ps : List (D × D)) (a7 a9 : Option D), (∀ p ∈ ps, wrongLine p.1 = [p.2] ∧ goodIn p.1 = true ∧ shp p.1 = true ∧ Nice p.2 7708 1) →
    ∃ b7 b9, forL nPut nBody yes (ps.map fun p => U.d (.tuple [p.1, p.2])) (fr n a1 a2 a3 a4 a5 a6 a7 a8 a9 a10 a11 a12) st = .nx (fr n a1 a2 a3 a4 a5 a6 b7 a8 b9 a10 a11 a12) st
  | [], a7, a9, _ => ⟨a7, a9, rfl⟩
  | (d, k) :: r, a7, a9, h => by
    obtain ⟨b7, b9, e⟩ := note_loop hc r (some d) (some k) fun z hz => h z (List.mem_cons_of_mem _ hz)
    refine ⟨b7, b9, ?_⟩
    obtain ⟨h1, h2, h3, h4⟩ := h (d, k) (List.mem_cons_self ..)
    have g : nPut (.d (.tuple [d, k])) (fr n a1 a2 a3 a4 a5 a6 a7 a8 a9 a10 a11 a12) st = .nx (fr n a1 a2 a3 a4 a5 a6 (some d) a8 (some k) a10 a11 a12) st := by
      have g7 : mGC 7 (.d d) (fr n a1 a2 a3 a4 a5 a6 a7 a8 a9 a10 a11 a12) st = .nx (fr n a1 a2 a3 a4 a5 a6 (some d) a8 a9 a10 a11 a12) st :=
        if_pos ⟨fr_own .., stOwn_clo hc, rfl⟩
      show RS.then (mGC 7 (.d d) (fr n a1 a2 a3 a4 a5 a6 a7 a8 a9 a10 a11 a12) st) (fun en st => (fun us en st => if hasOwnL us.tail = false then mGCons (mG 9) mGNil us en st else .bad) [U.d k] en st) = _
      rw [g7]
      rfl
    have b := note_step (st := st) (n := n) (a1 := a1) (a2 := a2) (a3 := a3) (a4 := a4) (a5 := a5) (a6 := a6) (a8 := a8) (a10 := a10) (a11 := a11) (a12 := a12) h1 h2 h3 h4 hc
    rw [List.map_cons, forL, if_pos rfl, g]
    show (match nBody (fr n a1 a2 a3 a4 a5 a6 (some d) a8 (some k) a10 a11 a12) st with
      | .nx en st => forL nPut nBody yes (r.map fun p : D × D => U.d (.tuple [p.1, p.2])) en st
      | .ct en st => forL nPut nBody yes (r.map fun p : D × D => U.d (.tuple [p.1, p.2])) en st
      | .bk en st => .nx en st
      | z => z) = _
    rw [b]
    exact e
end K12
set_option Elab.async false
set_option linter.all false
set_option maxRecDepth 100000
set_option maxHeartbeats 1000000
namespace K12
open PySem TT
variable {st : Sto} {n : Nat} {a1 a2 a3 a4 a5 a6 a7 a8 a9 a10 a11 a12 : Option D}
/-! ## the turn's own draws -/
theorem ev_tup {fs : SemA} {en : Nv} {s : Sto} {l : List U} {ds : List D} (h : fs en st = .ok l s) (hz : l.length ≤ sizeLine) (hd : mkTup l = .d (.tuple ds)) : mTup fs en st = .ok (.d (.tuple ds)) s := by
  unfold mTup
  rw [h, ev_bind_ok, if_pos hz, hd]
theorem call_draw {en : Nv} {f : SemE} {lim : Int} {st : Sto} (he : en[0]? = some (some (.ref n))) (hf : f en st = .ok (.d (.int lim)) st) (h : GW st n) (h1 : 1 ≤ lim) (h2 : lim < 1000000) :
    ∃ (r : Int) (st' : Sto), mCall F__law_draw (mCons (mVar 0) (mCons f mNil)) en st = .ok (.d (.int r)) st' ∧ 0 ≤ r ∧ r < lim ∧ GW st' n ∧ st'.length = st.length := by
  obtain ⟨r, st1, e, h3, h4, g, l⟩ := draw_eq h h1 h2
  refine ⟨r, st1, ?_, h3, h4, g, l⟩
  rw [ev_call, ev_cons, ev_var he, ev_bind_ok, ev_cons, hf]
  show (if hasOwnL [U.ref n, .d (.int lim)] = false ∧ stOwn st = false then F__law_draw [.ref n, .d (.int lim)] st else .bad) = _
  rw [if_pos ⟨rfl, gdw h⟩, e]
theorem call_of {en : Nv} {f : SemE} {l : List D} {st st1 : Sto} (he : en[0]? = some (some (.ref n))) (hf : f en st = .ok (.d (.tuple l)) st1) (h : GW st1 n) (h1 : l ≠ []) (h2 : l.length < 1000000) :
    ∃ x ∈ l, ∃ st', mCall F__law_of (mCons (mVar 0) (mCons f mNil)) en st = .ok (.d x) st' ∧ GW st' n ∧ st'.length = st1.length := by
  obtain ⟨x, hx, st2, e, g, le⟩ := law_of_tup h h1 h2
  refine ⟨x, hx, st2, ?_, g, le⟩
  rw [ev_call, ev_cons, ev_var he, ev_bind_ok, ev_cons, hf]
  show (if hasOwnL [U.ref n, .d (.tuple l)] = false ∧ stOwn st1 = false then F__law_of [.ref n, .d (.tuple l)] st1 else .bad) = _
  rw [if_pos ⟨rfl, gdw h⟩, e]
theorem call_ofL {en : Nv} {f : SemE} {l : List D} {st st1 : Sto} (he : en[0]? = some (some (.ref n))) (hf : f en st = .ok (.d (.list l)) st1) (h : GW st1 n) (h1 : l ≠ []) (h2 : l.length < 1000000) :
    ∃ x ∈ l, ∃ st', mCall F__law_of (mCons (mVar 0) (mCons f mNil)) en st = .ok (.d x) st' ∧ GW st' n ∧ st'.length = st1.length := by
  obtain ⟨x, hx, st2, e, g, le⟩ := law_of_lst h h1 h2
  refine ⟨x, hx, st2, ?_, g, le⟩
  rw [ev_call, ev_cons, ev_var he, ev_bind_ok, ev_cons, hf]
  show (if hasOwnL [U.ref n, .d (.list l)] = false ∧ stOwn st1 = false then F__law_of [.ref n, .d (.list l)] st1 else .bad) = _
  rw [if_pos ⟨rfl, gdw h⟩, e]
/-- how many notes -/
theorem many_eq {en : Nv} (he : en[0]? = some (some (.ref n))) (h : GW st n) :
    ∃ (r : Int) (st' : Sto), mOp (gD2 addD) (mC (.int 1)) (mCall F__law_draw (mCons (mVar 0) (mCons (mCall F__law_of (mCons (mVar 0) (mCons (mTup (mCons (mC (.int 3)) (mCons (mC (.int 9)) (mCons (mC (.int 60)) mNil)))) mNil))) mNil))) en st = .ok (.d (.int r)) st' ∧ 1 ≤ r ∧ r ≤ 60 ∧ GW st' n ∧ st'.length = st.length := by
  have t : mTup (mCons (mC (.int 3)) (mCons (mC (.int 9)) (mCons (mC (.int 60)) mNil))) en st = .ok (.d (.tuple [.int 3, .int 9, .int 60])) st := ev_tup (l := [.d (.int 3), .d (.int 9), .d (.int 60)]) rfl (by simp [sizeLine_eq]) rfl
  obtain ⟨x, hx, st1, e1, g1, l1⟩ := call_of (l := [.int 3, .int 9, .int 60]) he t h (by simp) (by simp)
  have hx' : ∃ k : Int, x = .int k ∧ 1 ≤ k ∧ k ≤ 60 := by
    simp only [List.mem_cons, List.not_mem_nil, or_false] at hx
    rcases hx with rfl | rfl | rfl
    · exact ⟨3, rfl, by decide, by decide⟩
    · exact ⟨9, rfl, by decide, by decide⟩
    · exact ⟨60, rfl, by decide, by decide⟩
  obtain ⟨k, rfl, k1, k2⟩ := hx'
  obtain ⟨r, st2, e2, h3, h4, g2, l2⟩ := draw_eq g1 (lim := k) k1 (by omega)
  refine ⟨1 + r, st2, ?_, by omega, by omega, g2, by rw [l2, l1]⟩
  have b : mCall F__law_draw (mCons (mVar 0) (mCons (mCall F__law_of (mCons (mVar 0) (mCons (mTup (mCons (mC (.int 3)) (mCons (mC (.int 9)) (mCons (mC (.int 60)) mNil)))) mNil))) mNil)) en st = .ok (.d (.int r)) st2 := by
    rw [ev_call, ev_cons, ev_var he, ev_bind_ok, ev_cons, e1]
    show (if hasOwnL [U.ref n, .d (.int k)] = false ∧ stOwn st1 = false then F__law_draw [.ref n, .d (.int k)] st1 else .bad) = _
    rw [if_pos ⟨rfl, gdw g1⟩, e2]
  rw [ev_op, ev_c, ev_bind_ok, b]
  rfl
/-- one note -/
theorem note_eq {en : Nv} (he : en[0]? = some (some (.ref n))) (h : GW st n) :
    ∃ (d : D) (st' : Sto), mCall F__law_of (mCons (mVar 0) (mCons (mTup (mCons (mC .none) (mCons (mCall F__law_draw (mCons (mVar 0) (mCons (mC (.int 9)) mNil))) (mCons (mCall F__law_draw (mCons (mVar 0) (mCons (mC (.int 9)) mNil))) mNil)))) mNil)) en st = .ok (.d d) st' ∧ isNote d = true ∧ GW st' n ∧ st'.length = st.length := by
  obtain ⟨r, st1, e1, p1, q1, g1, l1⟩ := call_draw (f := mC (.int 9)) he rfl h (by decide) (by decide)
  obtain ⟨s, st2, e2, p2, q2, g2, l2⟩ := call_draw (f := mC (.int 9)) he rfl g1 (by decide) (by decide)
  have t : mTup (mCons (mC .none) (mCons (mCall F__law_draw (mCons (mVar 0) (mCons (mC (.int 9)) mNil))) (mCons (mCall F__law_draw (mCons (mVar 0) (mCons (mC (.int 9)) mNil))) mNil))) en st = .ok (.d (.tuple [.none, .int r, .int s])) st2 := by
    refine ev_tup (l := [.d .none, .d (.int r), .d (.int s)]) ?_ (by simp [sizeLine_eq]) rfl
    rw [ev_cons, ev_c, ev_bind_ok, ev_cons, e1, ev_bind_ok, ev_cons, e2]
    rfl
  obtain ⟨x, hx, st3, e3, g3, l3⟩ := call_of (l := [.none, .int r, .int s]) he t g2 (by simp) (by simp)
  refine ⟨x, st3, e3, ?_, g3, by rw [l3, l2, l1]⟩
  simp only [List.mem_cons, List.not_mem_nil, or_false] at hx
  rcases hx with rfl | rfl | rfl
  · rfl
  · simp only [isNote, Bool.and_eq_true, decide_eq_true_eq]; omega
  · simp only [isNote, Bool.and_eq_true, decide_eq_true_eq]; omega
end K12
set_option Elab.async false
set_option linter.all false
set_option maxRecDepth 100000
set_option maxHeartbeats 1000000
namespace K12
open PySem TT
variable {st : Sto} {n : Nat} {a1 a2 a3 a4 a5 a6 a7 a8 a9 a10 a11 a12 : Option D}
/-! ## the turn's rows, drawn -/
theorem lc_row {fe : SemE} {m : Int} {fi : SemI} (P : D → Prop) (hi : fi (fr n a1 a2 a3 a4 a5 a6 a7 a8 a9 a10 a11 a12) st = .ok (rgU 0 m, yes) st) (h : GW st n)
    (hstep : ∀ (d : D) (st : Sto), GW st n → ∃ (r : D) (st' : Sto), fe (fr n a1 a2 a3 a4 a5 a6 a7 a8 a9 a10 a11 (some d)) st = .ok (.d r) st' ∧ P r ∧ GW st' n ∧ st'.length = st.length) :
    ∃ (r : List D) (st' : Sto), mLc fi [12] (mG 12) (fun _ st => .ok true st) fe (fr n a1 a2 a3 a4 a5 a6 a7 a8 a9 a10 a11 a12) st = .ok (.d (.list r)) st' ∧ r.length = m.toNat ∧ (∀ d ∈ r, P d) ∧ GW st' n ∧ st'.length = st.length := by
  have w : wipeN (fr n a1 a2 a3 a4 a5 a6 a7 a8 a9 a10 a11 a12) [12] = fr n a1 a2 a3 a4 a5 a6 a7 a8 a9 a10 a11 none := rfl
  have key : ∀ (items : List D) (acc : List D) (st : Sto), GW st n → ∃ (r : List D) (st' : Sto), lcL (mG 12) (fun _ st => .ok true st) fe yes (fr n a1 a2 a3 a4 a5 a6 a7 a8 a9 a10 a11 none) (items.map U.d) (acc.map U.d) st = .ok ((acc ++ r).map U.d) st' ∧ r.length = items.length ∧ (∀ d ∈ r, P d) ∧ GW st' n ∧ st'.length = st.length := by
    intro items
    induction items with
    | nil => intro acc st h; exact ⟨[], st, by rw [List.append_nil]; rfl, rfl, (fun _ z => nomatch z), h, rfl⟩
    | cons u r ih =>
      intro acc st h
      obtain ⟨d, st1, e2, hp, h1, l1⟩ := hstep u st h
      obtain ⟨rs, st2, e3, l2, hps, h2, l3⟩ := ih (acc ++ [d]) st1 h1
      refine ⟨d :: rs, st2, ?_, by rw [List.length_cons, List.length_cons, l2], fun z hz => ?_, h2, by rw [l3, l1]⟩
      · show (match fe (fr n a1 a2 a3 a4 a5 a6 a7 a8 a9 a10 a11 (some u)) st with
            | .ok y st3 => lcL (mG 12) (fun _ st => .ok true st) fe yes (fr n a1 a2 a3 a4 a5 a6 a7 a8 a9 a10 a11 none) (r.map U.d) (acc.map U.d ++ [y]) st3
            | _ => .bad) = _
        rw [e2]
        have q : acc.map U.d ++ [U.d d] = (acc ++ [d]).map U.d := by simp
        show lcL (mG 12) (fun _ st => .ok true st) fe yes (fr n a1 a2 a3 a4 a5 a6 a7 a8 a9 a10 a11 none) (r.map U.d) (acc.map U.d ++ [U.d d]) st1 = _
        rw [q, e3, List.append_assoc]
        rfl
      · rcases List.mem_cons.mp hz with e | e
        · rw [e]; exact hp
        · exact hps z e
  obtain ⟨r, st1, e, l, hp, g, le⟩ := key ((List.range m.toNat).map fun i => .int (0 + (i : Nat))) [] st h
  refine ⟨r, st1, ?_, by rw [l]; simp, hp, g, le⟩
  have hr : rgU 0 m = ((List.range m.toNat).map fun i => PyData.int (0 + (i : Nat))).map U.d := by
    unfold rgU
    rw [List.map_map, Int.sub_zero]
    rfl
  show Res.bind (fi (fr n a1 a2 a3 a4 a5 a6 a7 a8 a9 a10 a11 a12) st) _ = _
  rw [hi, ev_bind_ok]
  show (if enOwn (fr n a1 a2 a3 a4 a5 a6 a7 a8 a9 a10 a11 a12) = false ∧ stOwn st = false then (lcL (mG 12) (fun _ st => .ok true st) fe yes (wipeN (fr n a1 a2 a3 a4 a5 a6 a7 a8 a9 a10 a11 a12) [12]) (rgU 0 m) [] st).bind fun l st => (match allD l with
    | some l => Res.ok (U.d (.list l)) st
    | none => .bad) else .bad) = _
  rw [if_pos ⟨fr_own .., gdw h⟩, w, hr]
  have e' : lcL (mG 12) (fun _ st => .ok true st) fe yes (fr n a1 a2 a3 a4 a5 a6 a7 a8 a9 a10 a11 none) (((List.range m.toNat).map fun i => PyData.int (0 + (i : Nat))).map U.d) [] st = .ok (r.map U.d) st1 := e
  rw [e', ev_bind_ok]
  have q : allD (r.map U.d) = some r := allD_map r
  rw [q]
end K12
set_option Elab.async false
set_option linter.all false
set_option maxRecDepth 100000
set_option maxHeartbeats 1000000
namespace K12
open PySem TT
variable {st : Sto} {n : Nat} {a1 a2 a3 a4 a5 a6 a7 a8 a9 a10 a11 a12 : Option D}
/-! ## the turn, statement by statement -/
def t1 : SemS := mAsgT (mOp (gD2 addD) (mC (.int 1)) (mCall F__law_draw (mCons (mVar 0) (mCons (mCall F__law_of (mCons (mVar 0) (mCons (mTup (mCons (mC (.int 3)) (mCons (mC (.int 9)) (mCons (mC (.int 60)) mNil)))) mNil))) mNil)))) (mG 2)
def t2 : SemS := mAsgT (mCB gTuple (mCons (mLc (mRg1 (mVar 2)) [12] (mG 12) (fun _ st => .ok true st) (mCall F__law_of (mCons (mVar 0) (mCons (mTup (mCons (mC .none) (mCons (mCall F__law_draw (mCons (mVar 0) (mCons (mC (.int 9)) mNil))) (mCons (mCall F__law_draw (mCons (mVar 0) (mCons (mC (.int 9)) mNil))) mNil)))) mNil)))) mNil)) (mG 3)
def t3 : SemS := mAsgT (mCall F__law_line (mCons (mVar 3) mNil)) (mGC 4)
def t4 : SemS := mAsgT (mLst (mCons (mCall F_notes_line (mCons (mVar 3) mNil)) (mCons (mCall F_notes_line (mCons (mVar 3) mNil)) (mCons (mCall F_read_notes (mCons (mVar 4) mNil)) (mCons (mCall F_read_notes (mCons (mVar 4) mNil)) mNil))))) (mG 5)
def t5 : SemS := mIfS (mNotT (mTru (mCall F__law_is (mCons (mVar 5) (mCons (mLst (mCons (mVar 4) (mCons (mVar 4) (mCons (mVar 3) (mCons (mVar 3) mNil))))) mNil))))) (mRet (mC (.bool false))) mNext
theorem t1_eq (h : GW st n) : ∃ (r : Int) (st' : Sto), t1 (fr n a1 a2 a3 a4 a5 a6 a7 a8 a9 a10 a11 a12) st = .nx (fr n a1 (some (.int r)) a3 a4 a5 a6 a7 a8 a9 a10 a11 a12) st' ∧ 1 ≤ r ∧ r ≤ 60 ∧ GW st' n ∧ st'.length = st.length := by
  obtain ⟨r, st1, e, h1, h2, g, l⟩ := many_eq (en := fr n a1 a2 a3 a4 a5 a6 a7 a8 a9 a10 a11 a12) rfl h
  refine ⟨r, st1, ?_, h1, h2, g, l⟩
  unfold t1
  rw [ev_asg, e]
  rfl
theorem t2_eq (h : GW st n) {m : Int} (h1 : 1 ≤ m) (h2 : m ≤ 60) : ∃ (l : List D) (st' : Sto), t2 (fr n a1 (some (.int m)) a3 a4 a5 a6 a7 a8 a9 a10 a11 a12) st = .nx (fr n a1 (some (.int m)) (some (.tuple l)) a4 a5 a6 a7 a8 a9 a10 a11 a12) st' ∧ l.length = m.toNat ∧ (∀ d ∈ l, isNote d = true) ∧ GW st' n ∧ st'.length = st.length := by
  have hi : mRg1 (mVar 2) (fr n a1 (some (.int m)) a3 a4 a5 a6 a7 a8 a9 a10 a11 a12) st = .ok (rgU 0 m, yes) st := by
    show (if rgOk 0 m then Res.ok (rgU 0 m, yes) st else .bad) = _
    rw [if_pos (by unfold rgOk; omega)]
  obtain ⟨l, st1, e, l1, hp, g, le⟩ := lc_row (fe := mCall F__law_of (mCons (mVar 0) (mCons (mTup (mCons (mC .none) (mCons (mCall F__law_draw (mCons (mVar 0) (mCons (mC (.int 9)) mNil))) (mCons (mCall F__law_draw (mCons (mVar 0) (mCons (mC (.int 9)) mNil))) mNil)))) mNil))) (fun d => isNote d = true) hi h fun d st h => note_eq rfl h
  refine ⟨l, st1, ?_, l1, hp, g, le⟩
  unfold t2
  rw [ev_asg, ev_cb, ev_cons, e, ev_bind_ok]
  rw [ev_nil, ev_bind_ok, ev_bind_ok, gTuple_list]
  rfl
theorem t3_eq {l : List D} (hl : ∀ d ∈ l, isNote d = true) (hz : l.length ≤ 60) (h : GW st n) : t3 (fr n a1 a2 (some (.tuple l)) a4 a5 a6 a7 a8 a9 a10 a11 a12) st = .nx (fr n a1 a2 (some (.tuple l)) (some (.str (lineOf l))) a5 a6 a7 a8 a9 a10 a11 a12) st := by
  have c : mCall F__law_line (mCons (mVar 3) mNil) (fr n a1 a2 (some (.tuple l)) a4 a5 a6 a7 a8 a9 a10 a11 a12) st = .ok (.d (.str (lineOf l))) st := by
    show (if hasOwnL [U.d (.tuple l)] = false ∧ stOwn st = false then F__law_line [.d (.tuple l)] st else .bad) = _
    rw [if_pos ⟨rfl, gdw h⟩, law_line_eq l hl (by omega) (gdw h)]
  unfold t3
  rw [ev_asg, c, ev_toS_ok]
  have g : mGC 4 (.d (.str (lineOf l))) (fr n a1 a2 (some (.tuple l)) a4 a5 a6 a7 a8 a9 a10 a11 a12) st = .nx (fr n a1 a2 (some (.tuple l)) (some (.str (lineOf l))) a5 a6 a7 a8 a9 a10 a11 a12) st :=
    if_pos ⟨fr_own .., gdw h, rfl⟩
  rw [g]
  rfl
theorem t4_eq {l : List D} (hl : ∀ d ∈ l, isNote d = true) (h0 : l ≠ []) (hz : l.length ≤ 60) (h : GW st n) : t4 (fr n a1 a2 (some (.tuple l)) (some (.str (lineOf l))) a5 a6 a7 a8 a9 a10 a11 a12) st = .nx (fr n a1 a2 (some (.tuple l)) (some (.str (lineOf l))) (some (.list [.str (lineOf l), .str (lineOf l), .tuple l, .tuple l])) a6 a7 a8 a9 a10 a11 a12) st := by
  have c1 : mCall F_notes_line (mCons (mVar 3) mNil) (fr n a1 a2 (some (.tuple l)) (some (.str (lineOf l))) a5 a6 a7 a8 a9 a10 a11 a12) st = .ok (.d (.str (lineOf l))) st := by
    show (if hasOwnL [U.d (.tuple l)] = false ∧ stOwn st = false then F_notes_line [.d (.tuple l)] st else .bad) = _
    rw [if_pos ⟨rfl, gdw h⟩, say_line hl h0 hz h.good.own.2]
  have c2 : mCall F_read_notes (mCons (mVar 4) mNil) (fr n a1 a2 (some (.tuple l)) (some (.str (lineOf l))) a5 a6 a7 a8 a9 a10 a11 a12) st = .ok (.d (.tuple l)) st := by
    show (if hasOwnL [U.d (.str (lineOf l))] = false ∧ stOwn st = false then F_read_notes [.d (.str (lineOf l))] st else .bad) = _
    rw [if_pos ⟨rfl, gdw h⟩, read_line hl h0 hz h.good.own.2]
  unfold t4
  rw [ev_asg, ev_lst (s := st) (l := [.d (.str (lineOf l)), .d (.str (lineOf l)), .d (.tuple l), .d (.tuple l)]) (ds := [.str (lineOf l), .str (lineOf l), .tuple l, .tuple l]) (by
    rw [ev_cons, c1, ev_bind_ok, ev_cons, c1, ev_bind_ok, ev_cons, c2, ev_bind_ok, ev_cons, c2]
    rfl) (by simp [sizeLine_eq]) rfl]
  rfl
theorem t5_eq {l : List D} (hl : ∀ d ∈ l, isNote d = true) (hz : l.length ≤ 60) (h : GW st n) : t5 (fr n a1 a2 (some (.tuple l)) (some (.str (lineOf l))) (some (.list [.str (lineOf l), .str (lineOf l), .tuple l, .tuple l])) a6 a7 a8 a9 a10 a11 a12) st = .nx (fr n a1 a2 (some (.tuple l)) (some (.str (lineOf l))) (some (.list [.str (lineOf l), .str (lineOf l), .tuple l, .tuple l])) a6 a7 a8 a9 a10 a11 a12) st := by
  unfold t5
  refine ifs_nx ?_
  have q : Nice (.list [.str (lineOf l), .str (lineOf l), .tuple l, .tuple l]) (4 * (7708 + 2) + 2) 2 := nice_list (l := [.str (lineOf l), .str (lineOf l), .tuple l, .tuple l]) (n := 7708) (k := 1) (m := 4) (fun d hd => by
    have s1 : Nice (.str (lineOf l)) 7708 1 := (nice_str (line_fine hl hz)).mono (by decide) (by decide)
    have s2 : Nice (.tuple l) 7708 1 := (nice_tuple (m := 60) (fun d hd => note_nice (hl d hd)) hz).mono (by decide) (by decide)
    simp only [List.mem_cons, List.not_mem_nil, or_false] at hd
    rcases hd with rfl | rfl | rfl | rfl
    · exact s1
    · exact s1
    · exact s2
    · exact s2) (Nat.le_refl _)
  have b : mCall F__law_is (mCons (mVar 5) (mCons (mLst (mCons (mVar 4) (mCons (mVar 4) (mCons (mVar 3) (mCons (mVar 3) mNil))))) mNil)) (fr n a1 a2 (some (.tuple l)) (some (.str (lineOf l))) (some (.list [.str (lineOf l), .str (lineOf l), .tuple l, .tuple l])) a6 a7 a8 a9 a10 a11 a12) st = .ok (.d (.bool true)) st := by
    rw [ev_call, ev_cons, ev_var rfl, ev_bind_ok, ev_cons, ev_lst (s := st) (l := [.d (.str (lineOf l)), .d (.str (lineOf l)), .d (.tuple l), .d (.tuple l)]) (ds := [.str (lineOf l), .str (lineOf l), .tuple l, .tuple l]) rfl (by simp [sizeLine_eq]) rfl]
    show (if hasOwnL [U.d (.list [.str (lineOf l), .str (lineOf l), .tuple l, .tuple l]), .d (.list [.str (lineOf l), .str (lineOf l), .tuple l, .tuple l])] = false ∧ stOwn st = false then F__law_is [.d (.list [.str (lineOf l), .str (lineOf l), .tuple l, .tuple l]), .d (.list [.str (lineOf l), .str (lineOf l), .tuple l, .tuple l])] st else .bad) = _
    rw [if_pos ⟨rfl, gdw h⟩]
    exact law_is_refl q (by decide) (by decide) (gdw h)
  rw [ev_notT, ev_tru (b := true) b rfl]
  rfl
end K12
set_option Elab.async false
set_option linter.all false
set_option maxRecDepth 100000
set_option maxHeartbeats 1000000
namespace K12
open PySem TT
variable {st : Sto} {n : Nat} {a1 a2 a3 a4 a5 a6 a7 a8 a9 a10 a11 a12 : Option D}
/-! ## the values that the turn reads -/
def someL (x : Str) : List D := [.none, .tuple [], .int 5, .str "", .str " ", .str "-", .str "--", .str "9", .str "08", .str "10", .str "0 - 8", .str "a", .str "none", .tuple [.str x], .str "-1", .str "0  1", .str "+1"]
def t6 : SemS := mAsgT (mLst (mCons (mC .none) (mCons (mTup mNil) (mCons (mC (.int 5)) (mCons (mC (.str "")) (mCons (mC (.str " ")) (mCons (mC (.str "-")) (mCons (mC (.str "--")) (mCons (mC (.str "9")) (mCons (mC (.str "08")) (mCons (mC (.str "10")) (mCons (mC (.str "0 - 8")) (mCons (mC (.str "a")) (mCons (mC (.str "none")) (mCons (mTup (mCons (mVar 4) mNil)) (mCons (mC (.str "-1")) (mCons (mC (.str "0  1")) (mCons (mC (.str "+1")) mNil)))))))))))))))))) (mG 6)
theorem t6_eq (x : Str) : t6 (fr n a1 a2 a3 (some (.str x)) a5 a6 a7 a8 a9 a10 a11 a12) st = .nx (fr n a1 a2 a3 (some (.str x)) a5 (some (.list (someL x))) a7 a8 a9 a10 a11 a12) st := by
  have e1 : mTup mNil (fr n a1 a2 a3 (some (.str x)) a5 a6 a7 a8 a9 a10 a11 a12) st = .ok (.d (.tuple [])) st := ev_tup (l := []) rfl (by simp [sizeLine_eq]) rfl
  have e2 : mTup (mCons (mVar 4) mNil) (fr n a1 a2 a3 (some (.str x)) a5 a6 a7 a8 a9 a10 a11 a12) st = .ok (.d (.tuple [.str x])) st := ev_tup (l := [.d (.str x)]) rfl (by simp [sizeLine_eq]) rfl
  unfold t6
  rw [ev_asg, ev_lst (s := st) (l := (someL x).map U.d) (ds := someL x) (by
    rw [ev_cons, ev_c, ev_bind_ok, ev_cons, e1, ev_bind_ok]
    iterate 11 rw [ev_cons, ev_c, ev_bind_ok]
    rw [ev_cons, e2, ev_bind_ok]
    iterate 3 rw [ev_cons, ev_c, ev_bind_ok]
    rfl) (by simp [sizeLine_eq, someL]) (allD_map _)]
  rfl
def Val (d : D) : Prop := noDct d = true ∧ (∀ x, d = .str x → Fine x 640) ∧ Nice d 7708 1
theorem val_str {x : Str} (h : Fine x 640) : Val (.str x) := ⟨rfl, fun y e => by cases e; exact h, (nice_str h).mono (by decide) (by decide)⟩
theorem val_lit (x : Str) (h : (decide (x.length ≤ 640) && (cl x).all fun c => decide (c < 0x110000)) = true) : Val (.str x) := val_str (fine_lit 640 h)
theorem some_val {x : Str} (h : Fine x 120) : ∀ d ∈ someL x, Val d := fun d hd => by
  simp only [someL, List.mem_cons, List.not_mem_nil, or_false] at hd
  rcases hd with rfl | rfl | rfl | rfl | rfl | rfl | rfl | rfl | rfl | rfl | rfl | rfl | rfl | rfl | rfl | rfl | rfl
  · exact ⟨rfl, fun y e => (nomatch e), nice_none.mono (by decide) (by decide)⟩
  · exact ⟨rfl, fun y e => (nomatch e), (nice_tuple (l := []) (n := 10) (k := 0) (m := 0) (fun _ z => nomatch z) (Nat.le_refl _)).mono (by decide) (by decide)⟩
  · exact ⟨rfl, fun y e => (nomatch e), (nice_nat (k := 5) (by decide)).mono (by decide) (by decide)⟩
  iterate 10 exact val_lit _ (by decide +kernel)
  · refine ⟨rfl, fun y e => (nomatch e), (nice_tuple (l := [.str x]) (n := 1202) (k := 0) (m := 1) (fun d hd => ?_) (Nat.le_refl _)).mono (by decide) (by decide)⟩
    rcases List.mem_cons.mp hd with rfl | hd
    · exact nice_str h
    · cases hd
  all_goals exact val_lit _ (by decide +kernel)
end K12
set_option Elab.async false
set_option linter.all false
set_option maxRecDepth 100000
set_option maxHeartbeats 1000000
namespace K12
open PySem TT
variable {st : Sto} {n : Nat} {a1 a2 a3 a4 a5 a6 a7 a8 a9 a10 a11 a12 : Option D}
def t7i : SemI := mSeqI (mOp (gD2 addD) (mLst (mCons (mCall F__law_of (mCons (mVar 0) (mCons (mVar 6) mNil))) (mCons (mCall F__law_of (mCons (mVar 0) (mCons (mVar 6) mNil))) mNil))) (mLc (mRg1 (mC (.int 7))) [12] (mG 12) (fun _ st => .ok true st) (mCall F__law_bent (mCons (mVar 0) (mCons (mVar 4) mNil)))))
def t7 : SemS := mFor t7i (mGC 7) vBody
theorem t7i_eq {x : Str} (hx : Fine x 120) (h : GW st n) : ∃ (vs : List D) (st' : Sto), t7i (fr n a1 a2 a3 (some (.str x)) a5 (some (.list (someL x))) a7 a8 a9 a10 a11 a12) st = .ok (vs.map U.d, yes) st' ∧ (∀ d ∈ vs, Val d) ∧ GW st' n ∧ st'.length = st.length := by
  obtain ⟨v1, m1, st1, e1, g1, l1⟩ := call_ofL (en := fr n a1 a2 a3 (some (.str x)) a5 (some (.list (someL x))) a7 a8 a9 a10 a11 a12) (f := mVar 6) (l := someL x) (st := st) rfl rfl h (by simp [someL]) (by simp [someL])
  obtain ⟨v2, m2, st2, e2, g2, l2⟩ := call_ofL (en := fr n a1 a2 a3 (some (.str x)) a5 (some (.list (someL x))) a7 a8 a9 a10 a11 a12) (f := mVar 6) (l := someL x) (st := st1) rfl rfl g1 (by simp [someL]) (by simp [someL])
  obtain ⟨r, st3, e3, l3, hr, g3, le3⟩ := lc_row (n := n) (a1 := a1) (a2 := a2) (a3 := a3) (a4 := some (.str x)) (a5 := a5) (a6 := some (.list (someL x))) (a7 := a7) (a8 := a8) (a9 := a9) (a10 := a10) (a11 := a11) (a12 := a12) (st := st2) (m := 7) (fi := mRg1 (mC (.int 7))) (fe := mCall F__law_bent (mCons (mVar 0) (mCons (mVar 4) mNil))) (fun d => Val d) (by
      show (if rgOk 0 7 then Res.ok (rgU 0 7, yes) st2 else .bad) = _
      rw [if_pos (by decide)]) g2 fun d st h => by
    obtain ⟨z, st', e, f, g, l⟩ := bent_eq h hx
    refine ⟨.str z, st', ?_, val_str f, g, l⟩
    show (if hasOwnL [U.ref n, .d (.str x)] = false ∧ stOwn st = false then F__law_bent [.ref n, .d (.str x)] st else .bad) = _
    rw [if_pos ⟨rfl, gdw h⟩, e]
  have a : mLst (mCons (mCall F__law_of (mCons (mVar 0) (mCons (mVar 6) mNil))) (mCons (mCall F__law_of (mCons (mVar 0) (mCons (mVar 6) mNil))) mNil)) (fr n a1 a2 a3 (some (.str x)) a5 (some (.list (someL x))) a7 a8 a9 a10 a11 a12) st = .ok (.d (.list [v1, v2])) st2 :=
    ev_lst (l := [.d v1, .d v2]) (ds := [v1, v2]) (by rw [ev_cons, e1, ev_bind_ok, ev_cons, e2]; rfl) (by simp [sizeLine_eq]) rfl
  refine ⟨[v1, v2] ++ r, st3, ?_, fun d hd => ?_, g3, by rw [le3, l2, l1]⟩
  · have b : mOp (gD2 addD) (mLst (mCons (mCall F__law_of (mCons (mVar 0) (mCons (mVar 6) mNil))) (mCons (mCall F__law_of (mCons (mVar 0) (mCons (mVar 6) mNil))) mNil))) (mLc (mRg1 (mC (.int 7))) [12] (mG 12) (fun _ st => .ok true st) (mCall F__law_bent (mCons (mVar 0) (mCons (mVar 4) mNil)))) (fr n a1 a2 a3 (some (.str x)) a5 (some (.list (someL x))) a7 a8 a9 a10 a11 a12) st = .ok (.d (.list ([v1, v2] ++ r))) st3 := by
      rw [ev_op, a, ev_bind_ok, e3, ev_bind_ok]
      refine ev_g2 ?_
      show (if [v1, v2].length + r.length ≤ sizeLine then some (PyData.list ([v1, v2] ++ r)) else none) = _
      rw [if_pos (by rw [l3, sizeLine_eq]; exact (by decide : 2 + Int.toNat 7 ≤ 16777216))]
    unfold t7i
    show Res.bind (mOp _ _ _ _ st) _ = _
    rw [b]
    rfl
  · rcases List.mem_append.mp hd with hd | hd
    · simp only [List.mem_cons, List.not_mem_nil, or_false] at hd
      rcases hd with rfl | rfl
      · exact some_val hx _ m1
      · exact some_val hx _ m2
    · exact hr d hd
theorem t7_eq {x : Str} (hx : Fine x 120) (h : GW st n) : ∃ (b7 b8 b9 : Option D) (st' : Sto), t7 (fr n a1 a2 a3 (some (.str x)) a5 (some (.list (someL x))) a7 a8 a9 a10 a11 a12) st = .nx (fr n a1 a2 a3 (some (.str x)) a5 (some (.list (someL x))) b7 b8 b9 a10 a11 a12) st' ∧ GW st' n ∧ st'.length = st.length := by
  obtain ⟨vs, st1, e, hv, g, l⟩ := t7i_eq (a1 := a1) (a2 := a2) (a3 := a3) (a5 := a5) (a7 := a7) (a8 := a8) (a9 := a9) (a10 := a10) (a11 := a11) (a12 := a12) hx h
  obtain ⟨b7, b8, b9, e2⟩ := value_loop (n := n) (a1 := a1) (a2 := a2) (a3 := a3) (a4 := some (.str x)) (a5 := a5) (a6 := some (.list (someL x))) (a10 := a10) (a11 := a11) (a12 := a12) g.good.own.2 vs a7 a8 a9 hv
  refine ⟨b7, b8, b9, st1, ?_, g, l⟩
  show Res.toS _ (t7i _ st) _ = _
  rw [e, ev_toS_ok]
  exact e2
end K12
set_option Elab.async false
set_option linter.all false
set_option maxRecDepth 100000
set_option maxHeartbeats 1000000
namespace K12
open PySem TT
variable {st : Sto} {n : Nat} {a1 a2 a3 a4 a5 a6 a7 a8 a9 a10 a11 a12 : Option D}
/-! ## the wrong notes -/
def picks : List D := [.int (-1), .int 9, .bool true, .str "0", .str "-", .tuple [.int 0], .bool false]
theorem pick_facts : ∀ d ∈ picks, noteOk d = false ∧ noDct d = true ∧ PyData.canLay0 d = true ∧ PyData.depth d ≤ 1 := by
  intro d hd
  simp only [picks, List.mem_cons, List.not_mem_nil, or_false] at hd
  rcases hd with rfl | rfl | rfl | rfl | rfl | rfl | rfl <;> exact ⟨by decide +kernel, rfl, by decide +kernel, by decide +kernel⟩
theorem wrong_at_pick {l r : List D} {x : D} (hl : ∀ d ∈ l, isNote d = true) (hx : x ∈ picks) : wrongLine (.tuple (l ++ x :: r)) = [.int l.length] := by
  have e : wrongLine (.tuple (l ++ x :: r)) = wrongAt (l ++ x :: r) := by
    cases l <;> rfl
  rw [e]
  unfold wrongAt
  rw [badFrom_at l 0 x r (fun d hd => (noteOk_of (hl d hd)).1) (pick_facts x hx).1]
  simp
end K12
set_option Elab.async false
set_option linter.all false
set_option maxRecDepth 100000
set_option maxHeartbeats 1000000
namespace K12
open PySem TT
variable {st : Sto} {n : Nat} {a1 a2 a3 a4 a5 a6 a7 a8 a9 a10 a11 a12 : Option D}
theorem cut_lo (l : List D) (k : Nat) : cutL l none (some (k : Int)) = l.take k := by
  unfold cutL
  rw [HT.sIx_none, HT.sIx_nat, List.drop_zero, Nat.sub_zero]
  rcases Nat.le_total k l.length with h | h
  · rw [Nat.min_eq_left h]
  · rw [Nat.min_eq_right h, List.take_of_length_le h, List.take_of_length_le (Nat.le_refl _)]
theorem cut_hi (l : List D) (k : Nat) (h : k ≤ l.length) : cutL l (some (k : Int)) none = l.drop k := by
  unfold cutL
  rw [HT.sIx_none, HT.sIx_nat, Nat.min_eq_left h]
  exact List.take_of_length_le (by rw [List.length_drop]; omega)
theorem all_lay : ∀ (l : List D), (∀ d ∈ l, PyData.canLay0 d = true ∧ PyData.depth d ≤ 1) → PyData.canLayAll0 l = true ∧ PyData.depthAll l ≤ 1
  | [], _ => ⟨rfl, Nat.zero_le _⟩
  | d :: r, h => by
    obtain ⟨h1, h2⟩ := all_lay r fun z hz => h z (List.mem_cons_of_mem _ hz)
    obtain ⟨h3, h4⟩ := h d (List.mem_cons_self ..)
    refine ⟨?_, ?_⟩
    · show (PyData.canLay0 d && PyData.canLayAll0 r) = true
      rw [h3, h1]; rfl
    · show max (PyData.depth d) (PyData.depthAll r) ≤ 1
      omega
theorem row_ok {l : List D} (h : ∀ d ∈ l, noDct d = true ∧ PyData.canLay0 d = true ∧ PyData.depth d ≤ 1) : goodIn (.tuple l) = true ∧ shp (.tuple l) = true ∧ shp (.list l) = true := by
  obtain ⟨h1, h2⟩ := all_lay l fun d hd => (h d hd).2
  have q : (PyData.canLayAll0 l && decide (PyData.depthAll l + 1 ≤ 64)) = true := by
    rw [h1, Bool.true_and, decide_eq_true_eq]; omega
  refine ⟨?_, q, q⟩
  show l.all noDct = true
  rw [List.all_eq_true]
  exact fun d hd => (h d hd).1
theorem note_ok {d : D} (h : isNote d = true) : noDct d = true ∧ PyData.canLay0 d = true ∧ PyData.depth d ≤ 1 := by
  have q := note_nice h
  refine ⟨?_, q.lay, Nat.le_trans q.dp (by decide)⟩
  cases d <;> first | rfl | cases h
theorem int_nice {k : Nat} (h : k ≤ 60) : Nice (.int k) 7708 1 := (nice_nat (by omega)).mono (by decide) (by decide)
/-- the four wrong values -/
theorem four_ok {l : List D} {x : D} {k : Nat} (hl : ∀ d ∈ l, isNote d = true) (hz : l.length ≤ 60) (hx : x ∈ picks) (hk : k ≤ l.length) :
    ∀ p ∈ [((PyData.tuple (l.take k ++ x :: l.drop k), PyData.int k) : D × D), (.list l, .none), (.none, .none), (.str (lineOf l), .none)], wrongLine p.1 = [p.2] ∧ goodIn p.1 = true ∧ shp p.1 = true ∧ Nice p.2 7708 1 := by
  intro p hp
  have no : Nice .none 7708 1 := nice_none.mono (by decide) (by decide)
  simp only [List.mem_cons, List.not_mem_nil, or_false] at hp
  rcases hp with rfl | rfl | rfl | rfl
  · have w := wrong_at_pick (l := l.take k) (r := l.drop k) (fun d hd => hl d (List.mem_of_mem_take hd)) hx
    rw [List.length_take, Nat.min_eq_left hk] at w
    obtain ⟨g, s, _⟩ := row_ok (l := l.take k ++ x :: l.drop k) fun d hd => by
      rcases List.mem_append.mp hd with hd | hd
      · exact note_ok (hl d (List.mem_of_mem_take hd))
      · rcases List.mem_cons.mp hd with rfl | hd
        · exact (pick_facts _ hx).2
        · exact note_ok (hl d (List.mem_of_mem_drop hd))
    exact ⟨w, g, s, int_nice (by omega)⟩
  · obtain ⟨g, _, s⟩ := row_ok fun d hd => note_ok (hl d hd)
    exact ⟨rfl, rfl, s, no⟩
  · exact ⟨rfl, rfl, by decide +kernel, no⟩
  · exact ⟨rfl, rfl, shp_str (line_fine hl hz).str, no⟩
end K12
set_option Elab.async false
set_option linter.all false
set_option maxRecDepth 100000
set_option maxHeartbeats 1000000
namespace K12
open PySem TT
variable {st : Sto} {n : Nat} {a1 a2 a3 a4 a5 a6 a7 a8 a9 a10 a11 a12 : Option D}
def t8 : SemS := mAsgT (mCall F__law_draw (mCons (mVar 0) (mCons (mVar 2) mNil))) (mG 10)
def pickE : SemE := mCall F__law_of (mCons (mVar 0) (mCons (mTup (mCons (mNeg (mC (.int 1))) (mCons (mC (.int 9)) (mCons (mC (.bool true)) (mCons (mC (.str "0")) (mCons (mC (.str "-")) (mCons (mTup (mCons (mC (.int 0)) mNil)) (mCons (mC (.bool false)) mNil)))))))) mNil))
def t9 : SemS := mAsgT (mOp (gD2 addD) (mOp (gD2 addD) (mSl (mVar 3) mNoPart (mPart (mVar 10))) (mTup (mCons pickE mNil))) (mSl (mVar 3) (mPart (mVar 10)) mNoPart)) (mG 11)
def t10 : SemS := mFor (mSeqI (mTup (mCons (mTup (mCons (mVar 11) (mCons (mVar 10) mNil))) (mCons (mTup (mCons (mCB gList (mCons (mVar 3) mNil)) (mCons (mC .none) mNil))) (mCons (mTup (mCons (mC .none) (mCons (mC .none) mNil))) (mCons (mTup (mCons (mVar 4) (mCons (mC .none) mNil))) mNil)))))) nPut nBody
theorem t8_eq {m : Int} (h1 : 1 ≤ m) (h2 : m ≤ 60) (h : GW st n) : ∃ (k : Nat) (st' : Sto), t8 (fr n a1 (some (.int m)) a3 a4 a5 a6 a7 a8 a9 a10 a11 a12) st = .nx (fr n a1 (some (.int m)) a3 a4 a5 a6 a7 a8 a9 (some (.int k)) a11 a12) st' ∧ k < m.toNat ∧ GW st' n ∧ st'.length = st.length := by
  obtain ⟨r, st1, e, h3, h4, g, l⟩ := call_draw (en := fr n a1 (some (.int m)) a3 a4 a5 a6 a7 a8 a9 a10 a11 a12) (f := mVar 2) (lim := m) (st := st) rfl rfl h h1 (by omega)
  refine ⟨r.toNat, st1, ?_, by omega, g, l⟩
  unfold t8
  rw [ev_asg, e, Int.toNat_of_nonneg h3]
  rfl
theorem t9_eq {l : List D} {k : Nat} (hz : l.length ≤ 60) (hk : k ≤ l.length) (h : GW st n) : ∃ x ∈ picks, ∃ (st' : Sto), t9 (fr n a1 a2 (some (.tuple l)) a4 a5 a6 a7 a8 a9 (some (.int k)) a11 a12) st = .nx (fr n a1 a2 (some (.tuple l)) a4 a5 a6 a7 a8 a9 (some (.int k)) (some (.tuple (l.take k ++ x :: l.drop k))) a12) st' ∧ GW st' n ∧ st'.length = st.length := by
  have t : mTup (mCons (mNeg (mC (.int 1))) (mCons (mC (.int 9)) (mCons (mC (.bool true)) (mCons (mC (.str "0")) (mCons (mC (.str "-")) (mCons (mTup (mCons (mC (.int 0)) mNil)) (mCons (mC (.bool false)) mNil))))))) (fr n a1 a2 (some (.tuple l)) a4 a5 a6 a7 a8 a9 (some (.int k)) a11 a12) st = .ok (.d (.tuple picks)) st := by
    have e1 : mTup (mCons (mC (.int 0)) mNil) (fr n a1 a2 (some (.tuple l)) a4 a5 a6 a7 a8 a9 (some (.int k)) a11 a12) st = .ok (.d (.tuple [.int 0])) st := ev_tup (l := [.d (.int 0)]) rfl (by simp [sizeLine_eq]) rfl
    have e0 : mNeg (mC (.int 1)) (fr n a1 a2 (some (.tuple l)) a4 a5 a6 a7 a8 a9 (some (.int k)) a11 a12) st = .ok (.d (.int (-1))) st := rfl
    refine ev_tup (l := picks.map U.d) ?_ (by simp [sizeLine_eq, picks]) rfl
    rw [ev_cons, e0, ev_bind_ok]
    iterate 4 rw [ev_cons, ev_c, ev_bind_ok]
    rw [ev_cons, e1, ev_bind_ok]
    rfl
  obtain ⟨x, hx, st1, e, g, le⟩ := call_of (l := picks) (f := mTup (mCons (mNeg (mC (.int 1))) (mCons (mC (.int 9)) (mCons (mC (.bool true)) (mCons (mC (.str "0")) (mCons (mC (.str "-")) (mCons (mTup (mCons (mC (.int 0)) mNil)) (mCons (mC (.bool false)) mNil)))))))) rfl t h (by simp [picks]) (by simp [picks])
  refine ⟨x, hx, st1, ?_, g, le⟩
  have p1 : mSl (mVar 3) mNoPart (mPart (mVar 10)) (fr n a1 a2 (some (.tuple l)) a4 a5 a6 a7 a8 a9 (some (.int k)) a11 a12) st = .ok (.d (.tuple (l.take k))) st := by
    have q : mSl (mVar 3) mNoPart (mPart (mVar 10)) (fr n a1 a2 (some (.tuple l)) a4 a5 a6 a7 a8 a9 (some (.int k)) a11 a12) st = .ok (.d (.tuple (cutL l none (some (k : Int))))) st := rfl
    rw [q, cut_lo]
  have p2 : mSl (mVar 3) (mPart (mVar 10)) mNoPart (fr n a1 a2 (some (.tuple l)) a4 a5 a6 a7 a8 a9 (some (.int k)) a11 a12) st1 = .ok (.d (.tuple (l.drop k))) st1 := by
    have q : mSl (mVar 3) (mPart (mVar 10)) mNoPart (fr n a1 a2 (some (.tuple l)) a4 a5 a6 a7 a8 a9 (some (.int k)) a11 a12) st1 = .ok (.d (.tuple (cutL l (some (k : Int)) none))) st1 := rfl
    rw [q, cut_hi l k hk]
  have p3 : mTup (mCons pickE mNil) (fr n a1 a2 (some (.tuple l)) a4 a5 a6 a7 a8 a9 (some (.int k)) a11 a12) st = .ok (.d (.tuple [x])) st1 := by
    refine ev_tup (l := [.d x]) ?_ (by simp [sizeLine_eq]) rfl
    unfold pickE
    rw [ev_cons, e]
    rfl
  have z1 : (l.take k).length ≤ 60 := by rw [List.length_take]; omega
  have z2 : (l.drop k).length ≤ 60 := by rw [List.length_drop]; omega
  unfold t9
  rw [ev_asg, ev_op, ev_op, p1, ev_bind_ok, p3, ev_bind_ok, ev_g2 (r := .tuple (l.take k ++ [x])) (by
    show (if (l.take k).length + [x].length ≤ sizeLine then some (PyData.tuple (l.take k ++ [x])) else none) = _
    rw [if_pos (by rw [sizeLine_eq, List.length_singleton]; omega)]), ev_bind_ok, p2, ev_bind_ok, ev_g2 (r := .tuple (l.take k ++ x :: l.drop k)) (by
    show (if (l.take k ++ [x]).length + (l.drop k).length ≤ sizeLine then some (PyData.tuple ((l.take k ++ [x]) ++ l.drop k)) else none) = _
    rw [if_pos (by rw [sizeLine_eq, List.length_append, List.length_singleton]; omega), List.append_assoc]
    rfl)]
  rfl
end K12
set_option Elab.async false
set_option linter.all false
set_option maxRecDepth 100000
set_option maxHeartbeats 1000000
namespace K12
open PySem TT
variable {st : Sto} {n : Nat} {a1 a2 a3 a4 a5 a6 a7 a8 a9 a10 a11 a12 : Option D}
theorem t10_eq {l : List D} {x : D} {k : Nat} (hl : ∀ d ∈ l, isNote d = true) (hz : l.length ≤ 60) (hx : x ∈ picks) (hk : k ≤ l.length) (h : GW st n) :
    ∃ b7 b9 : Option D, t10 (fr n a1 a2 (some (.tuple l)) (some (.str (lineOf l))) a5 a6 a7 a8 a9 (some (.int k)) (some (.tuple (l.take k ++ x :: l.drop k))) a12) st = .nx (fr n a1 a2 (some (.tuple l)) (some (.str (lineOf l))) a5 a6 b7 a8 b9 (some (.int k)) (some (.tuple (l.take k ++ x :: l.drop k))) a12) st := by
  obtain ⟨b7, b9, e⟩ := note_loop (st := st) (n := n) (a1 := a1) (a2 := a2) (a3 := some (.tuple l)) (a4 := some (.str (lineOf l))) (a5 := a5) (a6 := a6) (a8 := a8) (a10 := some (.int k)) (a11 := some (.tuple (l.take k ++ x :: l.drop k))) (a12 := a12) h.good.own.2 _ a7 a9 (four_ok hl hz hx hk)
  refine ⟨b7, b9, ?_⟩
  have s : ∀ {f g : SemE} {d1 d2 : D} {en : Nv}, f en st = .ok (.d d1) st → g en st = .ok (.d d2) st → mTup (mCons f (mCons g mNil)) en st = .ok (.d (.tuple [d1, d2])) st := fun {f g d1 d2 en} h1 h2 => ev_tup (l := [.d d1, .d d2]) (by rw [ev_cons, h1, ev_bind_ok, ev_cons, h2]; rfl) (by simp [sizeLine_eq]) rfl
  obtain ⟨E, hE⟩ : ∃ E : Nv, E = fr n a1 a2 (some (.tuple l)) (some (.str (lineOf l))) a5 a6 a7 a8 a9 (some (.int k)) (some (.tuple (l.take k ++ x :: l.drop k))) a12 := ⟨_, rfl⟩
  have q1 : mTup (mCons (mVar 11) (mCons (mVar 10) mNil)) E st = .ok (.d (.tuple [.tuple (l.take k ++ x :: l.drop k), .int k])) st := s (by rw [hE]; rfl) (by rw [hE]; rfl)
  have gl : gList [.d (.tuple l)] st = .ok (.d (.list l)) st := by
    show (match allD (l.map U.d) with
      | some l => Res.ok (U.d (.list l)) st
      | none => .bad) = _
    rw [allD_map]
  have q2 : mTup (mCons (mCB gList (mCons (mVar 3) mNil)) (mCons (mC .none) mNil)) E st = .ok (.d (.tuple [.list l, .none])) st := s (by rw [hE]; exact gl) rfl
  have q3 : mTup (mCons (mC .none) (mCons (mC .none) mNil)) E st = .ok (.d (.tuple [.none, .none])) st := s rfl rfl
  have q4 : mTup (mCons (mVar 4) (mCons (mC .none) mNil)) E st = .ok (.d (.tuple [.str (lineOf l), .none])) st := s (by rw [hE]; rfl) rfl
  unfold t10
  rw [← hE]
  show Res.toS E (Res.bind (mTup _ E st) fun u st => match iterOf u with
    | some l => Res.ok (l, yes) st
    | none => .bad) _ = _
  rw [ev_tup (s := st) (l := [.d (.tuple [.tuple (l.take k ++ x :: l.drop k), .int k]), .d (.tuple [.list l, .none]), .d (.tuple [.none, .none]), .d (.tuple [.str (lineOf l), .none])]) (ds := [.tuple [.tuple (l.take k ++ x :: l.drop k), .int k], .tuple [.list l, .none], .tuple [.none, .none], .tuple [.str (lineOf l), .none]]) (by
    rw [ev_cons, q1, ev_bind_ok, ev_cons, q2, ev_bind_ok, ev_cons, q3, ev_bind_ok, ev_cons, q4]
    rfl) (by simp [sizeLine_eq]) rfl, hE]
  exact e
def tbody : SemS := mSeq t1 (mSeq t2 (mSeq t3 (mSeq t4 (mSeq t5 (mSeq t6 (mSeq t7 (mSeq t8 (mSeq t9 t10))))))))
theorem f_right : f__law_right = mSeq (mFor (mRg1 (mC (.int 8))) (mG 1) tbody) (mRet (mC (.bool true))) := rfl
theorem turn_eq (h : GW st n) : ∃ (b2 b3 b4 b5 b6 b7 b8 b9 b10 b11 : Option D) (st' : Sto), tbody (fr n a1 a2 a3 a4 a5 a6 a7 a8 a9 a10 a11 a12) st = .nx (fr n a1 b2 b3 b4 b5 b6 b7 b8 b9 b10 b11 a12) st' ∧ GW st' n ∧ st'.length = st.length := by
  obtain ⟨m, s1, e1, m1, m2, g1, l1⟩ := t1_eq (a1 := a1) (a2 := a2) (a3 := a3) (a4 := a4) (a5 := a5) (a6 := a6) (a7 := a7) (a8 := a8) (a9 := a9) (a10 := a10) (a11 := a11) (a12 := a12) h
  obtain ⟨l, s2, e2, hlen, hl, g2, l2⟩ := t2_eq (a1 := a1) (a3 := a3) (a4 := a4) (a5 := a5) (a6 := a6) (a7 := a7) (a8 := a8) (a9 := a9) (a10 := a10) (a11 := a11) (a12 := a12) g1 m1 m2
  have hz : l.length ≤ 60 := by omega
  have h0 : l ≠ [] := fun z => by rw [z] at hlen; simp at hlen; omega
  obtain ⟨b7, b8, b9, s7, e7, g7, l7⟩ := t7_eq (a1 := a1) (a2 := some (.int m)) (a3 := some (.tuple l)) (a5 := some (.list [.str (lineOf l), .str (lineOf l), .tuple l, .tuple l])) (a7 := a7) (a8 := a8) (a9 := a9) (a10 := a10) (a11 := a11) (a12 := a12) (line_fine hl hz) g2
  obtain ⟨k, s8, e8, hk, g8, l8⟩ := t8_eq (a1 := a1) (a3 := some (.tuple l)) (a4 := some (.str (lineOf l))) (a5 := some (.list [.str (lineOf l), .str (lineOf l), .tuple l, .tuple l])) (a6 := some (.list (someL (lineOf l)))) (a7 := b7) (a8 := b8) (a9 := b9) (a10 := a10) (a11 := a11) (a12 := a12) m1 m2 g7
  have hk2 : k ≤ l.length := by omega
  obtain ⟨x, hx, s9, e9, g9, l9⟩ := t9_eq (a1 := a1) (a2 := some (.int m)) (a4 := some (.str (lineOf l))) (a5 := some (.list [.str (lineOf l), .str (lineOf l), .tuple l, .tuple l])) (a6 := some (.list (someL (lineOf l)))) (a7 := b7) (a8 := b8) (a9 := b9) (a11 := a11) (a12 := a12) hz hk2 g8
  obtain ⟨c7, c9, e10⟩ := t10_eq (a1 := a1) (a2 := some (.int m)) (a5 := some (.list [.str (lineOf l), .str (lineOf l), .tuple l, .tuple l])) (a6 := some (.list (someL (lineOf l)))) (a7 := b7) (a8 := b8) (a9 := b9) (a12 := a12) hl hz hx hk2 g9
  exact ⟨_, _, _, _, _, _, _, _, _, _, s9, seq_nx e1 (seq_nx e2 (seq_nx (t3_eq hl hz g2) (seq_nx (t4_eq hl h0 hz g2) (seq_nx (t5_eq hl hz g2) (seq_nx (t6_eq _) (seq_nx e7 (seq_nx e8 (seq_nx e9 e10)))))))), g9, by omega⟩
end K12
set_option Elab.async false
set_option linter.all false
set_option maxRecDepth 100000
set_option maxHeartbeats 1000000
namespace K12
open PySem TT
variable {st : Sto} {n : Nat}
theorem turns : ∀ (items : List D) (a1 a2 a3 a4 a5 a6 a7 a8 a9 a10 a11 a12 : Option D) (st : Sto), GW st n → ∃ (E : Nv) (st' : Sto), forL (mG 1) tbody yes (items.map U.d) (fr n a1 a2 a3 a4 a5 a6 a7 a8 a9 a10 a11 a12) st = .nx E st' ∧ GW st' n ∧ st'.length = st.length
  | [], a1, a2, a3, a4, a5, a6, a7, a8, a9, a10, a11, a12, st, h => ⟨_, st, rfl, h, rfl⟩
  | d :: r, a1, a2, a3, a4, a5, a6, a7, a8, a9, a10, a11, a12, st, h => by
    obtain ⟨b2, b3, b4, b5, b6, b7, b8, b9, b10, b11, st1, e, g, l⟩ := turn_eq (a1 := some d) (a2 := a2) (a3 := a3) (a4 := a4) (a5 := a5) (a6 := a6) (a7 := a7) (a8 := a8) (a9 := a9) (a10 := a10) (a11 := a11) (a12 := a12) h
    obtain ⟨E, st2, e2, g2, l2⟩ := turns r (some d) b2 b3 b4 b5 b6 b7 b8 b9 b10 b11 a12 st1 g
    refine ⟨E, st2, ?_, g2, by omega⟩
    show (match tbody (fr n (some d) a2 a3 a4 a5 a6 a7 a8 a9 a10 a11 a12) st with
      | .nx en st => forL (mG 1) tbody yes (r.map U.d) en st
      | .ct en st => forL (mG 1) tbody yes (r.map U.d) en st
      | .bk en st => .nx en st
      | z => z) = _
    rw [e]
    exact e2
theorem right_eq (h : GW st n) : ∃ st' : Sto, F__law_right [.ref n] st = .ok (.d (.bool true)) st' ∧ GW st' n ∧ st'.length = st.length := by
  obtain ⟨E, st1, e, g, l⟩ := turns ((List.range 8).map fun i => .int (0 + (i : Nat))) none none none none none none none none none none none none st h
  refine ⟨st1, ?_, g, l⟩
  refine ev_runF (g := f__law_right) ?_ rfl (gdw g)
  rw [f_right]
  refine seq_nx (en1 := E) (s := st1) ?_ rfl
  show Res.toS _ (if rgOk 0 8 then Res.ok (rgU 0 8, yes) st else .bad) _ = _
  rw [if_pos (by decide), ev_toS_ok]
  exact e
end K12
set_option Elab.async false
set_option linter.all false
set_option maxRecDepth 100000
set_option maxHeartbeats 1000000
namespace K12
open PySem TT
variable {st : Sto}
def lapE : SemE := mCall F__law_right (mCons (mCall F__law_well (mCons (mVar 0) (mCons (mVar 1) mNil))) mNil)
theorem lap_eq (ns : List Int) (lap : Nat) (h : Good st) : ∃ st' : Sto, lapE [some (.d (.list (ns.map PyData.int))), some (.d (.int lap))] st = .ok (.d (.bool true)) st' ∧ Good st' := by
  obtain ⟨x, y, z, e⟩ := well_eq ns lap h
  have g : GW (st ++ [.lst [.d (.int x), .d (.int y), .d (.int z)]]) st.length := ⟨fun c hc => by
    rcases List.mem_append.mp hc with q | q
    · exact h c q
    · rw [List.mem_singleton] at q
      exact ⟨x, y, z, q⟩, by simp⟩
  obtain ⟨st1, e1, g1, _⟩ := right_eq g
  refine ⟨st1, ?_, g1.good⟩
  have b : mCall F__law_well (mCons (mVar 0) (mCons (mVar 1) mNil)) [some (.d (.list (ns.map PyData.int))), some (.d (.int lap))] st = .ok (.ref st.length) (st ++ [.lst [.d (.int x), .d (.int y), .d (.int z)]]) := by
    show (if hasOwnL [U.d (.list (ns.map PyData.int)), .d (.int lap)] = false ∧ stOwn st = false then F__law_well [.d (.list (ns.map PyData.int)), .d (.int lap)] st else .bad) = _
    rw [if_pos ⟨rfl, h.own.1⟩, e]
  unfold lapE
  rw [ev_call, ev_cons, b]
  show (if hasOwnL [U.ref st.length] = false ∧ stOwn (st ++ [.lst [.d (.int x), .d (.int y), .d (.int z)]]) = false then F__law_right [.ref st.length] (st ++ [.lst [.d (.int x), .d (.int y), .d (.int z)]]) else .bad) = _
  rw [if_pos ⟨rfl, gdw g⟩, e1]
theorem laps (ns : List Int) : ∀ (items : List Nat) (acc : List Bool) (st : Sto), Good st → acc.all id = true → ∃ (r : List Bool) (st' : Sto), lcL (mG 1) (fun _ st => .ok true st) lapE yes [some (.d (.list (ns.map PyData.int))), none] (items.map fun i => U.d (.int (i : Nat))) (acc.map fun b => U.d (.bool b)) st = .ok (r.map fun b => U.d (.bool b)) st' ∧ r.all id = true ∧ Good st'
  | [], acc, st, h, ha => ⟨acc, st, rfl, ha, h⟩
  | i :: r, acc, st, h, ha => by
    obtain ⟨st1, e, g⟩ := lap_eq ns i h
    obtain ⟨rs, st2, e2, h2, g2⟩ := laps ns r (acc ++ [true]) st1 g (by rw [List.all_append, ha]; rfl)
    refine ⟨rs, st2, ?_, h2, g2⟩
    show (match lapE [some (.d (.list (ns.map PyData.int))), some (.d (.int i))] st with
      | .ok y st3 => lcL (mG 1) (fun _ st => .ok true st) lapE yes [some (.d (.list (ns.map PyData.int))), none] (r.map fun i => U.d (.int (i : Nat))) ((acc.map fun b => U.d (.bool b)) ++ [y]) st3
      | _ => .bad) = _
    rw [e, ← e2, List.map_append]
    rfl
end K12
set_option Elab.async false
set_option linter.all false
set_option maxRecDepth 100000
set_option maxHeartbeats 1000000
namespace K12
open PySem TT
theorem bools_all : ∀ r : List Bool, boolsOf ((r.map PyData.bool).map U.d) = some r
  | [] => rfl
  | b :: r => by
    show (match boolsOf ((r.map PyData.bool).map U.d) with
      | some l => some (b :: l)
      | none => none) = _
    rw [bools_all r]
theorem law_eq (ns : List Int) : ∃ st, F_law [.d (.list (ns.map PyData.int))] [] = .ok (.d (.bool true)) st := by
  obtain ⟨m, hm⟩ : ∃ m : Int, m = (if (if (3 : Int) < ((ns.map PyData.int).map U.d).length then (3 : Int) else ((ns.map PyData.int).map U.d).length) > 1 then (if (3 : Int) < ((ns.map PyData.int).map U.d).length then (3 : Int) else ((ns.map PyData.int).map U.d).length) else 1) := ⟨_, rfl⟩
  have hm2 : 0 ≤ m ∧ m ≤ 3 := by
    rw [hm]
    split <;> split <;> omega
  obtain ⟨r, st1, e, hr, g⟩ := laps ns (List.range m.toNat) [] [] (fun _ z => nomatch z) rfl
  refine ⟨st1, ?_⟩
  have hi : mRg1 (mCB gMax2 (mCons (mC (.int 1)) (mCons (mCB gMin2 (mCons (mCB gLen (mCons (mVar 0) mNil)) (mCons (mC (.int 3)) mNil))) mNil))) [some (.d (.list (ns.map PyData.int))), none] [] = .ok (rgU 0 m, yes) [] := by
    rw [hm]
    show (if rgOk 0 _ then Res.ok (rgU 0 _, yes) [] else .bad) = _
    rw [← hm, if_pos (by unfold rgOk; omega)]
  have hq : rgU 0 m = (List.range m.toNat).map fun i => U.d (.int (i : Nat)) := by
    unfold rgU
    rw [Int.sub_zero]
    exact List.map_congr_left fun i _ => by rw [Int.zero_add]
  have al : allD (r.map fun b => U.d (.bool b)) = some (r.map PyData.bool) := allD_mapf _ _
  have c : mLc (mRg1 (mCB gMax2 (mCons (mC (.int 1)) (mCons (mCB gMin2 (mCons (mCB gLen (mCons (mVar 0) mNil)) (mCons (mC (.int 3)) mNil))) mNil)))) [1] (mG 1) (fun _ st => .ok true st) lapE [some (.d (.list (ns.map PyData.int))), none] [] = .ok (.d (.list (r.map PyData.bool))) st1 := by
    show Res.bind (mRg1 _ [some (.d (.list (ns.map PyData.int))), none] []) _ = _
    rw [hi, ev_bind_ok]
    show (if enOwn [some (U.d (.list (ns.map PyData.int))), none] = false ∧ stOwn [] = false then (lcL (mG 1) (fun _ st => .ok true st) lapE yes [some (.d (.list (ns.map PyData.int))), none] (rgU 0 m) [] []).bind fun l st => (match allD l with
      | some l => Res.ok (U.d (.list l)) st
      | none => .bad) else .bad) = _
    have e' : lcL (mG 1) (fun _ st => .ok true st) lapE yes [some (.d (.list (ns.map PyData.int))), none] ((List.range m.toNat).map fun i => U.d (.int (i : Nat))) [] [] = .ok (r.map fun b => U.d (.bool b)) st1 := e
    rw [if_pos ⟨rfl, rfl⟩, hq, e', ev_bind_ok, al]
  refine ev_runF (g := f_law) ?_ rfl g.own.1
  show f_law [some (.d (.list (ns.map PyData.int))), none] [] = _
  unfold f_law
  rw [ev_ret, ev_cb, ev_cons]
  show Res.toS _ (Res.bind (Res.bind (mLc _ [1] (mG 1) _ lapE [some (.d (.list (ns.map PyData.int))), none] []) _) _) _ = _
  rw [c, ev_bind_ok, ev_nil, ev_bind_ok, ev_bind_ok]
  have z : gAllL [.d (.list (r.map PyData.bool))] st1 = .ok (.d (.bool true)) st1 := by
    show (match boolsOf ((r.map PyData.bool).map U.d) with
      | some l => Res.ok (U.d (.bool (l.all id))) st1
      | none => .bad) = _
    rw [bools_all, ← hr]
  rw [z]
  rfl
end K12
set_option Elab.async false
set_option linter.all false
set_option maxRecDepth 100000
set_option maxHeartbeats 0
namespace K12
open PySem PySem.Spec PyProof.Rows L2 LamX NdefX TT
def dd_is_whole : He.DefD := ⟨("is_whole", none), "is_whole", "is_whole", defArgs s_is_whole, defBody s_is_whole, defScope s_is_whole, [], []⟩
def dd_is_number : He.DefD := ⟨("is_number", none), "is_number", "is_number", defArgs s_is_number, defBody s_is_number, defScope s_is_number, [], []⟩
def dd_is_figures : He.DefD := ⟨("is_figures", none), "is_figures", "is_figures", defArgs s_is_figures, defBody s_is_figures, defScope s_is_figures, [], []⟩
def dd_wrong_at : He.DefD := ⟨("wrong_at", none), "wrong_at", "wrong_at", defArgs s_wrong_at, defBody s_wrong_at, defScope s_wrong_at, [], []⟩
def dd_wrong_from_one : He.DefD := ⟨("wrong_from_one", none), "wrong_from_one", "wrong_from_one", defArgs s_wrong_from_one, defBody s_wrong_from_one, defScope s_wrong_from_one, [], []⟩
def dd_line_of : He.DefD := ⟨("line_of", none), "line_of", "line_of", defArgs s_line_of, defBody s_line_of, defScope s_line_of, [], []⟩
def dd_notes_told : He.DefD := ⟨("notes_told", none), "notes_told", "notes_told", defArgs s_notes_told, defBody s_notes_told, defScope s_notes_told, [], []⟩
def dd_wrong_line : He.DefD := ⟨("wrong_line", none), "wrong_line", "wrong_line", defArgs s_wrong_line, defBody s_wrong_line, defScope s_wrong_line, [], []⟩
def dd_notes_line : He.DefD := ⟨("notes_line", none), "notes_line", "notes_line", defArgs s_notes_line, defBody s_notes_line, defScope s_notes_line, [], []⟩
def dd_read_notes : He.DefD := ⟨("read_notes", none), "read_notes", "read_notes", defArgs s_read_notes, defBody s_read_notes, defScope s_read_notes, [], []⟩
def dd__law_well : He.DefD := ⟨("_law_well", none), "_law_well", "_law_well", defArgs s__law_well, defBody s__law_well, defScope s__law_well, [], []⟩
def dd__law_draw : He.DefD := ⟨("_law_draw", none), "_law_draw", "_law_draw", defArgs s__law_draw, defBody s__law_draw, defScope s__law_draw, [], []⟩
def dd__law_of : He.DefD := ⟨("_law_of", none), "_law_of", "_law_of", defArgs s__law_of, defBody s__law_of, defScope s__law_of, [], []⟩
def dd__law_is : He.DefD := ⟨("_law_is", none), "_law_is", "_law_is", defArgs s__law_is, defBody s__law_is, defScope s__law_is, [], []⟩
def dd__law_line : He.DefD := ⟨("_law_line", none), "_law_line", "_law_line", defArgs s__law_line, defBody s__law_line, defScope s__law_line, [], []⟩
def dd__law_read : He.DefD := ⟨("_law_read", none), "_law_read", "_law_read", defArgs s__law_read, defBody s__law_read, defScope s__law_read, [], []⟩
def dd__law_bent : He.DefD := ⟨("_law_bent", none), "_law_bent", "_law_bent", defArgs s__law_bent, defBody s__law_bent, defScope s__law_bent, [], []⟩
def dd__law_told : He.DefD := ⟨("_law_told", none), "_law_told", "_law_told", defArgs s__law_told, defBody s__law_told, defScope s__law_told, [], []⟩
def dd__law_right : He.DefD := ⟨("_law_right", none), "_law_right", "_law_right", defArgs s__law_right, defBody s__law_right, defScope s__law_right, [], []⟩
def dd_law : He.DefD := ⟨("law", none), "law", "law", defArgs s_law, defBody s_law, defScope s_law, [], []⟩
def dd_InvalidLine : He.DefD := ⟨("InvalidLine", some "__init__"), "__init__", "InvalidLine.__init__", defArgs s_InvalidLine, defBody s_InvalidLine, defScope s_InvalidLine, [], []⟩
def dd_InvalidNotes : He.DefD := ⟨("InvalidNotes", some "__init__"), "__init__", "InvalidNotes.__init__", defArgs s_InvalidNotes, defBody s_InvalidNotes, defScope s_InvalidNotes, [], []⟩
def hfn : List He.DefD := [dd_is_whole, dd_is_number, dd_is_figures, dd_wrong_at, dd_wrong_from_one, dd_line_of, dd_notes_told, dd_wrong_line, dd_notes_line, dd_read_notes, dd__law_well, dd__law_draw, dd__law_of, dd__law_is, dd__law_line, dd__law_read, dd__law_bent, dd__law_told, dd__law_right, dd_law, dd_InvalidLine, dd_InvalidNotes]
def hfa : List He.Fa := [.glo "is_whole", .glo "is_number", .glo "is_figures", .glo "wrong_at", .glo "wrong_from_one", .glo "line_of", .glo "notes_told", .glo "wrong_line", .glo "notes_line", .glo "read_notes", .glo "_law_well", .glo "_law_draw", .glo "_law_of", .glo "_law_is", .glo "_law_line", .glo "_law_read", .glo "_law_bent", .glo "_law_told", .glo "_law_right", .glo "law", .free "abs", .free "all", .free "bool", .free "divmod", .free "enumerate", .free "int", .free "isinstance", .free "len", .free "list", .free "max", .free "min", .free "range", .free "repr", .free "str", .free "tuple", .str "FIGURES" "0123456789", .int "MOST_HIGH" 8, .str "OPEN" "-", .glo "InvalidLine", .noat "InvalidLine" "given", .glo "InvalidNotes", .noat "InvalidNotes" "index", .exm "InvalidLine" "InvalidNotes" false, .exm "InvalidNotes" "InvalidNotes" true, .exm "InvalidLine" "InvalidLine" true, .exm "InvalidNotes" "InvalidLine" false]
def htf : List He.Defn := [("wrong_line", none), ("_law_right", none)]
def hex (K : PySem.W.Frag) : Bool := noLst K && (oexB K (He.ga K "InvalidLine") && (xfB K (He.ga K "InvalidLine") && (decide (PySem.W.findIn K (.ref (He.ga K "InvalidLine")) "__init__" = some (some (.ref (He.ma K (He.ga K "InvalidLine") "__init__")))) && (decide (PySem.W.typeIn K (.ref (He.ma K (He.ga K "InvalidLine") "__init__")) = some (.type "function")) && (oexB K (He.ga K "InvalidNotes") && (xfB K (He.ga K "InvalidNotes") && (decide (PySem.W.findIn K (.ref (He.ga K "InvalidNotes")) "__init__" = some (some (.ref (He.ma K (He.ga K "InvalidNotes") "__init__")))) && (decide (PySem.W.typeIn K (.ref (He.ma K (He.ga K "InvalidNotes") "__init__")) = some (.type "function")) && (!decide (tb K "wrong_line" = tb K "_law_right"))))))))))
abbrev R : PySem.W.OpenRow := PySem.W.OpenLaw.row PySem.Challenge.rw_plainvoices_k12_whole_lines_of_notes
abbrev hk : PySem.W.Hook := He.hookX 6 hfa hfn [] htf hex
def ob (s : PySem.W.SharedT) : He.AlX := He.obsX 6 hfa hfn [] htf hex (HandSHeadRun.getT s)
theorem ob_eq (s : PySem.W.SharedT) : ob s = hk.obs s.abs := He.obsX_eq (HandSHeadRun.getT_eq s)
theorem run (w : World) : HandSHeadRun.RunEq R (PySem.W.view R.prog [30]) hk ob 2000 ["VoiceError", "InvalidLine", "InvalidNotes", "FIGURES", "is_whole", "is_number", "is_figures", "wrong_at", "wrong_from_one", "MOST_HIGH", "OPEN", "line_of", "notes_told", "wrong_line", "notes_line", "read_notes", "_law_well", "_law_draw", "_law_of", "_law_is", "_law_line", "_law_read", "_law_bent", "_law_told", "_law_right"] w := by
  intro os
  kernel_rfl
theorem facts {w : World} {K : PySem.W.Frag} {h h0 base : Heap} {mg : Str → Option Value} (X : K.In h) (Gn : h.Ns mainGlobals mg) (c : He.SaysX hfa hfn [] htf hex w h0 K) (TB : ∀ p ∈ htf.map (He.cT K), TabB base mg p.1 p.2) : Fx K mg base := by
  have cd := c.t.d
  have hx : hex K = true := c.more
  unfold hex at hx
  simp only [Bool.and_eq_true] at hx
  obtain ⟨h_noLst, h_e_InvalidLine, h_xf_InvalidLine, h_iC_InvalidLine, h_tI_InvalidLine, h_e_InvalidNotes, h_xf_InvalidNotes, h_iC_InvalidNotes, h_tI_InvalidNotes, h_ne_wrong_line__law_right⟩ := hx
  exact {
    g_is_whole := He.glo_ok X Gn (cd.fact 0 (f := .glo "is_whole") rfl)
    d_is_whole := (cd.def_ 0 (d := dd_is_whole) rfl).imp fun _ F => funD_fun F
    g_is_number := He.glo_ok X Gn (cd.fact 1 (f := .glo "is_number") rfl)
    d_is_number := (cd.def_ 1 (d := dd_is_number) rfl).imp fun _ F => funD_fun F
    g_is_figures := He.glo_ok X Gn (cd.fact 2 (f := .glo "is_figures") rfl)
    d_is_figures := (cd.def_ 2 (d := dd_is_figures) rfl).imp fun _ F => funD_fun F
    g_wrong_at := He.glo_ok X Gn (cd.fact 3 (f := .glo "wrong_at") rfl)
    d_wrong_at := (cd.def_ 3 (d := dd_wrong_at) rfl).imp fun _ F => funD_fun F
    g_wrong_from_one := He.glo_ok X Gn (cd.fact 4 (f := .glo "wrong_from_one") rfl)
    d_wrong_from_one := (cd.def_ 4 (d := dd_wrong_from_one) rfl).imp fun _ F => funD_fun F
    g_line_of := He.glo_ok X Gn (cd.fact 5 (f := .glo "line_of") rfl)
    d_line_of := (cd.def_ 5 (d := dd_line_of) rfl).imp fun _ F => funD_fun F
    g_notes_told := He.glo_ok X Gn (cd.fact 6 (f := .glo "notes_told") rfl)
    d_notes_told := (cd.def_ 6 (d := dd_notes_told) rfl).imp fun _ F => funD_fun F
    g_wrong_line := He.glo_ok X Gn (cd.fact 7 (f := .glo "wrong_line") rfl)
    d_wrong_line := (cd.def_ 7 (d := dd_wrong_line) rfl).imp fun _ F => funD_fun F
    g_notes_line := He.glo_ok X Gn (cd.fact 8 (f := .glo "notes_line") rfl)
    d_notes_line := (cd.def_ 8 (d := dd_notes_line) rfl).imp fun _ F => funD_fun F
    g_read_notes := He.glo_ok X Gn (cd.fact 9 (f := .glo "read_notes") rfl)
    d_read_notes := (cd.def_ 9 (d := dd_read_notes) rfl).imp fun _ F => funD_fun F
    g__law_well := He.glo_ok X Gn (cd.fact 10 (f := .glo "_law_well") rfl)
    d__law_well := (cd.def_ 10 (d := dd__law_well) rfl).imp fun _ F => funD_fun F
    g__law_draw := He.glo_ok X Gn (cd.fact 11 (f := .glo "_law_draw") rfl)
    d__law_draw := (cd.def_ 11 (d := dd__law_draw) rfl).imp fun _ F => funD_fun F
    g__law_of := He.glo_ok X Gn (cd.fact 12 (f := .glo "_law_of") rfl)
    d__law_of := (cd.def_ 12 (d := dd__law_of) rfl).imp fun _ F => funD_fun F
    g__law_is := He.glo_ok X Gn (cd.fact 13 (f := .glo "_law_is") rfl)
    d__law_is := (cd.def_ 13 (d := dd__law_is) rfl).imp fun _ F => funD_fun F
    g__law_line := He.glo_ok X Gn (cd.fact 14 (f := .glo "_law_line") rfl)
    d__law_line := (cd.def_ 14 (d := dd__law_line) rfl).imp fun _ F => funD_fun F
    g__law_read := He.glo_ok X Gn (cd.fact 15 (f := .glo "_law_read") rfl)
    d__law_read := (cd.def_ 15 (d := dd__law_read) rfl).imp fun _ F => funD_fun F
    g__law_bent := He.glo_ok X Gn (cd.fact 16 (f := .glo "_law_bent") rfl)
    d__law_bent := (cd.def_ 16 (d := dd__law_bent) rfl).imp fun _ F => funD_fun F
    g__law_told := He.glo_ok X Gn (cd.fact 17 (f := .glo "_law_told") rfl)
    d__law_told := (cd.def_ 17 (d := dd__law_told) rfl).imp fun _ F => funD_fun F
    g__law_right := He.glo_ok X Gn (cd.fact 18 (f := .glo "_law_right") rfl)
    d__law_right := (cd.def_ 18 (d := dd__law_right) rfl).imp fun _ F => funD_fun F
    g_law := He.glo_ok X Gn (cd.fact 19 (f := .glo "law") rfl)
    d_law := (cd.def_ 19 (d := dd_law) rfl).imp fun _ F => funD_fun F
    t_wrong_line := TB (He.cT K ("wrong_line", none)) (by simp [htf])
    t__law_right := TB (He.cT K ("_law_right", none)) (by simp [htf])
    c_FIGURES := He.str_ok X Gn (cd.fact 35 (f := .str "FIGURES" "0123456789") rfl)
    c_MOST_HIGH := He.int_ok X Gn (cd.fact 36 (f := .int "MOST_HIGH" 8) rfl)
    c_OPEN := He.str_ok X Gn (cd.fact 37 (f := .str "OPEN" "-") rfl)
    n_abs := He.free_ok X Gn (cd.fact 20 (f := .free "abs") rfl)
    n_all := He.free_ok X Gn (cd.fact 21 (f := .free "all") rfl)
    n_bool := He.free_ok X Gn (cd.fact 22 (f := .free "bool") rfl)
    n_divmod := He.free_ok X Gn (cd.fact 23 (f := .free "divmod") rfl)
    n_enumerate := He.free_ok X Gn (cd.fact 24 (f := .free "enumerate") rfl)
    n_int := He.free_ok X Gn (cd.fact 25 (f := .free "int") rfl)
    n_isinstance := He.free_ok X Gn (cd.fact 26 (f := .free "isinstance") rfl)
    n_len := He.free_ok X Gn (cd.fact 27 (f := .free "len") rfl)
    n_list := He.free_ok X Gn (cd.fact 28 (f := .free "list") rfl)
    n_max := He.free_ok X Gn (cd.fact 29 (f := .free "max") rfl)
    n_min := He.free_ok X Gn (cd.fact 30 (f := .free "min") rfl)
    n_range := He.free_ok X Gn (cd.fact 31 (f := .free "range") rfl)
    n_repr := He.free_ok X Gn (cd.fact 32 (f := .free "repr") rfl)
    n_str := He.free_ok X Gn (cd.fact 33 (f := .free "str") rfl)
    n_tuple := He.free_ok X Gn (cd.fact 34 (f := .free "tuple") rfl)
    g_InvalidLine := He.glo_ok X Gn (cd.fact 38 (f := .glo "InvalidLine") rfl)
    e_InvalidLine := oexB_ok h_e_InvalidLine
    xf_InvalidLine := xfB_ok h_xf_InvalidLine
    iC_InvalidLine := of_decide_eq_true h_iC_InvalidLine
    tI_InvalidLine := of_decide_eq_true h_tI_InvalidLine
    no_InvalidLine := He.noat_ok (cd.fact 39 (f := .noat "InvalidLine" "given") rfl)
    d_InvalidLine := (cd.def_ 20 (d := dd_InvalidLine) rfl).imp fun _ F => funD_fun F
    g_InvalidNotes := He.glo_ok X Gn (cd.fact 40 (f := .glo "InvalidNotes") rfl)
    e_InvalidNotes := oexB_ok h_e_InvalidNotes
    xf_InvalidNotes := xfB_ok h_xf_InvalidNotes
    iC_InvalidNotes := of_decide_eq_true h_iC_InvalidNotes
    tI_InvalidNotes := of_decide_eq_true h_tI_InvalidNotes
    no_InvalidNotes := He.noat_ok (cd.fact 41 (f := .noat "InvalidNotes" "index") rfl)
    d_InvalidNotes := (cd.def_ 21 (d := dd_InvalidNotes) rfl).imp fun _ F => funD_fun F
    m_InvalidLine_InvalidNotes := He.exm_ok (cd.fact 42 (f := .exm "InvalidLine" "InvalidNotes" false) rfl)
    m_InvalidNotes_InvalidNotes := He.exm_ok (cd.fact 43 (f := .exm "InvalidNotes" "InvalidNotes" true) rfl)
    m_InvalidLine_InvalidLine := He.exm_ok (cd.fact 44 (f := .exm "InvalidLine" "InvalidLine" true) rfl)
    m_InvalidNotes_InvalidLine := He.exm_ok (cd.fact 45 (f := .exm "InvalidNotes" "InvalidLine" false) rfl)
    ne_wrong_line__law_right := by simpa using h_ne_wrong_line__law_right }
theorem noLst_of {w : World} {K : PySem.W.Frag} {h : Heap} (c : He.SaysX hfa hfn [] htf hex w h K) : noLst K = true := by
  have hx : hex K = true := c.more
  unfold hex at hx
  simp only [Bool.and_eq_true] at hx
  exact hx.1
end K12
open PySem PySem.W PySem.Calls PyProof.Rows
theorem K12.holds_of (hF : ∀ ns : List Int, ns.length ≤ 63 → (∀ z ∈ ns, Builtin.Int.intBits z ≤ 1048576) → ∃ st, K12.F_law [.d (.list (ns.map PyData.int))] [] = .ok (.d (.bool true)) st) : PySem.Challenge.rw_plainvoices_k12_whole_lines_of_notes.Holds := by
  w_on; o_law
  refine HandSHeadRun.head_any (r := OpenLaw.row PySem.Challenge.rw_plainvoices_k12_whole_lines_of_notes) (q := view (OpenLaw.row PySem.Challenge.rw_plainvoices_k12_whole_lines_of_notes).prog [30]) (H := K12.hk) (ob := K12.ob) (M := 2000) (loose := ["VoiceError", "InvalidLine", "InvalidNotes", "FIGURES", "is_whole", "is_number", "is_figures", "wrong_at", "wrong_from_one", "MOST_HIGH", "OPEN", "line_of", "notes_told", "wrong_line", "notes_line", "read_notes", "_law_well", "_law_draw", "_law_of", "_law_is", "_law_line", "_law_read", "_law_bent", "_law_told", "_law_right"]) (d := HandSHeadRun.topDef (OpenLaw.row PySem.Challenge.rw_plainvoices_k12_whole_lines_of_notes).prog 30) (kwd := []) K12.ob_eq
    (by kernel_rfl) (fun s => by kernel_rfl) K12.run (by kernel_rfl) (by kernel_rfl) (by kernel_rfl) (by rfl) (by first | assumption | decide +kernel) (by decide +kernel) ⟨rfl, rfl, rfl, rfl, rfl, by decide +kernel⟩ ?hw ?hc
  case hw => w_witness2
  case hc =>
    refine TT.walk_ofG (l := PySem.Challenge.rw_plainvoices_k12_whole_lines_of_notes) (n := 63) (k := 11) (x := "script") (F := K12.F_law) rfl (by decide) (by kernel_rfl) ⟨rfl, by decide, by decide⟩ ?F hF
    intro w mg fa h Y Gn hmg0
    obtain ⟨K, KX, c⟩ := Y
    have hmg : mg ("law" : PySem.Str) = some (.ref fa) := by
      have e : (HandSHeadRun.topDef (OpenLaw.row PySem.Challenge.rw_plainvoices_k12_whole_lines_of_notes).prog 30).name = ("law" : PySem.Str) := by kernel_rfl
      rw [← e]
      exact hmg0
    have ge := hmg.symm.trans (He.glo_ok KX Gn (c.t.d.fact 19 (f := .glo "law") rfl))
    cases ge
    refine ⟨K, K12.gd K, K12.htf.map (He.cT K), KX, K12.noLst_of c, ?_, ?_, ?_, ?_, fun base hK hN TB => ?_⟩
    · intro p hp
      obtain ⟨z, hz, e⟩ := List.mem_map.mp hp
      rw [← e]; exact c.empty z hz
    · intro p hp
      obtain ⟨z, hz, e⟩ := List.mem_map.mp hp
      rw [← e]; exact c.out z hz
    · intro p hp
      obtain ⟨z, hz, e⟩ := List.mem_map.mp hp
      rw [← e]; exact PySem.W.codeHd_of_K KX (c.hd z hz)
    · intro t ht
      rcases List.mem_cons.mp ht with e | ht
      · exact ⟨He.cT K ("wrong_line", none), List.mem_map.mpr ⟨_, by simp [K12.htf], rfl⟩, by rw [e]; rfl⟩
      rcases List.mem_cons.mp ht with e | ht
      · exact ⟨He.cT K ("_law_right", none), List.mem_map.mpr ⟨_, by simp [K12.htf], rfl⟩, by rw [e]; rfl⟩
      cases ht
    · have D := K12.ok_law (P := (PySem.Challenge.rw_plainvoices_k12_whole_lines_of_notes).prog) (w := w) (K12.facts hK hN c TB)
      obtain ⟨fd, FF, hb, _⟩ := D.ex
      exact ⟨fd, FF, hb⟩
theorem PySem.Challenge.cw_plainvoices_k12_whole_lines_of_notes_holds : PySem.Challenge.rw_plainvoices_k12_whole_lines_of_notes.Holds := by
  exact K12.holds_of fun ns _ _ => K12.law_eq ns
